import PyProof.Rows.All
import Wide.All
import OpenK.AllK
import Wide.FinOn
import HandS.ForMost
import HandS.ForExc
import HandS.Wide
import HandS.NoneIn
import HandS.Style
import HandS.IsInst
import HandS.DictTup
import HandS.Keys
import KE.SortData
import HandS.Defaults
import HandS.RaiseMore
import PyProof.ReprRoads
import PyProof.InstEq
import PyProof.ReprBulk
import PyProof.Rows.ReprShort
import KE.KDictPairs
import HandS.Conv
import HandS.Zip
import HandS.WideBits
import PySem.Challenge.RW_stepmaps_k27_rotations_of_maps
set_option Elab.async false
set_option linter.all false
set_option maxRecDepth 100000
/-! DL: deep data over the hand layer -/
namespace DL
open PySem L2

/-- deep data -/
inductive D where
  | non
  | bl (b : Bool)
  | int (i : Int)
  | str (x : Str)
  | lst (xs : List D)
  | frl (xs : List D)
  | tup (xs : List D)
  | frt (xs : List D)
  | dic (kvs : List (Sum Int Str × D))
  | dit (kvs : List (List (Sum Int Str) × D))
  | obj (C : Addr) (fs : List (Str × D))
  | cell (k : Nat)
  | raw (v : V)

/-- a key as data, and back -/
def keyD : Key → D
  | .inl i => .int i
  | .inr x => .str x

/-- the written part's lists and tuples -/
def StL (K : PySem.W.Frag) (a : Addr) (xs : List V) : Prop :=
  ∃ (o : Obj) (its : Array Value) (n : Nat), K.lookup a = some o ∧ o.cls = .type "list" ∧ o.dict = none ∧ o.data = .seq its n ∧ its.size ≤ sizeLine ∧ Vals xs its.toList
def StT (K : PySem.W.Frag) (a : Addr) (xs : List V) : Prop :=
  ∃ (o : Obj) (its : Array Value) (n : Nat), K.lookup a = some o ∧ o.cls = .type "tuple" ∧ o.data = .seq its n ∧ its.size ≤ sizeLine ∧ Vals xs its.toList
/-- the written part, and the addresses that are kept apart (lists in the making) -/
structure KP where
  k : PySem.W.Frag
  p : List Addr
def SqM (K : KP) (H : Hp) (M : List Addr) (a : Addr) (xs : List V) : Prop := (Rd H a (.lst xs) ∧ a ∉ M ∧ a ∉ K.p) ∨ StL K.k a xs
def TuM (K : KP) (H : Hp) (M : List Addr) (a : Addr) (xs : List V) : Prop := (Rd H a (.tup xs) ∧ a ∉ M ∧ a ∉ K.p) ∨ StT K.k a xs
theorem SqM.sq {K : KP} {H : Hp} {M : List Addr} {a : Addr} {xs : List V} (h : SqM K H M a xs) : SqL K.k H a xs := by
  rcases h with ⟨h, _⟩ | h
  · exact .inl h
  · exact .inr h
theorem TuM.sq {K : KP} {H : Hp} {M : List Addr} {a : Addr} {xs : List V} (h : TuM K H M a xs) : SqT K.k H a xs := by
  rcases h with ⟨h, _⟩ | h
  · exact .inl h
  · exact .inr h

/-- a value of the hand layer is the data; M: the cells -/
inductive Rep (K : KP) (H : Hp) (M : List Addr) : V → D → Prop
  | non : Rep K H M .non .non
  | bl (b : Bool) : Rep K H M (.bl b) (.bl b)
  | int (i : Int) : Rep K H M (.int i) (.int i)
  | str (x : Str) : Rep K H M (.str x) (.str x)
  | raw (v : V) : Rep K H M v (.raw v)
  | cell {k : Nat} {a : Addr} (h : M[k]? = some a) : Rep K H M (.ref a) (.cell k)
  | lst {a : Addr} {vs : List V} {ds : List D} (h : H a = some (.lst vs)) (hm : a ∉ M ∧ a ∉ K.p) (hl : vs.length = ds.length)
      (hi : ∀ (i : Nat) (v : V) (d : D), vs[i]? = some v → ds[i]? = some d → Rep K H M v d) : Rep K H M (.ref a) (.lst ds)
  | frl {a : Addr} {vs : List V} {ds : List D} (h : SqM K H M a vs) (hl : vs.length = ds.length)
      (hi : ∀ (i : Nat) (v : V) (d : D), vs[i]? = some v → ds[i]? = some d → Rep K H M v d) : Rep K H M (.ref a) (.frl ds)
  | tup {a : Addr} {vs : List V} {ds : List D} (h : H a = some (.tup vs)) (hm : a ∉ M ∧ a ∉ K.p) (hl : vs.length = ds.length)
      (hi : ∀ (i : Nat) (v : V) (d : D), vs[i]? = some v → ds[i]? = some d → Rep K H M v d) : Rep K H M (.ref a) (.tup ds)
  | frt {a : Addr} {vs : List V} {ds : List D} (h : TuM K H M a vs) (hl : vs.length = ds.length)
      (hi : ∀ (i : Nat) (v : V) (d : D), vs[i]? = some v → ds[i]? = some d → Rep K H M v d) : Rep K H M (.ref a) (.frt ds)
  | dic {a : Addr} {kvs : List (Key × V)} {kds : List (Key × D)} (h : H a = some (.dK kvs)) (hm : a ∉ M ∧ a ∉ K.p) (hk : kvs.map (·.1) = kds.map (·.1))
      (hi : ∀ (i : Nat) (v : V) (d : D), (kvs.map (·.2))[i]? = some v → (kds.map (·.2))[i]? = some d → Rep K H M v d) : Rep K H M (.ref a) (.dic kds)
  | dicT {a : Addr} {kvs : List (List Key × V)} {kds : List (List Key × D)} (h : H a = some (.dT kvs)) (hm : a ∉ M ∧ a ∉ K.p) (hk : kvs.map (·.1) = kds.map (·.1))
      (hi : ∀ (i : Nat) (v : V) (d : D), (kvs.map (·.2))[i]? = some v → (kds.map (·.2))[i]? = some d → Rep K H M v d) : Rep K H M (.ref a) (.dit kds)
  | obj {a C dx : Addr} {fvs : List (Str × V)} {fds : List (Str × D)} (h : H a = some (.ins C dx fvs)) (hm : a ∉ M ∧ a ∉ K.p) (hk : fvs.map (·.1) = fds.map (·.1))
      (hi : ∀ (i : Nat) (v : V) (d : D), (fvs.map (·.2))[i]? = some v → (fds.map (·.2))[i]? = some d → Rep K H M v d) : Rep K H M (.ref a) (.obj C fds)

/-- lists of values -/
def RepL (K : KP) (H : Hp) (M : List Addr) (vs : List V) (ds : List D) : Prop :=
  vs.length = ds.length ∧ ∀ (i : Nat) (v : V) (d : D), vs[i]? = some v → ds[i]? = some d → Rep K H M v d
def RepK (K : KP) (H : Hp) (M : List Addr) (kvs : List (Key × V)) (kds : List (Key × D)) : Prop :=
  kvs.map (·.1) = kds.map (·.1) ∧ ∀ (i : Nat) (v : V) (d : D), (kvs.map (·.2))[i]? = some v → (kds.map (·.2))[i]? = some d → Rep K H M v d
def RepT (K : KP) (H : Hp) (M : List Addr) (kvs : List (List Key × V)) (kds : List (List Key × D)) : Prop :=
  kvs.map (·.1) = kds.map (·.1) ∧ ∀ (i : Nat) (v : V) (d : D), (kvs.map (·.2))[i]? = some v → (kds.map (·.2))[i]? = some d → Rep K H M v d
def RepF (K : KP) (H : Hp) (M : List Addr) (fvs : List (Str × V)) (fds : List (Str × D)) : Prop :=
  fvs.map (·.1) = fds.map (·.1) ∧ ∀ (i : Nat) (v : V) (d : D), (fvs.map (·.2))[i]? = some v → (fds.map (·.2))[i]? = some d → Rep K H M v d

/-- the heap goes on: new cells behind, all but the cells stays -/
structure Ext (H : Hp) (M : List Addr) (H' : Hp) (M' : List Addr) : Prop where
  more : ∃ N, M' = M ++ N ∧ ∀ a ∈ N, H a = none
  keep : ∀ a o, a ∉ M → H a = some o → H' a = some o
  live : ∀ a, H a ≠ none → H' a ≠ none

section
variable {K : KP} {H H' H'' H1 H2 : Hp} {M M' M'' M1 M2 : List Addr} {v : V} {d : D} {vs : List V} {ds : List D} {a : Addr}
theorem Ext.refl (H : Hp) (M : List Addr) : Ext H M H M := ⟨⟨[], by simp, by simp⟩, fun _ _ _ h => h, fun _ h => h⟩
theorem Ext.trans (e : Ext H M H' M') (f : Ext H' M' H'' M'') : Ext H M H'' M'' := by
  obtain ⟨⟨N, rfl, hN⟩, k1, l1⟩ := e
  obtain ⟨⟨N2, rfl, hN2⟩, k2, l2⟩ := f
  have nn : ∀ a o, a ∉ M → H a = some o → a ∉ M ++ N := fun a o ha h hm => by
    rcases List.mem_append.mp hm with z | z
    · exact ha z
    · rw [hN a z] at h; cases h
  refine ⟨⟨N ++ N2, by rw [List.append_assoc], fun a ha => ?_⟩, fun a o ha h => k2 a o (nn a o ha h) (k1 a o ha h), fun a h => l2 a (l1 a h)⟩
  rcases List.mem_append.mp ha with z | z
  · exact hN a z
  · cases q : H a with
    | none => rfl
    | some o => exact absurd (hN2 a z) (l1 a (by rw [q]; exact fun z => nomatch z))
theorem Ext.notin (e : Ext H M H' M') {a : Addr} {o : HO} (h : H a = some o) (hm : a ∉ M) : a ∉ M' := by
  obtain ⟨⟨N, rfl, hN⟩, _, _⟩ := e
  intro z
  rcases List.mem_append.mp z with z | z
  · exact hm z
  · rw [hN a z] at h; cases h
theorem Ext.same (s : Same H H') : Ext H M H' M := ⟨⟨[], by simp, by simp⟩, fun a o _ h => s a o h, fun a h => by
  cases q : H a with
  | none => exact absurd q h
  | some o => rw [s a o q]; exact fun z => nomatch z⟩
theorem Ext.new {p : Addr} {o : HO} (hp : H p = none) : Ext H M (upd H p o) M := Ext.same fun b u h => by
  rw [upd_ne (ne_of_none h hp)]; exact h
theorem Ext.newC {p : Addr} {o : HO} (hp : H p = none) : Ext H M (upd H p o) (M ++ [p]) := by
  obtain ⟨_, k, l⟩ := Ext.new (M := M) (o := o) hp
  exact ⟨⟨[p], rfl, fun a ha => by rw [List.mem_singleton.mp ha]; exact hp⟩, k, l⟩
theorem Ext.wr {p : Addr} {o : HO} (hp : p ∈ M) : Ext H M (upd H p o) M :=
  ⟨⟨[], by simp, by simp⟩, fun a u ha h => by rw [upd_ne (show a ≠ p from fun z => ha (by rw [z]; exact hp))]; exact h, fun a h => by
    by_cases e : a = p
    · subst e; rw [upd_same]; exact fun z => nomatch z
    · rw [upd_ne e]; exact h⟩
theorem Ext.cells (e : Ext H M H' M') {k : Nat} {a : Addr} (h : M[k]? = some a) : M'[k]? = some a := by
  obtain ⟨⟨N, rfl, _⟩, _, _⟩ := e
  rw [List.getElem?_append_left (List.getElem?_eq_some_iff.mp h).1]; exact h
theorem SqM.ext {xs : List V} (h : SqM K H M a xs) (e : Ext H M H' M') : SqM K H' M' a xs := by
  rcases h with ⟨h | ⟨o, h⟩, hm⟩ | h
  · exact .inl ⟨.inl (e.keep _ _ hm.1 h), e.notin h hm.1, hm.2⟩
  · exact .inl ⟨.inr ⟨o, e.keep _ _ hm.1 h⟩, e.notin h hm.1, hm.2⟩
  · exact .inr h
theorem TuM.ext {xs : List V} (h : TuM K H M a xs) (e : Ext H M H' M') : TuM K H' M' a xs := by
  rcases h with ⟨h | ⟨o, h⟩, hm⟩ | h
  · exact .inl ⟨.inl (e.keep _ _ hm.1 h), e.notin h hm.1, hm.2⟩
  · exact .inl ⟨.inr ⟨o, e.keep _ _ hm.1 h⟩, e.notin h hm.1, hm.2⟩
  · exact .inr h
theorem Rep.ext (r : Rep K H M v d) (e : Ext H M H' M') : Rep K H' M' v d := by
  induction r with
  | non => exact .non
  | bl b => exact .bl b
  | int i => exact .int i
  | str x => exact .str x
  | raw v => exact .raw v
  | cell h => exact .cell (e.cells h)
  | lst h hm hl _ ih => exact .lst (e.keep _ _ hm.1 h) ⟨e.notin h hm.1, hm.2⟩ hl ih
  | frl h hl _ ih => exact .frl (h.ext e) hl ih
  | tup h hm hl _ ih => exact .tup (e.keep _ _ hm.1 h) ⟨e.notin h hm.1, hm.2⟩ hl ih
  | frt h hl _ ih => exact .frt (h.ext e) hl ih
  | dic h hm hk _ ih => exact .dic (e.keep _ _ hm.1 h) ⟨e.notin h hm.1, hm.2⟩ hk ih
  | dicT h hm hk _ ih => exact .dicT (e.keep _ _ hm.1 h) ⟨e.notin h hm.1, hm.2⟩ hk ih
  | obj h hm hk _ ih => exact .obj (e.keep _ _ hm.1 h) ⟨e.notin h hm.1, hm.2⟩ hk ih
theorem RepL.ext (r : RepL K H M vs ds) (e : Ext H M H' M') : RepL K H' M' vs ds := ⟨r.1, fun i v d h1 h2 => (r.2 i v d h1 h2).ext e⟩
theorem RepK.ext {kvs : List (Key × V)} {kds : List (Key × D)} (r : RepK K H M kvs kds) (e : Ext H M H' M') : RepK K H' M' kvs kds := ⟨r.1, fun i v d h1 h2 => (r.2 i v d h1 h2).ext e⟩
theorem RepT.ext {kvs : List (List Key × V)} {kds : List (List Key × D)} (r : RepT K H M kvs kds) (e : Ext H M H' M') : RepT K H' M' kvs kds := ⟨r.1, fun i v d h1 h2 => (r.2 i v d h1 h2).ext e⟩
theorem RepF.ext {fvs : List (Str × V)} {fds : List (Str × D)} (r : RepF K H M fvs fds) (e : Ext H M H' M') : RepF K H' M' fvs fds := ⟨r.1, fun i v d h1 h2 => (r.2 i v d h1 h2).ext e⟩
theorem RepL.nil : RepL K H M [] [] := ⟨rfl, fun i v d h => by simp at h⟩
theorem RepL.cons (r : Rep K H M v d) (rs : RepL K H M vs ds) : RepL K H M (v :: vs) (d :: ds) := by
  refine ⟨by simp [rs.1], fun i w e h1 h2 => ?_⟩
  cases i with
  | zero => simp at h1 h2; subst h1 h2; exact r
  | succ i => simp at h1 h2; exact rs.2 i w e h1 h2
theorem RepL.head {ws : List V} {d : D} {ds : List D} (r : RepL K H M ws (d :: ds)) : ∃ v vs, ws = v :: vs ∧ Rep K H M v d ∧ RepL K H M vs ds := by
  obtain ⟨hl, hi⟩ := r
  cases ws with
  | nil => simp at hl
  | cons v vs => exact ⟨v, vs, rfl, hi 0 v d rfl rfl, by simpa using hl, fun i w e h1 h2 => hi (i + 1) w e (by simpa using h1) (by simpa using h2)⟩
theorem RepL.nil' {ws : List V} (r : RepL K H M ws []) : ws = [] := by
  have := r.1
  exact List.length_eq_zero_iff.mp (by simpa using this)
theorem RepL.one {ws : List V} {d : D} (r : RepL K H M ws [d]) : ∃ v, ws = [v] ∧ Rep K H M v d := by
  obtain ⟨v, vs, rfl, h, t⟩ := r.head
  rw [t.nil']; exact ⟨v, rfl, h⟩
theorem RepL.two {ws : List V} {d e : D} (r : RepL K H M ws [d, e]) : ∃ v u, ws = [v, u] ∧ Rep K H M v d ∧ Rep K H M u e := by
  obtain ⟨v, vs, rfl, h, t⟩ := r.head
  obtain ⟨u, rfl, h2⟩ := t.one
  exact ⟨v, u, rfl, h, h2⟩
theorem RepL.three {ws : List V} {d e f : D} (r : RepL K H M ws [d, e, f]) : ∃ v u w, ws = [v, u, w] ∧ Rep K H M v d ∧ Rep K H M u e ∧ Rep K H M w f := by
  obtain ⟨v, vs, rfl, h, t⟩ := r.head
  obtain ⟨u, w, rfl, h2, h3⟩ := t.two
  exact ⟨v, u, w, rfl, h, h2, h3⟩
theorem RepL.append {us : List V} {es : List D} (r : RepL K H M vs ds) (q : RepL K H M us es) : RepL K H M (vs ++ us) (ds ++ es) := by
  refine ⟨by simp [r.1, q.1], fun i v d h1 h2 => ?_⟩
  by_cases hi : i < vs.length
  · rw [List.getElem?_append_left hi] at h1
    rw [List.getElem?_append_left (r.1 ▸ hi)] at h2
    exact r.2 i v d h1 h2
  · rw [List.getElem?_append_right (by omega)] at h1
    rw [List.getElem?_append_right (by rw [← r.1]; omega), ← r.1] at h2
    exact q.2 _ v d h1 h2
theorem RepL.take (r : RepL K H M vs ds) (n : Nat) : RepL K H M (vs.take n) (ds.take n) := by
  refine ⟨by simp [r.1], fun i v d h1 h2 => ?_⟩
  have hi : i < n := by
    have h3 := (List.getElem?_eq_some_iff.mp h1).1
    rw [List.length_take] at h3; omega
  rw [List.getElem?_take_of_lt hi] at h1 h2
  exact r.2 i v d h1 h2
theorem RepL.drop (r : RepL K H M vs ds) (n : Nat) : RepL K H M (vs.drop n) (ds.drop n) := by
  refine ⟨by simp [r.1], fun i v d h1 h2 => ?_⟩
  rw [List.getElem?_drop] at h1 h2
  exact r.2 _ v d h1 h2
theorem RepL.reverse (r : RepL K H M vs ds) : RepL K H M vs.reverse ds.reverse := by
  refine ⟨by simp [r.1], fun i v d h1 h2 => ?_⟩
  have hi : i < vs.length := by
    have h3 := (List.getElem?_eq_some_iff.mp h1).1
    simpa using h3
  rw [List.getElem?_reverse hi] at h1
  rw [List.getElem?_reverse (r.1 ▸ hi), ← r.1] at h2
  exact r.2 _ v d h1 h2
theorem RepL.set (r : RepL K H M vs ds) (j : Nat) {v : V} {d : D} (q : Rep K H M v d) : RepL K H M (vs.set j v) (ds.set j d) := by
  refine ⟨by simp [r.1], fun i w e h1 h2 => ?_⟩
  by_cases hj : j = i
  · subst hj
    have hi : j < vs.length := by
      have h3 := (List.getElem?_eq_some_iff.mp h1).1
      simpa using h3
    rw [List.getElem?_set_self hi] at h1
    rw [List.getElem?_set_self (r.1 ▸ hi)] at h2
    cases h1; cases h2; exact q
  · rw [List.getElem?_set_ne hj] at h1 h2
    exact r.2 i w e h1 h2
theorem RepL.eraseIdx (r : RepL K H M vs ds) (j : Nat) : RepL K H M (vs.eraseIdx j) (ds.eraseIdx j) := by
  refine ⟨by rw [List.length_eraseIdx, List.length_eraseIdx, r.1], fun i v d h1 h2 => ?_⟩
  rw [List.getElem?_eraseIdx] at h1 h2
  split at h1
  · rename_i h; rw [if_pos h] at h2; exact r.2 _ v d h1 h2
  · rename_i h; rw [if_neg h] at h2; exact r.2 _ v d h1 h2
theorem RepL.get (r : RepL K H M vs ds) {i : Nat} {d : D} (h : ds[i]? = some d) : ∃ v, vs[i]? = some v ∧ Rep K H M v d := by
  have hi : i < vs.length := by rw [r.1]; exact (List.getElem?_eq_some_iff.mp h).1
  exact ⟨vs[i], by simp [hi], r.2 i _ d (by simp [hi]) h⟩

theorem nodupIx {α : Type} : ∀ {l : List α}, l.Nodup → ∀ {i j : Nat} {a : α}, l[i]? = some a → l[j]? = some a → i = j
  | [], _, i, j, a, h, _ => by simp at h
  | x :: l, nd, i, j, a, h1, h2 => by
    obtain ⟨n1, n2⟩ := List.nodup_cons.mp nd
    cases i with
    | zero =>
      cases j with
      | zero => rfl
      | succ j => simp at h1 h2; subst h1; exact absurd (List.mem_of_getElem? h2) n1
    | succ i =>
      cases j with
      | zero => simp at h1 h2; subst h2; exact absurd (List.mem_of_getElem? h1) n1
      | succ j => simp at h1 h2; rw [nodupIx n2 h1 h2]
/-! ### the cells -/
def Cel (K : KP) (H : Hp) (M : List Addr) (a : Addr) : D → Prop
  | .lst ds => ∃ vs, H a = some (.lst vs) ∧ RepL K H M vs ds
  | .dic kds => ∃ kvs, H a = some (.dK kvs) ∧ RepK K H M kvs kds
  | .dit kds => ∃ kvs, H a = some (.dT kvs) ∧ RepT K H M kvs kds
  | .obj C fds => ∃ dx fvs, H a = some (.ins C dx fvs) ∧ RepF K H M fvs fds
  | _ => False
structure Sto (K : KP) (H : Hp) (M : List Addr) (τ : List D) : Prop where
  len : M.length = τ.length
  nd : M.Nodup
  prot : ∀ a ∈ K.p, H a ≠ none ∧ a ∉ M
  at_ : ∀ (k : Nat) (a : Addr) (d : D), M[k]? = some a → τ[k]? = some d → Cel K H M a d
theorem Cel.there {a : Addr} {d : D} (h : Cel K H M a d) : H a ≠ none := by
  cases d with
  | lst ds => obtain ⟨vs, e, _⟩ := h; rw [e]; exact fun z => nomatch z
  | dic ds => obtain ⟨vs, e, _⟩ := h; rw [e]; exact fun z => nomatch z
  | dit ds => obtain ⟨vs, e, _⟩ := h; rw [e]; exact fun z => nomatch z
  | obj C ds => obtain ⟨dx, vs, e, _⟩ := h; rw [e]; exact fun z => nomatch z
  | _ => exact h.elim
theorem Cel.stay {a : Addr} {d : D} (h : Cel K H M a d) (e : Ext H M H' M') (ha : H' a = H a) : Cel K H' M' a d := by
  cases d with
  | lst ds => obtain ⟨vs, q, r⟩ := h; exact ⟨vs, ha.trans q, r.ext e⟩
  | dic ds => obtain ⟨vs, q, r⟩ := h; exact ⟨vs, ha.trans q, r.ext e⟩
  | dit ds => obtain ⟨vs, q, r⟩ := h; exact ⟨vs, ha.trans q, r.ext e⟩
  | obj C ds => obtain ⟨dx, vs, q, r⟩ := h; exact ⟨dx, vs, ha.trans q, r.ext e⟩
  | _ => exact h.elim
variable {τ τ' : List D}
theorem Sto.there (S : Sto K H M τ) {a : Addr} (h : a ∈ M) : H a ≠ none := by
  obtain ⟨k, hk, e⟩ := List.getElem_of_mem h
  have hk' : k < τ.length := by rw [← S.len]; exact hk
  exact (S.at_ k a τ[k] (by rw [List.getElem?_eq_getElem hk, e]) (by simp [hk'])).there
theorem Sto.new (S : Sto K H M τ) {p : Addr} (h : H p = none) : p ∉ M ∧ p ∉ K.p := ⟨fun z => S.there z h, fun z => (S.prot p z).1 h⟩
theorem Sto.get (S : Sto K H M τ) {k : Nat} {a : Addr} (h : M[k]? = some a) : ∃ d, τ[k]? = some d ∧ Cel K H M a d := by
  have hk : k < τ.length := by rw [← S.len]; exact (List.getElem?_eq_some_iff.mp h).1
  exact ⟨τ[k], by simp [hk], S.at_ k a _ h (by simp [hk])⟩
theorem Sto.same (S : Sto K H M τ) (s : Same H H') : Sto K H' M τ := ⟨S.len, S.nd, fun a ha => ⟨(Ext.same (M := M) s).live a (S.prot a ha).1, (S.prot a ha).2⟩, fun k a d h1 h2 => by
  have c := S.at_ k a d h1 h2
  refine c.stay (Ext.same s) ?_
  cases q : H a with
  | none => exact absurd q c.there
  | some o => exact s a o q⟩
theorem Same.new {p : Addr} {o : HO} (hp : H p = none) : Same H (upd H p o) := fun b u h => by rw [upd_ne (ne_of_none h hp)]; exact h
theorem Sto.newC (S : Sto K H M τ) {p : Addr} {o : HO} {d : D} (hp : H p = none) (c : Cel K (upd H p o) (M ++ [p]) p d) : Sto K (upd H p o) (M ++ [p]) (τ ++ [d]) := by
  refine ⟨by simp [S.len], ?_, fun a ha => ⟨(Ext.new (M := M) hp).live a (S.prot a ha).1, fun z => ?_⟩, fun k a e h1 h2 => ?_⟩
  · rw [List.nodup_append]
    exact ⟨S.nd, by simp, fun x hx y hy z => by rw [List.mem_singleton.mp hy] at z; subst z; exact (S.new hp).1 hx⟩
  · rcases List.mem_append.mp z with z | z
    · exact (S.prot a ha).2 z
    · rw [List.mem_singleton.mp z] at ha; exact (S.new hp).2 ha
  · by_cases hk : k < M.length
    · rw [List.getElem?_append_left hk] at h1
      rw [List.getElem?_append_left (S.len ▸ hk)] at h2
      have c' := S.at_ k a e h1 h2
      exact c'.stay (Ext.newC hp) (upd_ne fun z => c'.there (z ▸ hp))
    · have hk' : k = M.length := by
        have := (List.getElem?_eq_some_iff.mp h1).1
        rw [List.length_append, List.length_singleton] at this; omega
      subst hk'
      rw [List.getElem?_append_right (Nat.le_refl _), Nat.sub_self] at h1
      rw [S.len, List.getElem?_append_right (Nat.le_refl _), Nat.sub_self] at h2
      simp at h1 h2; subst h1 h2; exact c
theorem Sto.wr (S : Sto K H M τ) {k : Nat} {p : Addr} {o : HO} {d : D} (hk : M[k]? = some p) (c : Cel K (upd H p o) M p d) : Sto K (upd H p o) M (τ.set k d) := by
  have hp : p ∈ M := List.mem_of_getElem? hk
  refine ⟨by simp [S.len], S.nd, fun a ha => ⟨(Ext.wr hp).live a (S.prot a ha).1, (S.prot a ha).2⟩, fun j a e h1 h2 => ?_⟩
  by_cases hj : k = j
  · subst hj
    rw [hk] at h1; cases h1
    have : k < τ.length := by rw [← S.len]; exact (List.getElem?_eq_some_iff.mp hk).1
    rw [List.getElem?_set_self this] at h2
    cases h2; exact c
  · rw [List.getElem?_set_ne hj] at h2
    have c' := S.at_ j a e h1 h2
    have ne : a ≠ p := fun z => hj (nodupIx S.nd hk (by rw [← z]; exact h1))
    exact c'.stay (Ext.wr hp) (upd_ne ne)

/-- what a value is, its cell opened -/
def der (τ : List D) : D → D
  | .cell k => (τ[k]?).getD .non
  | d => d
theorem Rep.opened (r : Rep K H M v d) (S : Sto K H M τ) : (∃ k a, d = .cell k ∧ v = .ref a ∧ M[k]? = some a ∧ τ[k]? = some (der τ d) ∧ Cel K H M a (der τ d)) ∨ (der τ d = d) := by
  cases r with
  | @cell k a h =>
    obtain ⟨e, h1, h2⟩ := S.get h
    have : der τ (.cell k) = e := by simp [der, h1]
    exact .inl ⟨k, a, rfl, rfl, h, by rw [this]; exact h1, by rw [this]; exact h2⟩
  | _ => exact .inr rfl
theorem rep_non (r : Rep K H M v d) (S : Sto K H M τ) (e : der τ d = .non) : v = .non := by
  rcases r.opened S with ⟨k, a, rfl, rfl, h1, h2, h3⟩ | q
  · rw [e] at h3; exact h3.elim
  · rw [q] at e; subst e; cases r; rfl
theorem rep_int {i : Int} (r : Rep K H M v d) (S : Sto K H M τ) (e : der τ d = .int i) : v = .int i := by
  rcases r.opened S with ⟨k, a, rfl, rfl, h1, h2, h3⟩ | q
  · rw [e] at h3; exact h3.elim
  · rw [q] at e; subst e; cases r; rfl
theorem rep_bl {i : Bool} (r : Rep K H M v d) (S : Sto K H M τ) (e : der τ d = .bl i) : v = .bl i := by
  rcases r.opened S with ⟨k, a, rfl, rfl, h1, h2, h3⟩ | q
  · rw [e] at h3; exact h3.elim
  · rw [q] at e; subst e; cases r; rfl
theorem rep_str {i : Str} (r : Rep K H M v d) (S : Sto K H M τ) (e : der τ d = .str i) : v = .str i := by
  rcases r.opened S with ⟨k, a, rfl, rfl, h1, h2, h3⟩ | q
  · rw [e] at h3; exact h3.elim
  · rw [q] at e; subst e; cases r; rfl
theorem rep_lst {ds : List D} (r : Rep K H M v d) (S : Sto K H M τ) (e : der τ d = .lst ds) : ∃ a vs, v = .ref a ∧ H a = some (.lst vs) ∧ RepL K H M vs ds := by
  rcases r.opened S with ⟨k, a, rfl, rfl, h1, h2, h3⟩ | q
  · rw [e] at h3; obtain ⟨vs, h4, h5⟩ := h3; exact ⟨a, vs, rfl, h4, h5⟩
  · rw [q] at e; subst e; cases r with
    | lst h hm hl hi => exact ⟨_, _, rfl, h, hl, hi⟩
theorem rep_frl {ds : List D} (r : Rep K H M v d) (S : Sto K H M τ) (e : der τ d = .frl ds) : ∃ a vs, v = .ref a ∧ SqL K.k H a vs ∧ RepL K H M vs ds := by
  rcases r.opened S with ⟨k, a, rfl, rfl, h1, h2, h3⟩ | q
  · rw [e] at h3; exact h3.elim
  · rw [q] at e; subst e; cases r with
    | frl h hl hi => exact ⟨_, _, rfl, h.sq, hl, hi⟩
theorem rep_tup {ds : List D} (r : Rep K H M v d) (S : Sto K H M τ) (e : der τ d = .tup ds) : ∃ a vs, v = .ref a ∧ H a = some (.tup vs) ∧ RepL K H M vs ds := by
  rcases r.opened S with ⟨k, a, rfl, rfl, h1, h2, h3⟩ | q
  · rw [e] at h3; exact h3.elim
  · rw [q] at e; subst e; cases r with
    | tup h hm hl hi => exact ⟨_, _, rfl, h, hl, hi⟩
theorem rep_frt {ds : List D} (r : Rep K H M v d) (S : Sto K H M τ) (e : der τ d = .frt ds) : ∃ a vs, v = .ref a ∧ SqT K.k H a vs ∧ RepL K H M vs ds := by
  rcases r.opened S with ⟨k, a, rfl, rfl, h1, h2, h3⟩ | q
  · rw [e] at h3; exact h3.elim
  · rw [q] at e; subst e; cases r with
    | frt h hl hi => exact ⟨_, _, rfl, h.sq, hl, hi⟩
theorem rep_dic {kds : List (Key × D)} (r : Rep K H M v d) (S : Sto K H M τ) (e : der τ d = .dic kds) : ∃ a kvs, v = .ref a ∧ H a = some (.dK kvs) ∧ RepK K H M kvs kds := by
  rcases r.opened S with ⟨k, a, rfl, rfl, h1, h2, h3⟩ | q
  · rw [e] at h3; obtain ⟨vs, h4, h5⟩ := h3; exact ⟨a, vs, rfl, h4, h5⟩
  · rw [q] at e; subst e; cases r with
    | dic h hm hk hi => exact ⟨_, _, rfl, h, hk, hi⟩
theorem rep_dit {kds : List (List Key × D)} (r : Rep K H M v d) (S : Sto K H M τ) (e : der τ d = .dit kds) : ∃ a kvs, v = .ref a ∧ H a = some (.dT kvs) ∧ RepT K H M kvs kds := by
  rcases r.opened S with ⟨k, a, rfl, rfl, h1, h2, h3⟩ | q
  · rw [e] at h3; obtain ⟨vs, h4, h5⟩ := h3; exact ⟨a, vs, rfl, h4, h5⟩
  · rw [q] at e; subst e; cases r with
    | dicT h hm hk hi => exact ⟨_, _, rfl, h, hk, hi⟩
theorem rep_obj {C : Addr} {fds : List (Str × D)} (r : Rep K H M v d) (S : Sto K H M τ) (e : der τ d = .obj C fds) :
    ∃ a dx fvs, v = .ref a ∧ H a = some (.ins C dx fvs) ∧ RepF K H M fvs fds := by
  rcases r.opened S with ⟨k, a, rfl, rfl, h1, h2, h3⟩ | q
  · rw [e] at h3; obtain ⟨dx, fvs, h4, h5⟩ := h3; exact ⟨a, dx, fvs, rfl, h4, h5⟩
  · rw [q] at e; subst e; cases r with
    | obj h hm hk hi => exact ⟨_, _, _, rfl, h, hk, hi⟩
/-- new frozen things -/
theorem rep_newLst {p : Addr} (S : Sto K H M τ) (hp : H p = none) (r : RepL K H M vs ds) : Rep K (upd H p (.lst vs)) M (.ref p) (.lst ds) :=
  .lst upd_same (S.new hp) r.1 (r.ext (Ext.new hp)).2
theorem rep_newTup {p : Addr} (S : Sto K H M τ) (hp : H p = none) (r : RepL K H M vs ds) : Rep K (upd H p (.tup vs)) M (.ref p) (.tup ds) :=
  .tup upd_same (S.new hp) r.1 (r.ext (Ext.new hp)).2
end
end DL

namespace DL
open PySem L2

inductive R (α : Type) where
  | ok (a : α) (τ : List D)
  | exn (C : Addr) (fs : List (Str × D)) (τ : List D)
  | bad
def R.bind {α β : Type} (r : R α) (f : α → List D → R β) : R β := match r with
  | .ok a τ => f a τ
  | .exn C fs τ => .exn C fs τ
  | .bad => .bad
@[simp] theorem R.bind_ok {α β : Type} (a : α) (τ : List D) (f : α → List D → R β) : (R.ok a τ).bind f = f a τ := rfl
@[simp] theorem R.bind_exn {α β : Type} (C : Addr) (fs : List (Str × D)) (τ : List D) (f : α → List D → R β) : (R.exn C fs τ : R α).bind f = .exn C fs τ := rfl
@[simp] theorem R.bind_bad {α β : Type} (f : α → List D → R β) : (R.bad : R α).bind f = .bad := rfl

abbrev DEnv := List (Option D)
abbrev DE := DEnv → List D → R D
abbrev DA := DEnv → List D → R (List D)
abbrev DT := DEnv → List D → R Bool
abbrev Pr := List D → List D → R D
abbrev DG := D → DEnv → List D → R DEnv
abbrev DI := DEnv → List D → R (List D)

inductive RS where
  | nx (δ : DEnv) (τ : List D)
  | rt (d : D) (τ : List D)
  | bk (δ : DEnv) (τ : List D)
  | ct (δ : DEnv) (τ : List D)
  | exn (C : Addr) (fs : List (Str × D)) (τ : List D)
  | bad
abbrev DS := DEnv → List D → RS

section
variable (K : KP) (E : XK)
def Post {α : Type} (H : Hp) (M : List Addr) (r : R α) (k : Hp → List Addr → List D → α → Prop) : Prop := match r with
  | .ok a τ' => ∀ H' M', Ext H M H' M' → Sto K H' M' τ' → k H' M' τ' a
  | .exn C fs τ' => ∀ H' M' d fvs, Ext H M H' M' → Sto K H' M' τ' → H' d = some (.xd fvs) → RepF K H' M' fvs fs → E (.ref C) (some d) H'
  | .bad => False
structure EnvD (H : Hp) (M : List Addr) (σ : St) (δ : DEnv) : Prop where
  len : σ.length = δ.length
  at_ : ∀ (i : Nat) (d : D), δ[i]? = some (some d) → ∃ v, σ[i]? = some (some v) ∧ Rep K H M v d
end
/-! a primitive, by values -/
section
variable (K : PySem.W.Frag) (E : XK)
def rP (g : Pr) : List V → Hp → VK → Prop := fun vs H Q => ∃ P M τ ds, Sto ⟨K, P⟩ H M τ ∧ RepL ⟨K, P⟩ H M vs ds ∧ Post ⟨K, P⟩ E H M (g ds τ) fun H' M' _ d => ∀ v, Rep ⟨K, P⟩ H' M' v d → Q v H'
def tE (f : DE) : TE := fun σ H Q => ∃ P M δ τ, EnvD ⟨K, P⟩ H M σ δ ∧ Sto ⟨K, P⟩ H M τ ∧ Post ⟨K, P⟩ E H M (f δ τ) fun H' M' _ d => ∀ v, Rep ⟨K, P⟩ H' M' v d → Q v H'
def tT (f : DT) : TT := fun σ H Q => ∃ P M δ τ, EnvD ⟨K, P⟩ H M σ δ ∧ Sto ⟨K, P⟩ H M τ ∧ Post ⟨K, P⟩ E H M (f δ τ) fun H' _ _ b => Q b H'
def dArgs : List DE → DA
  | [], _, τ => .ok [] τ
  | f :: fs, δ, τ => (f δ τ).bind fun d τ1 => (dArgs fs δ τ1).bind fun ds τ2 => .ok (d :: ds) τ2
def tA (fs : List DE) : TA := fun σ H Q => ∃ P M δ τ, EnvD ⟨K, P⟩ H M σ δ ∧ Sto ⟨K, P⟩ H M τ ∧ Post ⟨K, P⟩ E H M (dArgs fs δ τ) fun H' M' _ ds => ∀ vs, RepL ⟨K, P⟩ H' M' vs ds → Q vs H'
def tG (g : DG) : TG := fun v σ H Q => ∃ P M δ τ d, EnvD ⟨K, P⟩ H M σ δ ∧ Sto ⟨K, P⟩ H M τ ∧ Rep ⟨K, P⟩ H M v d ∧ Post ⟨K, P⟩ E H M (g d δ τ) fun H' M' _ δ' => ∀ σ', EnvD ⟨K, P⟩ H' M' σ' δ' → Q σ' H'
end
section
variable (K : KP) (E : XK)
def PostS (H : Hp) (M : List Addr) (D : Ends) (r : RS) : Prop := match r with
  | .nx δ' τ' => ∀ H' M' σ', Ext H M H' M' → EnvD K H' M' σ' δ' → Sto K H' M' τ' → D.nx σ' H'
  | .bk δ' τ' => ∀ H' M' σ', Ext H M H' M' → EnvD K H' M' σ' δ' → Sto K H' M' τ' → D.bk σ' H'
  | .ct δ' τ' => ∀ H' M' σ', Ext H M H' M' → EnvD K H' M' σ' δ' → Sto K H' M' τ' → D.ct σ' H'
  | .rt d τ' => ∀ H' M' v, Ext H M H' M' → Sto K H' M' τ' → Rep K H' M' v d → D.rt v H'
  | .exn C fs τ' => ∀ H' M' d fvs, Ext H M H' M' → Sto K H' M' τ' → H' d = some (.xd fvs) → RepF K H' M' fvs fs → E (.ref C) (some d) H'
  | .bad => False
end
section
variable (K : PySem.W.Frag) (E : XK)
def tS (f : DS) : TS := fun D σ H => ∃ P M δ τ, EnvD ⟨K, P⟩ H M σ δ ∧ Sto ⟨K, P⟩ H M τ ∧ PostS ⟨K, P⟩ E H M D (f δ τ)
end

section
variable {K : KP} {E : XK} {H H' : Hp} {M M' : List Addr} {σ : St} {δ : DEnv} {τ : List D} {α β : Type}
theorem EnvD.ext (n : EnvD K H M σ δ) (e : Ext H M H' M') : EnvD K H' M' σ δ := ⟨n.len, fun i d h => by
  obtain ⟨v, h1, h2⟩ := n.at_ i d h
  exact ⟨v, h1, h2.ext e⟩⟩
theorem EnvD.set (n : EnvD K H M σ δ) {v : V} {d : D} (r : Rep K H M v d) (i : Nat) : EnvD K H M (σ.set i (some v)) (δ.set i (some d)) := by
  refine ⟨by simp [n.len], fun j e h => ?_⟩
  by_cases hj : i = j
  · subst hj
    have hi : i < δ.length := by simpa using (List.getElem?_eq_some_iff.mp h).1
    rw [List.getElem?_set_self hi] at h
    cases h
    exact ⟨v, by rw [List.getElem?_set_self (by rw [n.len]; exact hi)], r⟩
  · rw [List.getElem?_set_ne hj] at h ⊢
    exact n.at_ j e h
theorem Post.mono {r : R α} {k k' : Hp → List Addr → List D → α → Prop} (h : Post K E H M r k) (m : ∀ H' M' τ' a, r = .ok a τ' → Ext H M H' M' → Sto K H' M' τ' → k H' M' τ' a → k' H' M' τ' a) : Post K E H M r k' := by
  cases r with
  | ok a τ' => exact fun H' M' e S => m H' M' τ' a rfl e S (h H' M' e S)
  | exn C fs τ' => exact h
  | bad => exact h
theorem Post.ext {r : R α} {k : Hp → List Addr → List D → α → Prop} (h : Post K E H M r k) (e : Ext H M H' M') : Post K E H' M' r k := by
  cases r with
  | ok a τ' => exact fun H2 M2 e2 S => h H2 M2 (e.trans e2) S
  | exn C fs τ' => exact fun H2 M2 d fvs e2 S => h H2 M2 d fvs (e.trans e2) S
  | bad => exact h
theorem Post.bind {r : R α} {g : α → List D → R β} {k : Hp → List Addr → List D → β → Prop} (h : Post K E H M (r.bind g) k) : Post K E H M r (fun H1 M1 τ1 a => Post K E H1 M1 (g a τ1) k) := by
  cases r with
  | ok a τ' => exact fun H' M' e S => Post.ext h e
  | exn C fs τ' => exact h
  | bad => exact h
theorem Post.here {a : α} {k : Hp → List Addr → List D → α → Prop} (h : Post K E H M (.ok a τ) k) (S : Sto K H M τ) : k H M τ a := h H M (Ext.refl _ _) S
theorem PostS.ext {D : Ends} {r : RS} (h : PostS K E H M D r) (e : Ext H M H' M') : PostS K E H' M' D r := by
  cases r with
  | nx δ τ => exact fun H2 M2 s e2 => h H2 M2 s (e.trans e2)
  | bk δ τ => exact fun H2 M2 s e2 => h H2 M2 s (e.trans e2)
  | ct δ τ => exact fun H2 M2 s e2 => h H2 M2 s (e.trans e2)
  | rt d τ => exact fun H2 M2 s e2 => h H2 M2 s (e.trans e2)
  | exn C fs τ => exact fun H2 M2 d fvs e2 => h H2 M2 d fvs (e.trans e2)
  | bad => exact h
end

/-! ### expressions -/
section
variable {X : Cx} {E : XK} {e a b : Expr} {es : List Expr} {f fa fb : DE} {fs : List DE} {pos : Pos}
theorem _root_.L2.PE.imp {t t' : TE} (h : PE X e t) (k : ∀ σ H Q, t' σ H Q → t σ H Q) : PE X e t' := ⟨fun pins s σ H Q I q => h.run pins s σ H Q I (k σ H Q q)⟩
theorem _root_.L2.PT.imp {t t' : TT} (h : PT X e t) (k : ∀ σ H Q, t' σ H Q → t σ H Q) : PT X e t' := ⟨fun pins s σ H Q I q => h.run pins s σ H Q I (k σ H Q q)⟩
theorem _root_.L2.PW.imp {t t' : TT} (h : PW X e t) (k : ∀ σ H Q, t' σ H Q → t σ H Q) : PW X e t' := ⟨fun wh pins s σ H Q I q => h.run wh pins s σ H Q I (k σ H Q q)⟩
theorem _root_.L2.PA.imp {t t' : TA} (h : PA X es t) (k : ∀ σ H Q, t' σ H Q → t σ H Q) : PA X es t' := ⟨fun pos pins s σ H Q I q => h.run pos pins s σ H Q I (k σ H Q q)⟩
theorem _root_.L2.PS.imp {st : Stmt} {t t' : TS} (h : PS X st t) (k : ∀ D σ H, t' D σ H → t D σ H) : PS X st t' := ⟨fun pins s σ H D I q => h.run pins s σ H D I (k D σ H q)⟩
theorem _root_.L2.PSs.imp {st : List Stmt} {t t' : TS} (h : PSs X st t) (k : ∀ D σ H, t' D σ H → t D σ H) : PSs X st t' := ⟨fun pins s σ H D I q => h.run pins s σ H D I (k D σ H q)⟩
theorem _root_.L2.PG.imp {t t' : TG} (h : PG X e t) (k : ∀ v σ H Q, t' v σ H Q → t v σ H Q) : PG X e t' := ⟨fun pins s σ H v u Q I r q => h.run pins s σ H v u Q I r (k v σ H Q q)⟩

def dVar (i : Nat) : DE := fun δ τ => match δ[i]? with
  | some (some d) => .ok d τ
  | _ => .bad
def dC (d : D) : DE := fun _ τ => .ok d τ
def dP (g : Pr) (fs : List DE) : DE := fun δ τ => (dArgs fs δ τ).bind g

theorem de_var (i : Nat) {x : Str} (hN : X.N[i]? = some x := by rfl) (hv : Vis X.env.scope x := by first | exact Or.inl rfl | exact Or.inr (Or.inl rfl) | exact Or.inr (Or.inr rfl)) (hd : (x == ("__debug__" : Str)) = false := by decide)
    (hcd : (x == ("__classdict__" : Str)) = false := by decide) : PE X (.Name x pos) (tE X.K E (dVar i)) :=
  L2.PE.imp (pe_var hN hv hd hcd) fun σ H Q ⟨P, M, δ, τ, n, S, p⟩ => by
    unfold dVar at p
    split at p
    · rename_i d h
      obtain ⟨v, h1, h2⟩ := n.at_ i d h
      exact ⟨v, h1, p.here S v h2⟩
    · exact p.elim
theorem de_c {v : V} {d : D} (h : PE X e (tC v)) (r : ∀ P H M, Rep ⟨X.K, P⟩ H M v d) : PE X e (tE X.K E (dC d)) := h.imp fun σ H Q ⟨P, M, δ, τ, n, S, p⟩ => Post.here p S v (r _ _ _)
theorem de_int {i j} : PE X (.Constant (.int i) j pos) (tE X.K E (dC (.int i))) := de_c pe_int fun _ _ _ => .int i
theorem de_bl {b j} : PE X (.Constant (.bool b) j pos) (tE X.K E (dC (.bl b))) := de_c pe_bl fun _ _ _ => .bl b
theorem de_non {j} : PE X (.Constant .none j pos) (tE X.K E (dC .non)) := de_c pe_non fun _ _ _ => .non
theorem de_str {x j} : PE X (.Constant (.str x) j pos) (tE X.K E (dC (.str x))) := de_c pe_str fun _ _ _ => .str x
theorem de_glob {x : Str} {v : V} {u : Value} {d : D} (hm : X.mg x = some u) (r : RelV v u) (q : ∀ P H M, Rep ⟨X.K, P⟩ H M v d) (hg : Gl X x := by rfl) (hd : (x == ("__debug__" : Str)) = false := by decide) : PE X (.Name x pos) (tE X.K E (dC d)) := de_c (pe_glob hg hm r hd) q

theorem pa_nilD : PA X [] (tA X.K E []) := pa_nil.imp fun σ H Q ⟨P, M, δ, τ, n, S, p⟩ => Post.here (a := []) p S [] RepL.nil
theorem pa_consD (ha : PE X e (tE X.K E f)) (hr : PA X es (tA X.K E fs)) (hs : starEach (e :: es) X.env = (false, eval e X.env) :: starEach es X.env := by rfl) : PA X (e :: es) (tA X.K E (f :: fs)) := by
  refine (pa_cons ha hr hs).imp fun σ H Q ⟨P, M, δ, τ, n, S, p⟩ => ⟨P, M, δ, τ, n, S, ?_⟩
  have p : Post ⟨X.K, P⟩ E H M ((f δ τ).bind fun d τ1 => (dArgs fs δ τ1).bind fun ds τ2 => .ok (d :: ds) τ2) _ := p
  refine p.bind.mono fun H1 M1 τ1 d _ e1 S1 p1 v rv => ⟨P, M1, δ, τ1, n.ext e1, S1, ?_⟩
  refine p1.bind.mono fun H2 M2 τ2 ds _ e2 S2 p2 vs rs => ?_
  exact p2.here S2 (v :: vs) (.cons (rv.ext e2) rs)

/-- the arguments one by one: two -/
theorem two_of {g : Pr} {σ : St} {H : Hp} {Q : VK} (h : tE X.K E (dP g [fa, fb]) σ H Q) : tOp (fun x y H Q => rP X.K E g [x, y] H Q) (tE X.K E fa) (tE X.K E fb) σ H Q := by
  obtain ⟨P, M, δ, τ, n, S, p⟩ := h
  refine ⟨P, M, δ, τ, n, S, ?_⟩
  have p : Post ⟨X.K, P⟩ E H M (((fa δ τ).bind fun d τ1 => ((fb δ τ1).bind fun e τ2 => .ok [e] τ2).bind fun ds τ2 => .ok (d :: ds) τ2).bind g) _ := p
  refine p.bind.bind.mono fun H1 M1 τ1 d _ e1 S1 p1 v rv => ⟨P, M1, δ, τ1, n.ext e1, S1, ?_⟩
  refine p1.bind.bind.mono fun H2 M2 τ2 e _ e2 S2 p2 u ru => ?_
  exact ⟨P, M2, τ2, [d, e], S2, .cons (rv.ext e2) (.cons ru .nil), Post.here (Post.here p2 S2) S2⟩
theorem one_of {g : Pr} {σ : St} {H : Hp} {Q : VK} (h : tE X.K E (dP g [fa]) σ H Q) : tUn (fun x H Q => rP X.K E g [x] H Q) (tE X.K E fa) σ H Q := by
  obtain ⟨P, M, δ, τ, n, S, p⟩ := h
  refine ⟨P, M, δ, τ, n, S, ?_⟩
  have p : Post ⟨X.K, P⟩ E H M (((fa δ τ).bind fun d τ1 => (.ok [d] τ1)).bind g) _ := p
  refine p.bind.bind.mono fun H1 M1 τ1 d _ e1 S1 p1 v rv => ?_
  exact ⟨P, M1, τ1, [d], S1, .cons rv .nil, Post.here p1 S1⟩
theorem args_of {g : Pr} {σ : St} {H : Hp} {Q : VK} (h : tE X.K E (dP g fs) σ H Q) : tCB (rP X.K E g) (tA X.K E fs) σ H Q := by
  obtain ⟨P, M, δ, τ, n, S, p⟩ := h
  refine ⟨P, M, δ, τ, n, S, ?_⟩
  have p : Post ⟨X.K, P⟩ E H M ((dArgs fs δ τ).bind g) _ := p
  exact p.bind.mono fun H1 M1 τ1 ds _ e1 S1 p1 vs rs => ⟨P, M1, τ1, ds, S1, rs, p1⟩

/-- primitives: what a rule of the machine must show -/
def Op2 (X : Cx) (E : XK) (f : Value → Value → Sem Value) (g : Pr) : Prop := OpR X f (fun x y H Q => rP X.K E g [x, y] H Q)
def Op1 (X : Cx) (E : XK) (f : Value → Sem Value) (g : Pr) : Prop := UnR X f (fun x H Q => rP X.K E g [x] H Q)
def OpC (X : Cx) (E : XK) (f : Value) (g : Pr) : Prop := CallR X f (rP X.K E g)
theorem de_op {op : Operator} {g : Pr} (ho : Op2 X E (binaryOp op) g) (ha : PE X a (tE X.K E fa)) (hb : PE X b (tE X.K E fb)) : PE X (.BinOp a op b pos) (tE X.K E (dP g [fa, fb])) := (pe_op ho ha hb).imp fun _ _ _ h => two_of h
theorem de_un {op : UnaryOp} {g : Pr} (ho : Op1 X E (unaryOp op) g) (ha : PE X a (tE X.K E fa)) : PE X (.UnaryOp op a pos) (tE X.K E (dP g [fa])) := (pe_un ho ha).imp fun _ _ _ h => one_of h
theorem de_cmp {op : CmpOp} {g : Pr} (ho : Op2 X E (compareOp op) g) (ha : PE X a (tE X.K E fa)) (hb : PE X b (tE X.K E fb)) (hm : behindInMarks op b = false := by first | exact nomark _ | with_unfolding_all rfl) :
    PE X (.Compare a [op] [b] pos) (tE X.K E (dP g [fa, fb])) := (pe_cmpR ho ha hb hm).imp fun _ _ _ h => two_of h
theorem de_callB {x : Str} {p : Pos} {id : String} {g : Pr} (hc : OpC X E (.builtin id) g) (hm : X.mg x = none) (hv : bootBuiltins x = some (.builtin id)) (ha : PA X (e :: es) (tA X.K E fs)) (hg : Gl X x := by rfl) (hn : x ≠ "__name__" := by decide) (hdb : (x == ("__debug__" : Str)) = false := by decide)
    (he : starEach (e :: es) X.env = (false, eval e X.env) :: starEach es X.env := by rfl) (hpl : (backTo pos (starEach es X.env)).any (·.1) = false := by rfl) : PE X (.Call (.Name x p) (e :: es) [] pos) (tE X.K E (dP g fs)) :=
  (pe_callB hc hg hm hv ha hn hdb he hpl).imp fun _ _ _ h => args_of h
theorem de_callTy {x : Str} {p : Pos} {T : String} {g : Pr} (hc : OpC X E (.type T) g) (hm : X.mg x = none) (hv : bootBuiltins x = some (.type T)) (ha : PA X (e :: es) (tA X.K E fs)) (hg : Gl X x := by rfl) (hn : x ≠ "__name__" := by decide) (hdb : (x == ("__debug__" : Str)) = false := by decide)
    (he : starEach (e :: es) X.env = (false, eval e X.env) :: starEach es X.env := by rfl) (hpl : (backTo pos (starEach es X.env)).any (·.1) = false := by rfl) : PE X (.Call (.Name x p) (e :: es) [] pos) (tE X.K E (dP g fs)) :=
  (pe_callTy hc hg hm hv ha hn hdb he hpl).imp fun _ _ _ h => args_of h
/-- a[b] -/
def OpX (X : Cx) (E : XK) (g : Pr) : Prop := IxR X (fun x y H Q => rP X.K E g [x, y] H Q)
theorem de_ix {g : Pr} (ho : OpX X E g) (ha : PE X a (tE X.K E fa)) (hb : PE X b (tE X.K E fb)) (hs : PlainIx b := by exact fun _ _ => rfl) : PE X (.Subscript a b pos) (tE X.K E (dP g [fa, fb])) := (pe_ix ho ha hb hs).imp fun _ _ _ h => two_of h

/-! ### tests -/
def dB (f : DE) : DT := fun δ τ => (f δ τ).bind fun d τ' => match der τ' d with
  | .bl b => .ok b τ'
  | _ => .bad
theorem dB_of {σ : St} {H : Hp} {Q : Bool → Hp → Prop} (h : tT X.K E (dB f) σ H Q) : tE X.K E f σ H fun x H1 => ∃ c, x = .bl c ∧ Q c H1 := by
  obtain ⟨P, M, δ, τ, n, S, p⟩ := h
  refine ⟨P, M, δ, τ, n, S, ?_⟩
  have p : Post ⟨X.K, P⟩ E H M ((f δ τ).bind fun d τ' => match der τ' d with
    | .bl b => .ok b τ'
    | _ => .bad) _ := p
  refine p.bind.mono fun H1 M1 τ1 d _ e1 S1 p1 v rv => ?_
  split at p1
  · rename_i b hb
    exact ⟨b, rep_bl rv S1 hb, Post.here p1 S1⟩
  · exact p1.elim
theorem dt_val (h : PE X e (tE X.K E f)) (he : ∀ whole, isTrue e X.env whole = (do let v ← whole; standAt e.pos; holding [v] (truthy v)) := by intro _; rfl) : PT X e (tT X.K E (dB f)) := (pt_val h he).imp fun _ _ _ h => dB_of h
theorem dt_cmp {op : CmpOp} {g : Pr} (ho : Op2 X E (compareOp op) g) (ha : PE X a (tE X.K E fa)) (hb : PE X b (tE X.K E fb)) (hm : behindInMarks op b = false := by first | exact nomark _ | with_unfolding_all rfl) :
    PT X (.Compare a [op] [b] pos) (tT X.K E (dB (dP g [fa, fb]))) := by
  refine (pt_cmpR ho ha hb hm).imp fun σ H Q h => ?_
  exact two_of (dB_of h)
def dAnd (f g : DT) : DT := fun δ τ => (f δ τ).bind fun b τ' => if b = true then g δ τ' else .ok false τ'
def dOr (f g : DT) : DT := fun δ τ => (f δ τ).bind fun b τ' => if b = true then .ok true τ' else g δ τ'
def dNot (f : DT) : DT := fun δ τ => (f δ τ).bind fun b τ' => .ok (!b) τ'
variable {ft gt : DT} {rest : List Expr}
theorem dw_and1 (ha : PT X a (tT X.K E ft)) : PW X (.BoolOp .And [a] pos) (tT X.K E ft) := pw_and1 ha
theorem dw_or1 (ha : PT X a (tT X.K E ft)) : PW X (.BoolOp .Or [a] pos) (tT X.K E ft) := pw_or1 ha
theorem dw_and (ha : PT X a (tT X.K E ft)) (hb : PW X (.BoolOp .And (b :: rest) pos) (tT X.K E gt)) : PW X (.BoolOp .And (a :: b :: rest) pos) (tT X.K E (dAnd ft gt)) := by
  refine (pw_and ha hb).imp fun σ H Q ⟨P, M, δ, τ, n, S, p⟩ => ⟨P, M, δ, τ, n, S, ?_⟩
  have p : Post ⟨X.K, P⟩ E H M ((ft δ τ).bind fun b τ' => if b = true then gt δ τ' else .ok false τ') _ := p
  refine p.bind.mono fun H1 M1 τ1 c _ e1 S1 p1 => ?_
  cases c with
  | true => exact ⟨P, M1, δ, τ1, n.ext e1, S1, p1⟩
  | false => exact Post.here p1 S1
theorem dw_or (ha : PT X a (tT X.K E ft)) (hb : PW X (.BoolOp .Or (b :: rest) pos) (tT X.K E gt)) : PW X (.BoolOp .Or (a :: b :: rest) pos) (tT X.K E (dOr ft gt)) := by
  refine (pw_or ha hb).imp fun σ H Q ⟨P, M, δ, τ, n, S, p⟩ => ⟨P, M, δ, τ, n, S, ?_⟩
  have p : Post ⟨X.K, P⟩ E H M ((ft δ τ).bind fun b τ' => if b = true then .ok true τ' else gt δ τ') _ := p
  refine p.bind.mono fun H1 M1 τ1 c _ e1 S1 p1 => ?_
  cases c with
  | true => exact Post.here p1 S1
  | false => exact ⟨P, M1, δ, τ1, n.ext e1, S1, p1⟩
theorem dt_not (ha : PT X a (tT X.K E ft)) : PT X (.UnaryOp .Not a pos) (tT X.K E (dNot ft)) := by
  refine (pt_not ha).imp fun σ H Q ⟨P, M, δ, τ, n, S, p⟩ => ⟨P, M, δ, τ, n, S, ?_⟩
  have p : Post ⟨X.K, P⟩ E H M ((ft δ τ).bind fun b τ' => .ok (!b) τ') _ := p
  exact p.bind.mono fun H1 M1 τ1 c _ e1 S1 p1 => Post.here p1 S1
/-- as values -/
def dBV (f : DT) : DE := fun δ τ => (f δ τ).bind fun b τ' => .ok (.bl b) τ'
def dAndV (f g : DE) : DE := fun δ τ => (f δ τ).bind fun d τ' => match der τ' d with
  | .bl b => if b = true then g δ τ' else .ok (.bl false) τ'
  | _ => .bad
def dOrV (f g : DE) : DE := fun δ τ => (f δ τ).bind fun d τ' => match der τ' d with
  | .bl b => if b = true then .ok (.bl true) τ' else g δ τ'
  | _ => .bad
def pNot : Pr := fun ds τ => match ds with
  | [d] => match der τ d with
    | .bl b => .ok (.bl (!b)) τ
    | _ => .bad
  | _ => .bad
theorem de_one {op} (h : PE X a (tE X.K E f)) : PE X (.BoolOp op [a] pos) (tE X.K E f) := pe_one h
theorem de_and (ha : PE X a (tE X.K E fa)) (hb : PE X (.BoolOp .And (b :: rest) pos) (tE X.K E fb)) : PE X (.BoolOp .And (a :: b :: rest) pos) (tE X.K E (dAndV fa fb)) := by
  refine (pe_and ha hb).imp fun σ H Q ⟨P, M, δ, τ, n, S, p⟩ => ⟨P, M, δ, τ, n, S, ?_⟩
  have p : Post ⟨X.K, P⟩ E H M ((fa δ τ).bind fun d τ' => match der τ' d with
    | .bl b => if b = true then fb δ τ' else .ok (.bl false) τ'
    | _ => .bad) _ := p
  refine p.bind.mono fun H1 M1 τ1 d _ e1 S1 p1 v rv => ?_
  split at p1
  · rename_i c hc
    refine ⟨c, rep_bl rv S1 hc, ?_⟩
    cases c with
    | true => exact ⟨P, M1, δ, τ1, n.ext e1, S1, p1⟩
    | false => exact Post.here p1 S1 _ (.bl false)
  · exact p1.elim
theorem de_or (ha : PE X a (tE X.K E fa)) (hb : PE X (.BoolOp .Or (b :: rest) pos) (tE X.K E fb)) : PE X (.BoolOp .Or (a :: b :: rest) pos) (tE X.K E (dOrV fa fb)) := by
  refine (pe_or ha hb).imp fun σ H Q ⟨P, M, δ, τ, n, S, p⟩ => ⟨P, M, δ, τ, n, S, ?_⟩
  have p : Post ⟨X.K, P⟩ E H M ((fa δ τ).bind fun d τ' => match der τ' d with
    | .bl b => if b = true then .ok (.bl true) τ' else fb δ τ'
    | _ => .bad) _ := p
  refine p.bind.mono fun H1 M1 τ1 d _ e1 S1 p1 v rv => ?_
  split at p1
  · rename_i c hc
    refine ⟨c, rep_bl rv S1 hc, ?_⟩
    cases c with
    | true => exact Post.here p1 S1 _ (.bl true)
    | false => exact ⟨P, M1, δ, τ1, n.ext e1, S1, p1⟩
  · exact p1.elim
theorem de_not (ha : PE X a (tE X.K E fa)) : PE X (.UnaryOp .Not a pos) (tE X.K E (dP pNot [fa])) := by
  refine (pe_not ha).imp fun σ H Q h => ?_
  obtain ⟨P, M, δ, τ, n, S, p⟩ := one_of h
  refine ⟨P, M, δ, τ, n, S, p.mono fun H1 M1 τ1 d _ e1 S1 p1 v rv => ?_⟩
  obtain ⟨P, M2, τ2, ds, S2, r2, p2⟩ := p1 v rv
  cases ds with
  | nil => exact p2.elim
  | cons d ds =>
    cases ds with
    | cons _ _ => exact p2.elim
    | nil =>
      obtain ⟨v', e, r⟩ := r2.one
      cases e
      unfold pNot at p2
      simp only at p2
      split at p2
      · rename_i b hb
        exact ⟨b, rep_bl r S2 hb, Post.here p2 S2 _ (.bl _)⟩
      · exact p2.elim
def dIf (t : DT) (f g : DE) : DE := fun δ τ => (t δ τ).bind fun b τ' => if b = true then f δ τ' else g δ τ'
theorem de_ifExp {c : Expr} (hc : PT X c (tT X.K E ft)) (ha : PE X a (tE X.K E fa)) (hb : PE X b (tE X.K E fb)) : PE X (.IfExp c a b pos) (tE X.K E (dIf ft fa fb)) := by
  refine (pe_ifExp hc ha hb).imp fun σ H Q ⟨P, M, δ, τ, n, S, p⟩ => ⟨P, M, δ, τ, n, S, ?_⟩
  have p : Post ⟨X.K, P⟩ E H M ((ft δ τ).bind fun b τ' => if b = true then fa δ τ' else fb δ τ') _ := p
  refine p.bind.mono fun H1 M1 τ1 c _ e1 S1 p1 => ?_
  cases c with
  | true => exact ⟨P, M1, δ, τ1, n.ext e1, S1, p1⟩
  | false => exact ⟨P, M1, δ, τ1, n.ext e1, S1, p1⟩
/-- a < b < c -/
def dChain (g g' : Pr) (fa fb fc : DE) : DE := fun δ τ => (fa δ τ).bind fun x τ1 => (fb δ τ1).bind fun y τ2 => (g [x, y] τ2).bind fun z τ3 => match der τ3 z with
  | .bl k => if k = true then (fc δ τ3).bind fun w τ4 => g' [y, w] τ4 else .ok (.bl false) τ3
  | _ => .bad
theorem chain_of {g g' : Pr} {fc : DE} {σ : St} {H : Hp} {Q : VK} (h : tE X.K E (dChain g g' fa fb fc) σ H Q) :
    tChain (fun x y H Q => rP X.K E g [x, y] H Q) (fun x y H Q => rP X.K E g' [x, y] H Q) (tE X.K E fa) (tE X.K E fb) (tE X.K E fc) σ H Q := by
  obtain ⟨P, M, δ, τ, n, S, p⟩ := h
  refine ⟨P, M, δ, τ, n, S, ?_⟩
  have p : Post ⟨X.K, P⟩ E H M ((fa δ τ).bind fun x τ1 => (fb δ τ1).bind fun y τ2 => (g [x, y] τ2).bind fun z τ3 => match der τ3 z with
    | .bl k => if k = true then (fc δ τ3).bind fun w τ4 => g' [y, w] τ4 else .ok (.bl false) τ3
    | _ => .bad) _ := p
  refine p.bind.mono fun H1 M1 τ1 x _ e1 S1 p1 v rv => ⟨P, M1, δ, τ1, n.ext e1, S1, ?_⟩
  refine p1.bind.mono fun H2 M2 τ2 y _ e2 S2 p2 u ru => ?_
  refine ⟨P, M2, τ2, [x, y], S2, .cons (rv.ext e2) (.cons ru .nil), ?_⟩
  refine p2.bind.mono fun H3 M3 τ3 z _ e3 S3 p3 w rw' => ?_
  split at p3
  · rename_i k hk
    refine ⟨k, rep_bl rw' S3 hk, ?_⟩
    cases k with
    | true =>
      refine ⟨P, M3, δ, τ3, ((n.ext e1).ext e2).ext e3, S3, ?_⟩
      refine (Post.bind p3).mono fun H4 M4 τ4 d _ e4 S4 p4 q rq => ?_
      exact ⟨P, M4, τ4, [y, d], S4, .cons ((ru.ext e3).ext e4) (.cons rq .nil), p4⟩
    | false => exact Post.here p3 S3 _ (.bl false)
  · exact p3.elim
theorem de_chain {op op' : CmpOp} {g g' : Pr} {c : Expr} {fc : DE} (ho : Op2 X E (compareOp op) g) (ho' : Op2 X E (compareOp op') g') (ha : PE X a (tE X.K E fa)) (hb : PE X b (tE X.K E fb)) (hc : PE X c (tE X.K E fc))
    (hm : lastMarks [op, op'] [b, c] = false := by with_unfolding_all rfl) : PE X (.Compare a [op, op'] [b, c] pos) (tE X.K E (dChain g g' fa fb fc)) := (pe_chain ho ho' ha hb hc hm).imp fun _ _ _ h => chain_of h
theorem dt_chain {op op' : CmpOp} {g g' : Pr} {c : Expr} {fc : DE} (ho : Op2 X E (compareOp op) g) (ho' : Op2 X E (compareOp op') g') (ha : PE X a (tE X.K E fa)) (hb : PE X b (tE X.K E fb)) (hc : PE X c (tE X.K E fc))
    (hm : lastMarks [op, op'] [b, c] = false := by with_unfolding_all rfl) : PT X (.Compare a [op, op'] [b, c] pos) (tT X.K E (dB (dChain g g' fa fb fc))) := (pt_chain ho ho' ha hb hc hm).imp fun _ _ _ h => chain_of (dB_of h)

/-! ### displays -/
def dTup (fs : List DE) : DE := fun δ τ => (dArgs fs δ τ).bind fun ds τ' => if ds.length ≤ 1000 then .ok (.tup ds) τ' else .bad
def dLst (fs : List DE) : DE := fun δ τ => (dArgs fs δ τ).bind fun ds τ' => if ds.length ≤ 1000 then .ok (.lst ds) τ' else .bad
/-- a list that will be changed: a cell -/
def dLstC (fs : List DE) : DE := fun δ τ => (dArgs fs δ τ).bind fun ds τ' => if ds.length ≤ 1000 then .ok (.cell τ'.length) (τ' ++ [.lst ds]) else .bad
theorem thousand {n : Nat} (h : n ≤ 1000) : n ≤ sizeLine := Nat.le_of_lt (small1000 h)
theorem Post.newLst {k : Hp → List Addr → List D → D → Prop} {H : Hp} {M : List Addr} {τ : List D} {ds : List D} {vs : List V} {K : KP} (h : Post K E H M (.ok (.lst ds) τ) k) (S : Sto K H M τ) (r : RepL K H M vs ds) {p : Addr} (hp : H p = none) :
    k (upd H p (.lst vs)) M τ (.lst ds) ∧ Rep K (upd H p (.lst vs)) M (.ref p) (.lst ds) := ⟨h _ _ (Ext.new hp) (S.same (Same.new hp)), rep_newLst S hp r⟩
theorem de_tup {x1} (h : PA X es (tA X.K E fs)) : PE X (.Tuple es x1 pos) (tE X.K E (dTup fs)) := by
  refine (pe_tup h).imp fun σ H Q ⟨P, M, δ, τ, n, S, p⟩ => ⟨P, M, δ, τ, n, S, ?_⟩
  refine (Post.bind p).mono fun H1 M1 τ1 ds _ e1 S1 p1 vs rs => ?_
  split at p1
  · rename_i hz
    exact ⟨by rw [rs.1]; exact thousand hz, fun q hq => p1 _ _ (Ext.new hq) (S1.same (Same.new hq)) _ (rep_newTup S1 hq rs)⟩
  · exact p1.elim
theorem de_lst (h : PA X es (tA X.K E fs)) : PE X (.List es pos) (tE X.K E (dLst fs)) := by
  refine (pe_lst h).imp fun σ H Q ⟨P, M, δ, τ, n, S, p⟩ => ⟨P, M, δ, τ, n, S, ?_⟩
  refine (Post.bind p).mono fun H1 M1 τ1 ds _ e1 S1 p1 vs rs => ?_
  split at p1
  · rename_i hz
    exact ⟨by rw [rs.1]; exact thousand hz, fun q hq => p1 _ _ (Ext.new hq) (S1.same (Same.new hq)) _ (rep_newLst S1 hq rs)⟩
  · exact p1.elim
theorem Sto.newLst {K : KP} {H : Hp} {M : List Addr} {τ ds : List D} {vs : List V} (S : Sto K H M τ) {p : Addr} (hp : H p = none) (r : RepL K H M vs ds) : Sto K (upd H p (.lst vs)) (M ++ [p]) (τ ++ [.lst ds]) :=
  S.newC hp ⟨vs, upd_same, r.ext (Ext.newC hp)⟩
theorem rep_last {K : KP} {H H' : Hp} {M : List Addr} {τ : List D} (S : Sto K H M τ) {p : Addr} : Rep K H' (M ++ [p]) (.ref p) (.cell τ.length) := .cell (by rw [← S.len, List.getElem?_append_right (Nat.le_refl _), Nat.sub_self]; rfl)
theorem de_lstC (h : PA X es (tA X.K E fs)) : PE X (.List es pos) (tE X.K E (dLstC fs)) := by
  refine (pe_lst h).imp fun σ H Q ⟨P, M, δ, τ, n, S, p⟩ => ⟨P, M, δ, τ, n, S, ?_⟩
  refine (Post.bind p).mono fun H1 M1 τ1 ds _ e1 S1 p1 vs rs => ?_
  split at p1
  · rename_i hz
    exact ⟨by rw [rs.1]; exact thousand hz, fun q hq => p1 _ _ (Ext.newC hq) (S1.newLst hq rs) _ (rep_last S1)⟩
  · exact p1.elim
end
end DL

namespace DL
open PySem L2

/-! ### ways out of statements -/
def RS.seq (r : RS) (k : DS) : RS := match r with
  | .nx δ τ => k δ τ
  | r => r
/-- a turn of a loop, then the rest -/
def RS.loop (r : RS) (k : DS) : RS := match r with
  | .nx δ τ => k δ τ
  | .ct δ τ => k δ τ
  | .bk δ τ => .nx δ τ
  | r => r
def R.toS {α : Type} (r : R α) (k : α → List D → RS) : RS := match r with
  | .ok a τ => k a τ
  | .exn C fs τ => .exn C fs τ
  | .bad => .bad
@[simp] theorem RS.seq_nx (δ : DEnv) (τ : List D) (k : DS) : (RS.nx δ τ).seq k = k δ τ := rfl
@[simp] theorem RS.seq_rt (d : D) (τ : List D) (k : DS) : (RS.rt d τ).seq k = .rt d τ := rfl
@[simp] theorem RS.seq_bk (δ : DEnv) (τ : List D) (k : DS) : (RS.bk δ τ).seq k = .bk δ τ := rfl
@[simp] theorem RS.seq_ct (δ : DEnv) (τ : List D) (k : DS) : (RS.ct δ τ).seq k = .ct δ τ := rfl
@[simp] theorem RS.seq_exn (C : Addr) (fs : List (Str × D)) (τ : List D) (k : DS) : (RS.exn C fs τ).seq k = .exn C fs τ := rfl
@[simp] theorem RS.seq_bad (k : DS) : (RS.bad).seq k = .bad := rfl
@[simp] theorem RS.loop_nx (δ : DEnv) (τ : List D) (k : DS) : (RS.nx δ τ).loop k = k δ τ := rfl
@[simp] theorem RS.loop_ct (δ : DEnv) (τ : List D) (k : DS) : (RS.ct δ τ).loop k = k δ τ := rfl
@[simp] theorem RS.loop_bk (δ : DEnv) (τ : List D) (k : DS) : (RS.bk δ τ).loop k = .nx δ τ := rfl
@[simp] theorem RS.loop_rt (d : D) (τ : List D) (k : DS) : (RS.rt d τ).loop k = .rt d τ := rfl
@[simp] theorem RS.loop_exn (C : Addr) (fs : List (Str × D)) (τ : List D) (k : DS) : (RS.exn C fs τ).loop k = .exn C fs τ := rfl
@[simp] theorem RS.loop_bad (k : DS) : (RS.bad).loop k = .bad := rfl
@[simp] theorem R.toS_ok {α : Type} (a : α) (τ : List D) (k : α → List D → RS) : (R.ok a τ).toS k = k a τ := rfl
@[simp] theorem R.toS_exn {α : Type} (C : Addr) (fs : List (Str × D)) (τ : List D) (k : α → List D → RS) : (R.exn C fs τ : R α).toS k = .exn C fs τ := rfl
@[simp] theorem R.toS_bad {α : Type} (k : α → List D → RS) : (R.bad : R α).toS k = .bad := rfl

section
variable {K : KP} {E : XK} {H H' : Hp} {M M' : List Addr} {σ : St} {δ : DEnv} {τ : List D} {α β : Type}
theorem PostS.toS {r : R α} {g : α → List D → RS} {Z : Ends} (h : PostS K E H M Z (r.toS g)) : Post K E H M r (fun H1 M1 τ1 a => PostS K E H1 M1 Z (g a τ1)) := by
  cases r with
  | ok a τ' => exact fun H' M' e S => PostS.ext h e
  | exn C fs τ' => exact h
  | bad => exact h
theorem PostS.seq {r : RS} {g : DS} {Z : Ends} (h : PostS K E H M Z (r.seq g)) : PostS K E H M { Z with nx := tS K.k E g Z } r := by
  cases r with
  | nx δ τ => exact fun H' M' σ' e n S => ⟨K.p, M', δ, τ, n, S, PostS.ext h e⟩
  | _ => exact h
end

section
variable {X : Cx} {E : XK} {e a b : Expr} {es : List Expr} {f fa fb : DE} {fs : List DE} {pos : Pos} {st : Stmt} {rest body : List Stmt} {s t u : DS} {g : DG}

/-! ### statements -/
def dNext : DS := fun δ τ => .nx δ τ
def dSeq (s t : DS) : DS := fun δ τ => (s δ τ).seq t
theorem dss_nil : PSs X [] (tS X.K E dNext) := pss_nil.imp fun Z σ H ⟨P, M, δ, τ, n, S, p⟩ => p H M σ (Ext.refl _ _) n S
theorem dss_cons (h1 : PS X st (tS X.K E s)) (h2 : PSs X rest (tS X.K E t)) : PSs X (st :: rest) (tS X.K E (dSeq s t)) :=
  (pss_cons h1 h2).imp fun Z σ H ⟨P, M, δ, τ, n, S, p⟩ => ⟨P, M, δ, τ, n, S, PostS.seq p⟩
theorem dss_one (h1 : PS X st (tS X.K E s)) : PSs X [st] (tS X.K E s) := pss_one h1
def dDrop (f : DE) : DS := fun δ τ => (f δ τ).toS fun _ τ' => .nx δ τ'
theorem ds_expr (he : PE X e (tE X.K E f)) (hs : swapsWith e none pos.line X.env = pure false := by rfl) : PS X (.Expr e pos) (tS X.K E (dDrop f)) := by
  refine (ps_expr he hs).imp fun Z σ H ⟨P, M, δ, τ, n, S, p⟩ => ⟨P, M, δ, τ, n, S, ?_⟩
  exact (PostS.toS p).mono fun H1 M1 τ1 d _ e1 S1 p1 v rv => p1 H1 M1 σ (Ext.refl _ _) (n.ext e1) S1
def dRet (f : DE) : DS := fun δ τ => (f δ τ).toS fun d τ' => .rt d τ'
theorem ds_ret (he : PE X e (tE X.K E f)) : PS X (.Return (some e) pos) (tS X.K E (dRet f)) := by
  refine (ps_ret he).imp fun Z σ H ⟨P, M, δ, τ, n, S, p⟩ => ⟨P, M, δ, τ, n, S, ?_⟩
  exact (PostS.toS p).mono fun H1 M1 τ1 d _ e1 S1 p1 v rv => p1 H1 M1 v (Ext.refl _ _) S1 rv
def dRetN : DS := fun _ τ => .rt .non τ
theorem ds_retN : PS X (.Return none pos) (tS X.K E dRetN) := ps_retN.imp fun Z σ H ⟨P, M, δ, τ, n, S, p⟩ => p H M .non (Ext.refl _ _) S .non
theorem ds_pass : PS X (.Pass pos) (tS X.K E dNext) := ps_pass.imp fun Z σ H ⟨P, M, δ, τ, n, S, p⟩ => p H M σ (Ext.refl _ _) n S
def dBreak : DS := fun δ τ => .bk δ τ
def dCont : DS := fun δ τ => .ct δ τ
theorem ds_break : PS X (.Break pos) (tS X.K E dBreak) := ps_break.imp fun Z σ H ⟨P, M, δ, τ, n, S, p⟩ => p H M σ (Ext.refl _ _) n S
theorem ds_continue : PS X (.Continue pos) (tS X.K E dCont) := ps_continue.imp fun Z σ H ⟨P, M, δ, τ, n, S, p⟩ => p H M σ (Ext.refl _ _) n S
/-- what is never reached -/
def dBad : DS := fun _ _ => .bad
theorem ds_never : PS X st (tS X.K E dBad) := ps_never.imp fun Z σ H ⟨P, M, δ, τ, n, S, p⟩ => p.elim
def dIfS (c : DT) (s t : DS) : DS := fun δ τ => (c δ τ).toS fun b τ' => if b = true then s δ τ' else t δ τ'
theorem ds_if {c : Expr} {ba bb : List Stmt} {ft : DT} (hc : PT X c (tT X.K E ft)) (ha : PSs X ba (tS X.K E s)) (hb : PSs X bb (tS X.K E t)) : PS X (.If c ba bb pos) (tS X.K E (dIfS ft s t)) := by
  refine (ps_if hc ha hb).imp fun Z σ H ⟨P, M, δ, τ, n, S, p⟩ => ⟨P, M, δ, τ, n, S, ?_⟩
  refine (PostS.toS p).mono fun H1 M1 τ1 b _ e1 S1 p1 => ?_
  cases b with
  | true => exact ⟨P, M1, δ, τ1, n.ext e1, S1, p1⟩
  | false => exact ⟨P, M1, δ, τ1, n.ext e1, S1, p1⟩

/-! ### targets -/
def dgName (i : Nat) : DG := fun d δ τ => .ok (δ.set i (some d)) τ
theorem dg_name (i : Nat) {x : Str} (hN : X.N.Nodup) (hi : X.N[i]? = some x := by rfl) (hx : Loc X.env.scope x := by first | exact Or.inl rfl | exact Or.inr rfl) (hf : X.fn x = true ∨ X.env.scope.names.lookup x = some .local := by first | exact .inl rfl | exact .inr rfl) :
    PG X (.Name x pos) (tG X.K E (dgName i)) :=
  (pg_name hN hi hx hf).imp fun v σ H Q ⟨P, M, δ, τ, d, n, S, r, p⟩ => Post.here p S _ (n.set r i)
def dgL : List DG → List D → DEnv → List D → R DEnv
  | [], [], δ, τ => .ok δ τ
  | g :: gs, d :: ds, δ, τ => (g d δ τ).bind fun δ' τ' => dgL gs ds δ' τ'
  | _, _, _, _ => .bad
def tGs (K : PySem.W.Frag) (E : XK) (gs : List DG) : TGs := fun vs σ H Q => ∃ P M δ τ ds, EnvD ⟨K, P⟩ H M σ δ ∧ Sto ⟨K, P⟩ H M τ ∧ RepL ⟨K, P⟩ H M vs ds ∧ Post ⟨K, P⟩ E H M (dgL gs ds δ τ) fun H' M' _ δ' => ∀ σ', EnvD ⟨K, P⟩ H' M' σ' δ' → Q σ' H'
theorem _root_.L2.PGs.imp {es : List Expr} {t t' : TGs} (h : PGs X es t) (k : ∀ vs σ H Q, t' vs σ H Q → t vs σ H Q) : PGs X es t' := ⟨fun pins s σ H vs us Q I r q => h.run pins s σ H vs us Q I r (k vs σ H Q q)⟩
theorem dgs_nil : PGs X [] (tGs X.K E []) := L2.PGs.imp pgs_nil fun vs σ H Q ⟨P, M, δ, τ, ds, n, S, r, p⟩ => by
  cases ds with
  | nil => exact ⟨r.nil', Post.here p S _ n⟩
  | cons _ _ => exact p.elim
theorem dgs_cons {gs : List DG} (h1 : PG X e (tG X.K E g)) (h2 : PGs X es (tGs X.K E gs))
    (hs : (assignEach (e :: es) X.env).map (·.2) = assign e X.env :: (assignEach es X.env).map (·.2) := by rfl) : PGs X (e :: es) (tGs X.K E (g :: gs)) := L2.PGs.imp (pgs_cons h1 h2 hs) fun vs σ H Q ⟨P, M, δ, τ, ds, n, S, r, p⟩ => by
  cases ds with
  | nil => exact p.elim
  | cons d ds =>
    obtain ⟨v, vr, rfl, rv, rr⟩ := r.head
    refine ⟨v, vr, rfl, P, M, δ, τ, d, n, S, rv, ?_⟩
    have p : Post ⟨X.K, P⟩ E H M ((g d δ τ).bind fun δ' τ' => dgL gs ds δ' τ') _ := p
    exact p.bind.mono fun H1 M1 τ1 δ1 _ e1 S1 p1 σ1 n1 => ⟨P, M1, δ1, τ1, ds, n1, S1, rr.ext e1, p1⟩
/-- unpacking a tuple or a list -/
def dgTup (gs : List DG) : DG := fun d δ τ => match der τ d with
  | .tup ds => if ds.length = gs.length then dgL gs ds δ τ else .bad
  | .lst ds => if ds.length = gs.length then dgL gs ds δ τ else .bad
  | _ => .bad
theorem dg_tup {gs : List DG} {k : Nat} (hc : X.calm = true) (h : PGs X es (tGs X.K E gs)) (hn : (assignEach es X.env).length = gs.length := by rfl) (hst : (assignEach es X.env).findIdx? (·.1) = none := by rfl) :
    PG X (.Tuple es k pos) (tG X.K E (dgTup gs)) := by
  refine ⟨fun pins s σ H v u Q I r ⟨P, M, δ, τ, d, n, S, rv, p⟩ => ?_⟩
  unfold dgTup at p
  split at p
  · rename_i ds hd
    split at p
    · rename_i hl
      obtain ⟨a, vs, rfl, hs, rs⟩ := rep_tup rv S hd
      exact (pg_tup hc h hn hst).run pins s σ H _ u Q I r ⟨a, vs, rfl, SqT.of hs, rs.1.trans hl, P, M, δ, τ, ds, n, S, rs, p⟩
    · exact p.elim
  · rename_i ds hd
    split at p
    · rename_i hl
      obtain ⟨a, vs, rfl, hs, rs⟩ := rep_lst rv S hd
      exact (pg_unl hc h hn hst).run pins s σ H _ u Q I r ⟨a, vs, rfl, SqL.of hs, rs.1.trans hl, P, M, δ, τ, ds, n, S, rs, p⟩
    · exact p.elim
  · exact p.elim
/-- target = value -/
def dAsg (f : DE) (g : DG) : DS := fun δ τ => (f δ τ).toS fun d τ' => (g d δ τ').toS fun δ' τ'' => .nx δ' τ''
theorem asg_of {Z : Ends} {σ : St} {H : Hp} (h : tS X.K E (dAsg f g) Z σ H) : tAsg (tE X.K E f) (tG X.K E g) Z σ H := by
  obtain ⟨P, M, δ, τ, n, S, p⟩ := h
  refine ⟨P, M, δ, τ, n, S, ?_⟩
  refine (PostS.toS p).mono fun H1 M1 τ1 d _ e1 S1 p1 v rv => ⟨P, M1, δ, τ1, d, n.ext e1, S1, rv, ?_⟩
  exact (PostS.toS p1).mono fun H2 M2 τ2 δ2 _ e2 S2 p2 σ2 n2 => p2 H2 M2 σ2 (Ext.refl _ _) n2 S2
theorem ds_asg {tg : Expr} (he : PE X e (tE X.K E f)) (hg : PG X tg (tG X.K E g)) (hs : swapsWithSole [tg] e pos.line X.env = pure false := by rfl) (hw : swappedStores [tg] e X.env = pure none := by rfl)
    (h1 : (assignEach [tg] X.env).map (·.2) = [assign tg X.env] := by rfl) : PS X (.Assign [tg] e pos) (tS X.K E (dAsg f g)) := (ps_asg he hg hs hw h1).imp fun _ _ _ h => asg_of h
theorem nm_of {i : Nat} {v : V} {σ : St} {H : Hp} {Q : St → Hp → Prop} {K : PySem.W.Frag} (h : tG K E (dgName i) v σ H Q) : gName i v σ H Q := by
  obtain ⟨P, M, δ, τ, d, n, S, r, p⟩ := h
  exact Post.here p S _ (n.set r i)
/-- name = value -/
theorem ds_set (i : Nat) {x : Str} {pos' : Pos} (hN : X.N.Nodup) (he : PE X e (tE X.K E f)) (hi : X.N[i]? = some x := by rfl) (hx : Loc X.env.scope x := by first | exact Or.inl rfl | exact Or.inr rfl) (hs : swapsWith e (some (.Name x pos')) pos.line X.env = pure false := by rfl)
    (hf : X.fn x = true ∨ X.env.scope.names.lookup x = some .local := by first | exact .inl rfl | exact .inr rfl) : PS X (.Assign [.Name x pos'] e pos) (tS X.K E (dAsg f (dgName i))) := by
  refine (ps_set hN hi hx he hs hf).imp fun Z σ H h => ?_
  obtain ⟨P, M, δ, τ, n, S, p⟩ := asg_of h
  exact ⟨P, M, δ, τ, n, S, p.mono fun H1 M1 τ1 d _ e1 S1 p1 v rv => nm_of (p1 v rv)⟩
def dPar (is : List Nat) (fs : List DE) : DS := fun δ τ => (dArgs fs δ τ).toS fun ds τ' => .nx ((is.zip ds).foldl (fun δ p => δ.set p.1 (some p.2)) δ) τ'
theorem dArgs_len : ∀ {fs : List DE} {δ : DEnv} {τ τ' : List D} {ds : List D}, dArgs fs δ τ = .ok ds τ' → ds.length = fs.length
  | [], _, _, _, _, h => by cases h; rfl
  | f :: fs, δ, τ, τ', ds, h => by
    have h : ((f δ τ).bind fun d τ1 => (dArgs fs δ τ1).bind fun ds τ2 => .ok (d :: ds) τ2) = .ok ds τ' := h
    cases q : f δ τ with
    | ok d τ1 =>
      rw [q, R.bind_ok] at h
      cases q2 : dArgs fs δ τ1 with
      | ok ds2 τ2 => rw [q2, R.bind_ok] at h; cases h; simp [dArgs_len q2]
      | exn C fs τ => rw [q2] at h; cases h
      | bad => rw [q2] at h; cases h
    | exn C fs τ => rw [q] at h; cases h
    | bad => rw [q] at h; cases h
theorem ds_par {i j : Nat} {x y : Str} {px py pt : Pos} {kt k2 pt2} (hc : X.calm = true) (hN : X.N.Nodup) (ha : PA X [a, b] (tA X.K E [fa, fb])) (hi : X.N[i]? = some x := by rfl) (hj : X.N[j]? = some y := by rfl) (hij : i ≠ j := by decide)
    (hx : X.env.scope.names.lookup x = some .local := by rfl) (hy : X.env.scope.names.lookup y = some .local := by rfl)
    (hw : swappedStores [.Tuple [.Name x px, .Name y py] kt pt] (.Tuple [a, b] k2 pt2) X.env = pure (some [x, y]) := by rfl)
    (hs : swapsWithSole [.Tuple [.Name x px, .Name y py] kt pt] (.Tuple [a, b] k2 pt2) pos.line X.env = pure false := by rfl) :
    PS X (.Assign [.Tuple [.Name x px, .Name y py] kt pt] (.Tuple [a, b] k2 pt2) pos) (tS X.K E (dPar [i, j] [fa, fb])) := by
  refine (ps_par hc hN hi hj hij hx hy ha hw hs).imp fun Z σ H ⟨P, M, δ, τ, n, S, p⟩ => ⟨P, M, δ, τ, n, S, ?_⟩
  refine (PostS.toS p).mono fun H1 M1 τ1 ds hds e1 S1 p1 vs rs => ?_
  have hl := dArgs_len hds
  match ds, hl with
  | [d, e], _ =>
    obtain ⟨v, u, rfl, rv, ru⟩ := rs.two
    exact ⟨v, u, rfl, p1 H1 M1 _ (Ext.refl _ _) (((n.ext e1).set rv i).set ru j) S1⟩
theorem ds_par3 {i j l : Nat} {x y z : Str} {c : Expr} {fc : DE} {px py pz pt : Pos} {kt k2 pt2} (hc : X.calm = true) (hN : X.N.Nodup) (ha : PA X [a, b, c] (tA X.K E [fa, fb, fc])) (hi : X.N[i]? = some x := by rfl) (hj : X.N[j]? = some y := by rfl) (hl : X.N[l]? = some z := by rfl)
    (hij : i ≠ j := by decide) (hil : i ≠ l := by decide) (hjl : j ≠ l := by decide)
    (hx : X.env.scope.names.lookup x = some .local := by rfl) (hy : X.env.scope.names.lookup y = some .local := by rfl) (hz : X.env.scope.names.lookup z = some .local := by rfl)
    (hw : swappedStores [.Tuple [.Name x px, .Name y py, .Name z pz] kt pt] (.Tuple [a, b, c] k2 pt2) X.env = pure (some [x, y, z]) := by rfl)
    (hs : swapsWithSole [.Tuple [.Name x px, .Name y py, .Name z pz] kt pt] (.Tuple [a, b, c] k2 pt2) pos.line X.env = pure false := by rfl) :
    PS X (.Assign [.Tuple [.Name x px, .Name y py, .Name z pz] kt pt] (.Tuple [a, b, c] k2 pt2) pos) (tS X.K E (dPar [i, j, l] [fa, fb, fc])) := by
  refine (ps_par3 hc hN hi hj hl hij hil hjl hx hy hz ha hw hs).imp fun Z σ H ⟨P, M, δ, τ, n, S, p⟩ => ⟨P, M, δ, τ, n, S, ?_⟩
  refine (PostS.toS p).mono fun H1 M1 τ1 ds hds e1 S1 p1 vs rs => ?_
  have hl := dArgs_len hds
  match ds, hl with
  | [d, e, f], _ =>
    obtain ⟨v, u, w, rfl, rv, ru, rw'⟩ := rs.three
    exact ⟨v, u, w, rfl, p1 H1 M1 _ (Ext.refl _ _) ((((n.ext e1).set rv i).set ru j).set rw' l) S1⟩
/-- o[i] = v, by values -/
def OpS (X : Cx) (E : XK) (g : Pr) : Prop := PSet X (fun o i v H Q => rP X.K E g [o, i, v] H fun _ H' => Q H')
def dgSub (g : Pr) (fo fi : DE) : DG := fun d δ τ => (fo δ τ).bind fun o τ1 => (fi δ τ1).bind fun i τ2 => (g [o, i, d] τ2).bind fun _ τ3 => .ok δ τ3
theorem dg_sub {o i : Expr} {fo fi : DE} {g : Pr} (hs : OpS X E g) (ho : PE X o (tE X.K E fo)) (hi : PE X i (tE X.K E fi))
    (ha : ∀ v, assign (.Subscript o i pos) X.env v = (do
      let ov ← holding [v] (eval o X.env)
      let iv ← holding [v, ov] (eval i X.env)
      standAt pos
      holding [v, ov, iv] (setItem ov iv v)
      release [v, ov, iv] []) := by intro _; rfl) : PG X (.Subscript o i pos) (tG X.K E (dgSub g fo fi)) := by
  refine (pg_sub ho hi hs ha).imp fun v σ H Q ⟨P, M, δ, τ, d, n, S, r, p⟩ => ⟨P, M, δ, τ, n, S, ?_⟩
  have p : Post ⟨X.K, P⟩ E H M ((fo δ τ).bind fun o τ1 => (fi δ τ1).bind fun i τ2 => (g [o, i, d] τ2).bind fun _ τ3 => .ok δ τ3) _ := p
  refine p.bind.mono fun H1 M1 τ1 x _ e1 S1 p1 xv rx => ⟨P, M1, δ, τ1, n.ext e1, S1, ?_⟩
  refine p1.bind.mono fun H2 M2 τ2 y _ e2 S2 p2 yv ry => ?_
  refine ⟨P, M2, τ2, [x, y, d], S2, .cons (rx.ext e2) (.cons ry (.cons ((r.ext e1).ext e2) .nil)), ?_⟩
  exact p2.bind.mono fun H3 M3 τ3 z _ e3 S3 p3 zv rz => Post.here p3 S3 _ (((n.ext e1).ext e2).ext e3)

/-! ### while -/
def whileL (c : DT) (b : DS) : Nat → DS
  | 0, _, _ => .bad
  | n + 1, δ, τ => (c δ τ).toS fun k τ' => if k = true then (b δ τ').loop (whileL c b n) else .nx δ τ'
def dWhile (fuel : DEnv → List D → Nat) (c : DT) (b : DS) : DS := fun δ τ => whileL c b (fuel δ τ) δ τ
theorem ds_while (fuel : DEnv → List D → Nat) {c : Expr} {ft : DT} (hp : PassesOwn (model X.prog X.w) X.A X.env X.xe) (hc : PT X c (tT X.K E ft)) (hb : PSs X body (tS X.K E s)) : PS X (.While c body [] pos) (tS X.K E (dWhile fuel ft s)) := by
  refine (ps_while hp hc hb).imp fun Z σ H ⟨P, M, δ, τ, n, S, p⟩ => ?_
  refine ⟨fun m σ H => ∃ M δ τ, EnvD ⟨X.K, P⟩ H M σ δ ∧ Sto ⟨X.K, P⟩ H M τ ∧ PostS ⟨X.K, P⟩ E H M Z (whileL ft s m δ τ), ⟨fuel δ τ, M, δ, τ, n, S, p⟩, ?_⟩
  rintro m σ H ⟨M, δ, τ, n, S, p⟩
  cases m with
  | zero => exact p.elim
  | succ m =>
    refine ⟨P, M, δ, τ, n, S, ?_⟩
    refine (PostS.toS p).mono fun H1 M1 τ1 k _ e1 S1 p1 => ?_
    cases k with
    | true =>
      simp only [if_true] at p1 ⊢
      refine ⟨fun σ' H' => ∃ M δ τ, EnvD ⟨X.K, P⟩ H' M σ' δ ∧ Sto ⟨X.K, P⟩ H' M τ ∧ PostS ⟨X.K, P⟩ E H' M Z (whileL ft s m δ τ), fun σ' H' q => ⟨m, Nat.lt_succ_self _, q⟩, P, M1, δ, τ1, n.ext e1, S1, ?_⟩
      revert p1
      cases s δ τ1 with
      | nx δ2 τ2 => exact fun p1 H2 M2 σ2 e2 n2 S2 => ⟨M2, δ2, τ2, n2, S2, PostS.ext p1 e2⟩
      | ct δ2 τ2 => exact fun p1 H2 M2 σ2 e2 n2 S2 => ⟨M2, δ2, τ2, n2, S2, PostS.ext p1 e2⟩
      | bk δ2 τ2 => exact fun p1 => p1
      | rt d τ2 => exact fun p1 => p1
      | exn C fs τ2 => exact fun p1 => p1
      | bad => exact fun p1 => p1
    | false =>
      simp only [Bool.false_eq_true, if_false] at p1 ⊢
      exact p1 H1 M1 σ (Ext.refl _ _) (n.ext e1) S1

/-! ### for -/
/-- what a loop walks: the items, one by one -/
def Prot (P P' : List Addr) (H : Hp) : Prop := ∀ a ∈ P', a ∈ P ∨ H a = none
theorem Prot.refl (P : List Addr) (H : Hp) : Prot P P H := fun _ h => .inl h
theorem Rep.prot {k : PySem.W.Frag} {P P' : List Addr} {H : Hp} {M : List Addr} {v : V} {d : D} (r : Rep ⟨k, P⟩ H M v d) (h : Prot P P' H) : Rep ⟨k, P'⟩ H M v d := by
  have no : ∀ a o, H a = some o → a ∉ P → a ∉ P' := fun a o e hp z => (h a z).elim hp fun q => by rw [q] at e; cases e
  induction r with
  | non => exact .non
  | bl b => exact .bl b
  | int i => exact .int i
  | str x => exact .str x
  | raw v => exact .raw v
  | cell h => exact .cell h
  | lst h hm hl _ ih => exact .lst h ⟨hm.1, no _ _ h hm.2⟩ hl ih
  | frl h hl _ ih =>
    refine .frl ?_ hl ih
    rcases h with ⟨h | ⟨o, h⟩, hm⟩ | h
    · exact .inl ⟨.inl h, hm.1, no _ _ h hm.2⟩
    · exact .inl ⟨.inr ⟨o, h⟩, hm.1, no _ _ h hm.2⟩
    · exact .inr h
  | tup h hm hl _ ih => exact .tup h ⟨hm.1, no _ _ h hm.2⟩ hl ih
  | frt h hl _ ih =>
    refine .frt ?_ hl ih
    rcases h with ⟨h | ⟨o, h⟩, hm⟩ | h
    · exact .inl ⟨.inl h, hm.1, no _ _ h hm.2⟩
    · exact .inl ⟨.inr ⟨o, h⟩, hm.1, no _ _ h hm.2⟩
    · exact .inr h
  | dic h hm hk _ ih => exact .dic h ⟨hm.1, no _ _ h hm.2⟩ hk ih
  | dicT h hm hk _ ih => exact .dicT h ⟨hm.1, no _ _ h hm.2⟩ hk ih
  | obj h hm hk _ ih => exact .obj h ⟨hm.1, no _ _ h hm.2⟩ hk ih
/-- the heap goes on, what is kept apart may change -/
structure ExtP (P : List Addr) (H : Hp) (M : List Addr) (H' : Hp) (M' : List Addr) : Prop where
  more : ∃ N, M' = M ++ N ∧ ∀ a ∈ N, H a = none
  keep : ∀ a o, a ∉ M → a ∉ P → H a = some o → H' a = some o
theorem Ext.toP {P M M' : List Addr} {H H' : Hp} (e : Ext H M H' M') : ExtP P H M H' M' := ⟨e.more, fun a o h _ => e.keep a o h⟩
theorem ExtP.notin {P M M' : List Addr} {H H' : Hp} (e : ExtP P H M H' M') {a : Addr} {o : HO} (h : H a = some o) (hm : a ∉ M) : a ∉ M' := by
  obtain ⟨⟨N, rfl, hN⟩, _⟩ := e
  intro z
  rcases List.mem_append.mp z with z | z
  · exact hm z
  · rw [hN a z] at h; cases h
theorem ExtP.trans {P M M' M'' : List Addr} {H H' H'' : Hp} (e : ExtP P H M H' M') (f : Ext H' M' H'' M'') (l : ∀ a, H a ≠ none → H' a ≠ none) : ExtP P H M H'' M'' := by
  refine ⟨?_, fun a o h hp q => f.keep a o (e.notin q h) (e.keep a o h hp q)⟩
  obtain ⟨⟨N, rfl, hN⟩, _⟩ := e
  obtain ⟨⟨N2, rfl, hN2⟩, _⟩ := f
  refine ⟨N ++ N2, by rw [List.append_assoc], fun a ha => ?_⟩
  rcases List.mem_append.mp ha with z | z
  · exact hN a z
  · cases q : H a with
    | none => rfl
    | some o => exact absurd (hN2 a z) (l a (by rw [q]; exact fun z => nomatch z))
theorem ExtP.wr {P M M' : List Addr} {H H' : Hp} {L : Addr} {o : HO} (e : ExtP P H M H' M') (h : L ∈ P) : ExtP P H M (upd H' L o) M' :=
  ⟨e.more, fun a u ha hp q => by rw [upd_ne (show a ≠ L from fun z => hp (z ▸ h))]; exact e.keep a u ha hp q⟩
theorem SqM.extP {K : KP} {M M' : List Addr} {H H' : Hp} {a : Addr} {xs : List V} (h : SqM K H M a xs) (e : ExtP K.p H M H' M') : SqM K H' M' a xs := by
  rcases h with ⟨h | ⟨o, h⟩, hm⟩ | h
  · exact .inl ⟨.inl (e.keep _ _ hm.1 hm.2 h), e.notin h hm.1, hm.2⟩
  · exact .inl ⟨.inr ⟨o, e.keep _ _ hm.1 hm.2 h⟩, e.notin h hm.1, hm.2⟩
  · exact .inr h
theorem TuM.extP {K : KP} {M M' : List Addr} {H H' : Hp} {a : Addr} {xs : List V} (h : TuM K H M a xs) (e : ExtP K.p H M H' M') : TuM K H' M' a xs := by
  rcases h with ⟨h | ⟨o, h⟩, hm⟩ | h
  · exact .inl ⟨.inl (e.keep _ _ hm.1 hm.2 h), e.notin h hm.1, hm.2⟩
  · exact .inl ⟨.inr ⟨o, e.keep _ _ hm.1 hm.2 h⟩, e.notin h hm.1, hm.2⟩
  · exact .inr h
theorem Rep.extP {k : PySem.W.Frag} {P P' M M' : List Addr} {H H' : Hp} {v : V} {d : D} (r : Rep ⟨k, P⟩ H M v d) (hp : Prot P P' H) (e : ExtP P H M H' M') : Rep ⟨k, P'⟩ H' M' v d := by
  have no : ∀ a o, H a = some o → a ∉ P → a ∉ P' := fun a o e hq z => (hp a z).elim hq fun q => by rw [q] at e; cases e
  induction r with
  | non => exact .non
  | bl b => exact .bl b
  | int i => exact .int i
  | str x => exact .str x
  | raw v => exact .raw v
  | cell h =>
    obtain ⟨⟨N, rfl, _⟩, _⟩ := e
    exact .cell (by rw [List.getElem?_append_left (List.getElem?_eq_some_iff.mp h).1]; exact h)
  | lst h hm hl _ ih => exact .lst (e.keep _ _ hm.1 hm.2 h) ⟨e.notin h hm.1, no _ _ h hm.2⟩ hl ih
  | frl h hl _ ih =>
    refine .frl ?_ hl ih
    rcases h with ⟨h | ⟨o, h⟩, hm⟩ | h
    · exact .inl ⟨.inl (e.keep _ _ hm.1 hm.2 h), e.notin h hm.1, no _ _ h hm.2⟩
    · exact .inl ⟨.inr ⟨o, e.keep _ _ hm.1 hm.2 h⟩, e.notin h hm.1, no _ _ h hm.2⟩
    · exact .inr h
  | tup h hm hl _ ih => exact .tup (e.keep _ _ hm.1 hm.2 h) ⟨e.notin h hm.1, no _ _ h hm.2⟩ hl ih
  | frt h hl _ ih =>
    refine .frt ?_ hl ih
    rcases h with ⟨h | ⟨o, h⟩, hm⟩ | h
    · exact .inl ⟨.inl (e.keep _ _ hm.1 hm.2 h), e.notin h hm.1, no _ _ h hm.2⟩
    · exact .inl ⟨.inr ⟨o, e.keep _ _ hm.1 hm.2 h⟩, e.notin h hm.1, no _ _ h hm.2⟩
    · exact .inr h
  | dic h hm hk _ ih => exact .dic (e.keep _ _ hm.1 hm.2 h) ⟨e.notin h hm.1, no _ _ h hm.2⟩ hk ih
  | dicT h hm hk _ ih => exact .dicT (e.keep _ _ hm.1 hm.2 h) ⟨e.notin h hm.1, no _ _ h hm.2⟩ hk ih
  | obj h hm hk _ ih => exact .obj (e.keep _ _ hm.1 hm.2 h) ⟨e.notin h hm.1, no _ _ h hm.2⟩ hk ih
def ItOk (K : KP) (J : It) (H0 : Hp) (M0 : List Addr) (items : List D) : Prop := ∀ P' H M, Prot K.p P' H0 → ExtP K.p H0 M0 H M → ∀ i : Nat,
  (i < items.length → J.go i H ∧ ∀ x H', (∀ a ∈ M, H a ≠ none) → (∀ a ∈ P', H a ≠ none) → J.yld i H x H' → Same H H' ∧ ∀ d, items[i]? = some d → Rep ⟨K.k, P'⟩ H' M x d) ∧ (items.length ≤ i → J.stop i H)
def tI (K : PySem.W.Frag) (E : XK) (f : DI) : TI := fun σ H Q => ∃ P M δ τ, EnvD ⟨K, P⟩ H M σ δ ∧ Sto ⟨K, P⟩ H M τ ∧ Post ⟨K, P⟩ E H M (f δ τ) fun H' M' _ items => ∀ J, ItOk ⟨K, P⟩ J H' M' items → Q J H'
theorem _root_.L2.PI.imp {tg : Expr} {t t' : TI} (h : PI X tg e t) (k : ∀ σ H Q, t' σ H Q → t σ H Q) : PI X tg e t' := ⟨fun pins s σ H Q I q => h.run pins s σ H Q I (k σ H Q q)⟩
def forL (g : DG) (b : DS) : List D → DS
  | [], δ, τ => .nx δ τ
  | x :: xs, δ, τ => (g x δ τ).toS fun δ1 τ1 => (b δ1 τ1).loop (forL g b xs)
def dFor (it : DI) (g : DG) (b : DS) : DS := fun δ τ => (it δ τ).toS fun xs τ' => forL g b xs δ τ'
theorem ds_for {tg iter : Expr} {it : DI} (hp : PassesOwn (model X.prog X.w) X.A X.env X.xe) (hc : X.calm = true) (hi : PI X tg iter (tI X.K E it)) (hg : PG X tg (tG X.K E g)) (hb : PSs X body (tS X.K E s))
    (hs : ∀ x, foldedSetIterable iter X.env x = pure x := by intro _; rfl) : PS X (.For tg iter body [] pos) (tS X.K E (dFor it g s)) := by
  refine (ps_for hp hc hi hg hb hs).imp fun Z σ H ⟨P, M, δ, τ, n, S, p⟩ => ⟨P, M, δ, τ, n, S, ?_⟩
  refine (PostS.toS p).mono fun H0 M0 τ0 items _ e0 S0 p0 J hJ => ?_
  refine ⟨fun i m σ H => m = items.length - i ∧ i ≤ items.length ∧ ∃ M δ τ, Ext H0 M0 H M ∧ EnvD ⟨X.K, P⟩ H M σ δ ∧ Sto ⟨X.K, P⟩ H M τ ∧ PostS ⟨X.K, P⟩ E H M Z (forL g s (items.drop i) δ τ),
    ⟨items.length, by simp, Nat.zero_le _, M0, δ, τ0, Ext.refl _ _, n.ext e0, S0, by simpa using p0⟩, ?_⟩
  rintro i m σ H ⟨rfl, hi, M, δ, τ, e, n, S, p⟩
  obtain ⟨h1, h2⟩ := hJ P H M (Prot.refl _ _) e.toP i
  by_cases hlt : i < items.length
  · refine .inr ⟨(h1 hlt).1, fun σ' H' => i < items.length ∧ ∃ M δ τ, Ext H0 M0 H' M ∧ EnvD ⟨X.K, P⟩ H' M σ' δ ∧ Sto ⟨X.K, P⟩ H' M τ ∧ PostS ⟨X.K, P⟩ E H' M Z (forL g s (items.drop (i + 1)) δ τ),
      fun σ' H' ⟨hl, q⟩ => ⟨items.length - (i + 1), by omega, rfl, hl, q⟩, fun x H' y => ?_⟩
    obtain ⟨sm, rx⟩ := (h1 hlt).2 x H' (fun a ha => S.there ha) (fun a ha => (S.prot a ha).1) y
    have em : Ext H M H' M := Ext.same sm
    rw [List.drop_eq_getElem_cons hlt] at p
    have p : PostS ⟨X.K, P⟩ E H M Z ((g items[i] δ τ).toS fun δ1 τ1 => (s δ1 τ1).loop (forL g s (items.drop (i + 1)))) := p
    refine ⟨P, M, δ, τ, items[i], n.ext em, S.same sm, rx _ (by simp [hlt]), ?_⟩
    refine (PostS.toS (PostS.ext p em)).mono fun H2 M2 τ2 δ2 _ e2 S2 p2 σ2 n2 => ⟨P, M2, δ2, τ2, n2, S2, ?_⟩
    have e02 : Ext H0 M0 H2 M2 := (e.trans em).trans e2
    revert p2
    cases s δ2 τ2 with
    | nx δ3 τ3 => exact fun p3 H3 M3 σ3 e3 n3 S3 => ⟨hlt, M3, δ3, τ3, e02.trans e3, n3, S3, PostS.ext p3 e3⟩
    | ct δ3 τ3 => exact fun p3 H3 M3 σ3 e3 n3 S3 => ⟨hlt, M3, δ3, τ3, e02.trans e3, n3, S3, PostS.ext p3 e3⟩
    | bk δ3 τ3 => exact fun p3 => p3
    | rt d τ3 => exact fun p3 => p3
    | exn C fs τ3 => exact fun p3 => p3
    | bad => exact fun p3 => p3
  · have ei : i = items.length := by omega
    subst ei
    rw [List.drop_eq_nil_of_le (Nat.le_refl _)] at p
    exact .inl ⟨h2 (Nat.le_refl _), p H M σ (Ext.refl _ _) n S⟩
/-- over a list or a tuple -/
theorem itl_ok {K : KP} {H : Hp} {M : List Addr} {a : Addr} {vs : List V} {ds : List D} (h : SqM K H M a vs) (r : RepL K H M vs ds) : ItOk K (Itl K.k a) H M ds := by
  intro P' H' M' hp e i
  have h' := (h.extP e).sq
  refine ⟨fun hi => ⟨⟨vs, vs[i]'(by rw [r.1]; exact hi), h', by simp [r.1, hi]⟩, fun x H2 _ _ ⟨e2, q⟩ => ?_⟩, fun hi => ⟨vs, h', by rw [r.1]; exact hi⟩⟩
  subst e2
  exact ⟨fun _ _ z => z, fun d hd => (r.2 i x d (q vs h') hd).extP hp e⟩
theorem itt_ok {K : KP} {H : Hp} {M : List Addr} {a : Addr} {vs : List V} {ds : List D} (h : TuM K H M a vs) (r : RepL K H M vs ds) : ItOk K (Itt K.k a) H M ds := by
  intro P' H' M' hp e i
  have h' := (h.extP e).sq
  refine ⟨fun hi => ⟨⟨vs, vs[i]'(by rw [r.1]; exact hi), h', by simp [r.1, hi]⟩, fun x H2 _ _ ⟨e2, q⟩ => ?_⟩, fun hi => ⟨vs, h', by rw [r.1]; exact hi⟩⟩
  subst e2
  exact ⟨fun _ _ z => z, fun d hd => (r.2 i x d (q vs h') hd).extP hp e⟩
/-- the items of a frozen list or tuple -/
def dItems (f : DE) : DI := fun δ τ => (f δ τ).bind fun d τ' => match d with
  | .lst ds => .ok ds τ'
  | .tup ds => .ok ds τ'
  | .frt ds => .ok ds τ'
  | _ => .bad
theorem di_seq {tg : Expr} (he : PE X e (tE X.K E f)) : PI X tg e (tI X.K E (dItems f)) := by
  refine ⟨fun pins s σ H Q I ⟨P, M, δ, τ, n, S, p⟩ => ?_⟩
  have p : Post ⟨X.K, P⟩ E H M ((f δ τ).bind fun d τ' => match d with
    | .lst ds => .ok ds τ'
    | .tup ds => .ok ds τ'
    | .frt ds => .ok ds τ'
    | _ => .bad) _ := p
  cases q : f δ τ with
  | bad => rw [q] at p; exact p.elim
  | exn C fs τ' =>
    refine (pi_list he).run pins s σ H Q I ⟨P, M, δ, τ, n, S, ?_⟩
    rw [q] at p ⊢
    exact p
  | ok d τ' =>
    have p' := p
    rw [q] at p'
    cases d with
    | lst ds =>
      refine (pi_list he).run pins s σ H Q I ⟨P, M, δ, τ, n, S, ?_⟩
      refine p.bind.mono fun H1 M1 τ1 d' hd e1 S1 p1 v rv => ?_
      rw [q] at hd
      injection hd with hd _
      subst hd
      cases rv with
      | lst h hm hl hi => exact ⟨_, rfl, ⟨_, SqL.of h⟩, Post.here p1 S1 _ (itl_ok (.inl ⟨.inl h, hm⟩) ⟨hl, hi⟩)⟩
    | tup ds =>
      refine (pi_tup he).run pins s σ H Q I ⟨P, M, δ, τ, n, S, ?_⟩
      refine p.bind.mono fun H1 M1 τ1 d' hd e1 S1 p1 v rv => ?_
      rw [q] at hd
      injection hd with hd _
      subst hd
      cases rv with
      | tup h hm hl hi => exact ⟨_, rfl, ⟨_, SqT.of h⟩, Post.here p1 S1 _ (itt_ok (.inl ⟨.inl h, hm⟩) ⟨hl, hi⟩)⟩
    | frt ds =>
      refine (pi_tup he).run pins s σ H Q I ⟨P, M, δ, τ, n, S, ?_⟩
      refine p.bind.mono fun H1 M1 τ1 d' hd e1 S1 p1 v rv => ?_
      rw [q] at hd
      injection hd with hd _
      subst hd
      cases rv with
      | frt h hl hi => exact ⟨_, rfl, ⟨_, h.sq⟩, Post.here p1 S1 _ (itt_ok h ⟨hl, hi⟩)⟩
    | _ => exact p'.elim
def dRange1 (f : DE) : DI := fun δ τ => (f δ τ).bind fun d τ' => match der τ' d with
  | .int j => if -(2 ^ 62) ≤ j ∧ j < 2 ^ 62 then .ok ((List.range j.toNat).map fun (i : Nat) => D.int (i : Int)) τ' else .bad
  | _ => .bad
theorem itr_ok {K : KP} {H : Hp} {M : List Addr} {lo : Int} {n : Nat} : ItOk K (Itr lo n) H M ((List.range n).map fun (i : Nat) => D.int (lo + (i : Int))) := by
  intro P' H' M' hp e i
  refine ⟨fun hi => ?_, fun hi => by show n ≤ i; simpa using hi⟩
  have hi : i < n := by simpa using hi
  refine ⟨hi, fun x H2 _ _ ⟨e2, q⟩ => ?_⟩
  subst e2 q
  refine ⟨fun _ _ z => z, fun d hd => ?_⟩
  simp [hi] at hd
  subst hd
  exact .int _
theorem di_range1 {tg : Expr} {p : Pos} (hm : X.mg "range" = none) (ha : PE X a (tE X.K E fa)) (hg : Gl X "range" := by rfl) (hs : starEach [a] X.env = [(false, eval a X.env)] := by rfl) : PI X tg (.Call (.Name "range" p) [a] [] pos) (tI X.K E (dRange1 fa)) := by
  refine (pi_range1 hg hm (pa_consD ha pa_nilD (by rw [hs]; rfl)) hs).imp fun σ H Q ⟨P, M, δ, τ, n, S, p⟩ => ⟨P, M, δ, τ, n, S, ?_⟩
  have p : Post ⟨X.K, P⟩ E H M ((fa δ τ).bind fun d τ' => match der τ' d with
    | .int j => if -(2 ^ 62) ≤ j ∧ j < 2 ^ 62 then .ok ((List.range j.toNat).map fun (i : Nat) => D.int (i : Int)) τ' else .bad
    | _ => .bad) _ := p
  show Post ⟨X.K, P⟩ E H M ((fa δ τ).bind fun d τ1 => R.ok [d] τ1) _
  revert p
  cases fa δ τ with
  | bad => exact fun p => p
  | exn C fs τ' => exact fun p => p
  | ok d τ' =>
    intro p H1 M1 e1 S1 vs rs
    obtain ⟨v, rfl, rv⟩ := rs.one
    have p : Post ⟨X.K, P⟩ E H M (match der τ' d with
      | .int j => if -(2 ^ 62) ≤ j ∧ j < 2 ^ 62 then .ok ((List.range j.toNat).map fun (i : Nat) => D.int (i : Int)) τ' else .bad
      | _ => .bad) _ := p
    split at p
    · rename_i j hj
      split at p
      · rename_i hb
        refine ⟨j, by rw [rep_int rv S1 hj], hb.1, hb.2, p H1 M1 e1 S1 _ ?_⟩
        have := itr_ok (K := ⟨X.K, P⟩) (H := H1) (M := M1) (lo := 0) (n := j.toNat)
        simpa using this
      · exact p.elim
    · exact p.elim
end
end DL

namespace DL
open PySem L2

/-! ### comprehensions -/
def cap : Nat := 1000000
theorem cap_line {n : Nat} (h : n ≤ cap) : n ≤ sizeLine := by rw [sizeLine_eq]; unfold cap at h; omega
theorem cap_lt {n m : Nat} (h : n < m) (h2 : m ≤ cap) : n < sizeLine := by rw [sizeLine_eq]; unfold cap at h2; omega
def R.noexn {α : Type} (r : R α) : R α := match r with
  | .exn _ _ _ => .bad
  | r => r
@[simp] theorem R.noexn_ok {α : Type} (a : α) (τ : List D) : (R.ok a τ).noexn = .ok a τ := rfl
@[simp] theorem R.noexn_bad {α : Type} : (R.bad : R α).noexn = .bad := rfl
@[simp] theorem R.noexn_exn {α : Type} (C : Addr) (fs : List (Str × D)) (τ : List D) : (R.exn C fs τ : R α).noexn = .bad := rfl
def wipeD (δ : DEnv) : List Nat → DEnv
  | [] => δ
  | v :: vs => (wipeD δ vs).set v none
def lcL (g : DG) (ts : DT) (f : DE) (δ : DEnv) : List D → List D → R (List D)
  | [], τ => .ok [] τ
  | x :: xs, τ => (g x δ τ).noexn.bind fun δ1 τ1 => (ts δ1 τ1).noexn.bind fun b τ2 => if b = true then (f δ1 τ2).noexn.bind fun y τ3 => (lcL g ts f δ xs τ3).bind fun ys τ4 => .ok (y :: ys) τ4 else lcL g ts f δ xs τ2
def dLC (own : List Nat) (it : DI) (g : DG) (ts : DT) (f : DE) : DE := fun δ τ => (it δ τ).bind fun xs τ' => if xs.length ≤ cap then (lcL g ts f (wipeD δ own) xs τ').bind fun ys τ'' => .ok (.lst ys) τ'' else .bad
def tGc (K : PySem.W.Frag) (own : List Nat) (g : DG) : TG := fun v σ H Q => ∃ P M δ τ d, EnvD ⟨K, P⟩ H M σ δ ∧ Sto ⟨K, P⟩ H M τ ∧ Rep ⟨K, P⟩ H M v d ∧ Post ⟨K, P⟩ E0 H M (g d δ τ) fun H' M' _ δ' => ∀ σ', EnvD ⟨K, P⟩ H' M' σ' δ' → wipe σ' own = wipe σ own → Q σ' H'
theorem wipe_set : ∀ {own : List Nat} {σ : St} {i : Nat} {v : Option V}, i ∈ own → wipe (σ.set i v) own = wipe σ own
  | [], _, _, _, h => by simp at h
  | j :: vs, σ, i, v, h => by
    unfold wipe
    by_cases e : i ∈ vs
    · rw [wipe_set e]
    · have hj : i = j := by
        rcases List.mem_cons.mp h with z | z
        · exact z
        · exact absurd z e
      subst hj
      clear h
      have sw : ∀ (ws : List Nat) (σ : St), i ∉ ws → wipe (σ.set i v) ws = (wipe σ ws).set i v := by
        intro ws
        induction ws with
        | nil => intro σ _; rfl
        | cons w ws ih =>
          intro σ hw
          simp only [List.mem_cons, not_or] at hw
          unfold wipe
          rw [ih σ hw.2, List.set_comm _ _ hw.1]
      rw [sw vs σ e, List.set_set]
theorem wipe_comm (σ : St) (i : Nat) : ∀ vs : List Nat, wipe (σ.set i none) vs = (wipe σ vs).set i none
  | [] => rfl
  | v :: vs => by
    unfold wipe
    rw [wipe_comm σ i vs]
    by_cases e : i = v
    · subst e; rfl
    · rw [List.set_comm _ _ e]
theorem wipe_wipe (σ : St) : ∀ vs : List Nat, wipe (wipe σ vs) vs = wipe σ vs
  | [] => rfl
  | v :: vs => by
    show (wipe ((wipe σ vs).set v none) vs).set v none = (wipe σ vs).set v none
    rw [wipe_comm, wipe_wipe σ vs, List.set_set]
section
variable {K : KP} {E : XK} {H H' : Hp} {M M' : List Addr} {σ : St} {δ : DEnv} {τ : List D} {v : V} {d : D}
theorem EnvD.wiped (n : EnvD K H M σ δ) : ∀ own : List Nat, EnvD K H M (wipe σ own) (wipeD δ own)
  | [] => n
  | i :: own => by
    have n' := EnvD.wiped n own
    refine ⟨by show ((wipe σ own).set i none).length = ((wipeD δ own).set i none).length; rw [List.length_set, List.length_set]; exact n'.len, fun j d h => ?_⟩
    have h : ((wipeD δ own).set i none)[j]? = some (some d) := h
    show ∃ v, ((wipe σ own).set i none)[j]? = some (some v) ∧ _
    by_cases e : i = j
    · subst e
      have hi : i < (wipeD δ own).length := by simpa using (List.getElem?_eq_some_iff.mp h).1
      rw [List.getElem?_set_self hi] at h; cases h
    · rw [List.getElem?_set_ne e] at h ⊢
      exact n'.at_ j d h
theorem Rep.wrP {L : Addr} {o : HO} (r : Rep K H M v d) (h : L ∈ K.p) : Rep K (upd H L o) M v d := by
  have ne : ∀ a, a ∉ K.p → a ≠ L := fun a ha z => ha (z ▸ h)
  induction r with
  | non => exact .non
  | bl b => exact .bl b
  | int i => exact .int i
  | str x => exact .str x
  | raw v => exact .raw v
  | cell h => exact .cell h
  | lst h hm hl _ ih => exact .lst (by rw [upd_ne (ne _ hm.2)]; exact h) hm hl ih
  | frl h hl _ ih =>
    refine .frl ?_ hl ih
    rcases h with ⟨h | ⟨o, h⟩, hm⟩ | h
    · exact .inl ⟨.inl (by rw [upd_ne (ne _ hm.2)]; exact h), hm⟩
    · exact .inl ⟨.inr ⟨o, by rw [upd_ne (ne _ hm.2)]; exact h⟩, hm⟩
    · exact .inr h
  | tup h hm hl _ ih => exact .tup (by rw [upd_ne (ne _ hm.2)]; exact h) hm hl ih
  | frt h hl _ ih =>
    refine .frt ?_ hl ih
    rcases h with ⟨h | ⟨o, h⟩, hm⟩ | h
    · exact .inl ⟨.inl (by rw [upd_ne (ne _ hm.2)]; exact h), hm⟩
    · exact .inl ⟨.inr ⟨o, by rw [upd_ne (ne _ hm.2)]; exact h⟩, hm⟩
    · exact .inr h
  | dic h hm hk _ ih => exact .dic (by rw [upd_ne (ne _ hm.2)]; exact h) hm hk ih
  | dicT h hm hk _ ih => exact .dicT (by rw [upd_ne (ne _ hm.2)]; exact h) hm hk ih
  | obj h hm hk _ ih => exact .obj (by rw [upd_ne (ne _ hm.2)]; exact h) hm hk ih
theorem Cel.wrP {L a : Addr} {o : HO} (c : Cel K H M a d) (h : L ∈ K.p) (ne : a ≠ L) : Cel K (upd H L o) M a d := by
  cases d with
  | lst ds => obtain ⟨vs, q, r⟩ := c; exact ⟨vs, by rw [upd_ne ne]; exact q, r.1, fun i v d h1 h2 => (r.2 i v d h1 h2).wrP h⟩
  | dic ds => obtain ⟨vs, q, r⟩ := c; exact ⟨vs, by rw [upd_ne ne]; exact q, r.1, fun i v d h1 h2 => (r.2 i v d h1 h2).wrP h⟩
  | dit ds => obtain ⟨vs, q, r⟩ := c; exact ⟨vs, by rw [upd_ne ne]; exact q, r.1, fun i v d h1 h2 => (r.2 i v d h1 h2).wrP h⟩
  | obj C ds => obtain ⟨dx, vs, q, r⟩ := c; exact ⟨dx, vs, by rw [upd_ne ne]; exact q, r.1, fun i v d h1 h2 => (r.2 i v d h1 h2).wrP h⟩
  | _ => exact c.elim
theorem Sto.wrP {L : Addr} {o : HO} (S : Sto K H M τ) (h : L ∈ K.p) : Sto K (upd H L o) M τ := by
  refine ⟨S.len, S.nd, fun a ha => ⟨?_, (S.prot a ha).2⟩, fun k a d h1 h2 => (S.at_ k a d h1 h2).wrP h fun z => (S.prot L h).2 (z ▸ List.mem_of_getElem? h1)⟩
  by_cases e : a = L
  · subst e; rw [upd_same]; exact fun z => nomatch z
  · rw [upd_ne e]; exact (S.prot a ha).1
theorem EnvD.wrP {L : Addr} {o : HO} (n : EnvD K H M σ δ) (h : L ∈ K.p) : EnvD K (upd H L o) M σ δ := ⟨n.len, fun i d e => let ⟨v, h1, h2⟩ := n.at_ i d e; ⟨v, h1, h2.wrP h⟩⟩
theorem Ext.wrN {L : Addr} {o : HO} (e : Ext H M H' M') (h : H L = none) : Ext H M (upd H' L o) M' := by
  refine ⟨e.more, fun a u ha hu => by rw [upd_ne (ne_of_none hu h)]; exact e.keep a u ha hu, fun a ha => ?_⟩
  by_cases z : a = L
  · subst z; rw [upd_same]; exact fun z => nomatch z
  · rw [upd_ne z]; exact e.live a ha
theorem EnvD.prot {k : PySem.W.Frag} {P P' : List Addr} (n : EnvD ⟨k, P⟩ H M σ δ) (h : Prot P P' H) : EnvD ⟨k, P'⟩ H M σ δ := ⟨n.len, fun i d e => let ⟨v, h1, h2⟩ := n.at_ i d e; ⟨v, h1, h2.prot h⟩⟩
theorem RepL.prot {k : PySem.W.Frag} {P P' : List Addr} {vs : List V} {ds : List D} (r : RepL ⟨k, P⟩ H M vs ds) (h : Prot P P' H) : RepL ⟨k, P'⟩ H M vs ds := ⟨r.1, fun i v d h1 h2 => (r.2 i v d h1 h2).prot h⟩
theorem Cel.prot {k : PySem.W.Frag} {P P' : List Addr} {a : Addr} (c : Cel ⟨k, P⟩ H M a d) (h : Prot P P' H) : Cel ⟨k, P'⟩ H M a d := by
  cases d with
  | lst ds => obtain ⟨vs, q, r⟩ := c; exact ⟨vs, q, r.1, fun i v d h1 h2 => (r.2 i v d h1 h2).prot h⟩
  | dic ds => obtain ⟨vs, q, r⟩ := c; exact ⟨vs, q, r.1, fun i v d h1 h2 => (r.2 i v d h1 h2).prot h⟩
  | dit ds => obtain ⟨vs, q, r⟩ := c; exact ⟨vs, q, r.1, fun i v d h1 h2 => (r.2 i v d h1 h2).prot h⟩
  | obj C ds => obtain ⟨dx, vs, q, r⟩ := c; exact ⟨dx, vs, q, r.1, fun i v d h1 h2 => (r.2 i v d h1 h2).prot h⟩
  | _ => exact c.elim
theorem Sto.prots {k : PySem.W.Frag} {P P' : List Addr} (S : Sto ⟨k, P⟩ H M τ) (h : Prot P P' H) (hp : ∀ a ∈ P', H a ≠ none ∧ a ∉ M) : Sto ⟨k, P'⟩ H M τ :=
  ⟨S.len, S.nd, hp, fun i a d h1 h2 => (S.at_ i a d h1 h2).prot h⟩
theorem Sto.enter {k : PySem.W.Frag} {P : List Addr} {L : Addr} {o : HO} (S : Sto ⟨k, P⟩ H M τ) (hL : H L = none) : Sto ⟨k, L :: P⟩ (upd H L o) M τ := by
  have pr : Prot P (L :: P) H := fun a ha => (List.mem_cons.mp ha).elim (fun z => .inr (z ▸ hL)) .inl
  refine ⟨S.len, S.nd, fun a ha => ?_, fun i a d h1 h2 => ?_⟩
  · rcases List.mem_cons.mp ha with z | z
    · rw [z]; exact ⟨(by rw [upd_same]; exact fun z => nomatch z), (S.new hL).1⟩
    · rw [upd_ne (show a ≠ L from fun q => (S.new hL).2 (by rw [← q]; exact z))]; exact S.prot a z
  · have c := S.at_ i a d h1 h2
    exact (c.prot pr).stay (Ext.new hL) (upd_ne fun z => c.there (z ▸ hL))
theorem RepL.wrP {L : Addr} {o : HO} {vs : List V} {ds : List D} (r : RepL K H M vs ds) (h : L ∈ K.p) : RepL K (upd H L o) M vs ds := ⟨r.1, fun i v d h1 h2 => (r.2 i v d h1 h2).wrP h⟩
theorem Post.okNoexn {α β : Type} {r : R α} {h : α → List D → R β} {γ : Type} {z : β → List D → R γ} {kk : Hp → List Addr → List D → γ → Prop}
    (p : Post K E H M ((r.noexn.bind h).bind z) kk) : ∃ a τa, r = .ok a τa ∧ Post K E H M ((h a τa).bind z) kk := by
  cases r with
  | ok a τa => exact ⟨a, τa, rfl, p⟩
  | exn C fs τ => exact p.elim
  | bad => exact p.elim
end
theorem R.bind_assoc {α β γ : Type} (r : R α) (f : α → List D → R β) (g : β → List D → R γ) : (r.bind f).bind g = r.bind fun a τ => (f a τ).bind g := by cases r <;> rfl

section
variable {X : Cx} {E : XK} {elt tg iter : Expr} {ifs : List Expr} {scope : Scope} {own : List (Str × Nat)} {pos : Pos} {it : DI} {gd : DG} {ts : DT} {f : DE}
theorem dgc_name (i : Nat) {x : Str} {own : List Nat} (hN : X.N.Nodup) (ho : i ∈ own := by decide) (hi : X.N[i]? = some x := by rfl) (hx : Loc X.env.scope x := by first | exact Or.inl rfl | exact Or.inr rfl) (hf : X.fn x = true ∨ X.env.scope.names.lookup x = some .local := by first | exact .inl rfl | exact .inr rfl) :
    PG X (.Name x pos) (tGc X.K own (dgName i)) :=
  (pg_name hN hi hx hf).imp fun v σ H Q ⟨P, M, δ, τ, d, n, S, r, p⟩ => Post.here p S _ (n.set r i) (wipe_set ho)
def tGsc (K : PySem.W.Frag) (own : List Nat) (gs : List DG) : TGs := fun vs σ H Q => ∃ P M δ τ ds, EnvD ⟨K, P⟩ H M σ δ ∧ Sto ⟨K, P⟩ H M τ ∧ RepL ⟨K, P⟩ H M vs ds ∧ Post ⟨K, P⟩ E0 H M (dgL gs ds δ τ) fun H' M' _ δ' => ∀ σ', EnvD ⟨K, P⟩ H' M' σ' δ' → wipe σ' own = wipe σ own → Q σ' H'
theorem dgsc_nil {own : List Nat} : PGs X [] (tGsc X.K own []) := L2.PGs.imp pgs_nil fun vs σ H Q ⟨P, M, δ, τ, ds, n, S, r, p⟩ => by
  cases ds with
  | nil => exact ⟨r.nil', Post.here p S _ n rfl⟩
  | cons _ _ => exact p.elim
theorem dgsc_cons {own : List Nat} {gs : List DG} {g : DG} {e : Expr} {es : List Expr} (h1 : PG X e (tGc X.K own g)) (h2 : PGs X es (tGsc X.K own gs))
    (hs : (assignEach (e :: es) X.env).map (·.2) = assign e X.env :: (assignEach es X.env).map (·.2) := by rfl) : PGs X (e :: es) (tGsc X.K own (g :: gs)) := L2.PGs.imp (pgs_cons h1 h2 hs) fun vs σ H Q ⟨P, M, δ, τ, ds, n, S, r, p⟩ => by
  cases ds with
  | nil => exact p.elim
  | cons d ds =>
    obtain ⟨v, vr, rfl, rv, rr⟩ := r.head
    refine ⟨v, vr, rfl, P, M, δ, τ, d, n, S, rv, ?_⟩
    have p : Post ⟨X.K, P⟩ E0 H M ((g d δ τ).bind fun δ' τ' => dgL gs ds δ' τ') _ := p
    exact p.bind.mono fun H1 M1 τ1 δ1 _ e1 S1 p1 σ1 n1 w1 => ⟨P, M1, δ1, τ1, ds, n1, S1, rr.ext e1, p1.mono fun H2 M2 τ2 δ2 _ e2 S2 p2 σ2 n2 w2 => p2 σ2 n2 (w2.trans w1)⟩
theorem dgc_tup {own : List Nat} {gs : List DG} {es : List Expr} {k : Nat} (hc : X.calm = true) (h : PGs X es (tGsc X.K own gs)) (hn : (assignEach es X.env).length = gs.length := by rfl) (hst : (assignEach es X.env).findIdx? (·.1) = none := by rfl) :
    PG X (.Tuple es k pos) (tGc X.K own (dgTup gs)) := by
  refine ⟨fun pins s σ H v u Q I r ⟨P, M, δ, τ, d, n, S, rv, p⟩ => ?_⟩
  unfold dgTup at p
  split at p
  · rename_i ds hd
    split at p
    · rename_i hl
      obtain ⟨a, vs, rfl, hs, rs⟩ := rep_tup rv S hd
      exact (pg_tup hc h hn hst).run pins s σ H _ u Q I r ⟨a, vs, rfl, SqT.of hs, rs.1.trans hl, P, M, δ, τ, ds, n, S, rs, p⟩
    · exact p.elim
  · rename_i ds hd
    split at p
    · rename_i hl
      obtain ⟨a, vs, rfl, hs, rs⟩ := rep_lst rv S hd
      exact (pg_unl hc h hn hst).run pins s σ H _ u Q I r ⟨a, vs, rfl, SqL.of hs, rs.1.trans hl, P, M, δ, τ, ds, n, S, rs, p⟩
    · exact p.elim
  · exact p.elim
def dYes : DT := fun _ τ => .ok true τ
theorem dts_nil : PTs X [] (tT X.K E dYes) := ⟨fun pins s σ H Q I ⟨P, M, δ, τ, n, S, p⟩ => pts_nil.run pins s σ H Q I (Post.here p S)⟩
theorem dts_one {c : Expr} {t : DT} (h : PT X c (tT X.K E t)) : PTs X [c] (tT X.K E t) := pts_one h
theorem lc_of {own : List Nat} {σ : St} {H : Hp} {Q : VK} (h : tE X.K E (dLC own it gd ts f) σ H Q) :
    tLc (tI X.K E it) (tGc X.K own gd) (tT X.K E0 ts) (tE X.K E0 f) own σ H Q := by
  obtain ⟨P, M, δ, τ, n, S, p⟩ := h
  refine ⟨P, M, δ, τ, n, S, ?_⟩
  refine (Post.bind p).mono fun H1 M1 τ1 items _ e1 S1 p1 J hJ L hL => ?_
  split at p1
  case isFalse => exact p1.elim
  rename_i hcap
  have pr : Prot P (L :: P) H1 := fun a ha => (List.mem_cons.mp ha).elim (fun z => .inr (z ▸ hL)) .inl
  have hLP : L ∉ P := fun z => (S1.prot L z).1 hL
  have hmL : L ∈ (⟨X.K, L :: P⟩ : KP).p := List.mem_cons_self
  have e0 : Ext H1 M1 (upd H1 L (.lst [])) M1 := Ext.new hL
  refine ⟨fun i m H => m = items.length - i ∧ i ≤ items.length ∧ ∃ M τ acc vs, Ext H1 M1 H M ∧ EnvD ⟨X.K, L :: P⟩ H M (wipe σ own) (wipeD δ own) ∧ Sto ⟨X.K, L :: P⟩ H M τ ∧ H L = some (.lst vs) ∧ RepL ⟨X.K, L :: P⟩ H M vs acc ∧ acc.length ≤ i ∧
      Post ⟨X.K, P⟩ E H1 M1 ((lcL gd ts f (wipeD δ own) (items.drop i) τ).bind fun ys τ' => .ok (.lst (acc ++ ys)) τ') fun H' M' _ d => ∀ v, Rep ⟨X.K, P⟩ H' M' v d → Q v H',
    ⟨items.length, by simp, Nat.zero_le _, M1, τ1, [], [], e0, (((n.ext e1).prot pr).ext e0).wiped own, S1.enter hL, upd_same, .nil, Nat.le_refl _, by simpa using p1⟩, ?_⟩
  rintro i m H ⟨rfl, hi, M, τ, acc, vs, e, n, S, hl, ra, hai, p⟩
  obtain ⟨h1, h2⟩ := hJ (L :: P) H M pr e.toP i
  have hLM : L ∉ M := (S.prot L hmL).2
  by_cases hlt : i < items.length
  · refine .inr ⟨(h1 hlt).1, fun H' => ∃ M τ acc vs, Ext H1 M1 H' M ∧ EnvD ⟨X.K, L :: P⟩ H' M (wipe σ own) (wipeD δ own) ∧ Sto ⟨X.K, L :: P⟩ H' M τ ∧ H' L = some (.lst vs) ∧ RepL ⟨X.K, L :: P⟩ H' M vs acc ∧ acc.length ≤ i + 1 ∧
      Post ⟨X.K, P⟩ E H1 M1 ((lcL gd ts f (wipeD δ own) (items.drop (i + 1)) τ).bind fun ys τ' => .ok (.lst (acc ++ ys)) τ') fun H' M' _ d => ∀ v, Rep ⟨X.K, P⟩ H' M' v d → Q v H',
      fun H' q => ⟨items.length - (i + 1), by omega, rfl, hlt, q⟩, fun x H' y => ?_⟩
    obtain ⟨sm, rx⟩ := (h1 hlt).2 x H' (fun a ha => S.there ha) (fun a ha => (S.prot a ha).1) y
    have em : Ext H M H' M := Ext.same sm
    rw [List.drop_eq_getElem_cons hlt] at p
    unfold lcL at p
    obtain ⟨δ2, τ2, q1, p⟩ := p.okNoexn
    refine ⟨L :: P, M, wipeD δ own, τ, items[i], n.ext em, S.same sm, rx _ (by simp [hlt]), ?_⟩
    rw [q1]
    intro H2 M2 e2 S2 σ2 n2 w2
    refine ⟨w2.trans (wipe_wipe σ own), ?_⟩
    obtain ⟨b, τ3, q2, p⟩ := p.okNoexn
    refine ⟨L :: P, M2, δ2, τ2, n2, S2, ?_⟩
    rw [q2]
    intro H3 M3 e3 S3
    have e13 : Ext H M H3 M3 := (em.trans e2).trans e3
    have e03 : Ext H1 M1 H3 M3 := e.trans e13
    have n3 := n.ext e13
    cases b with
    | false =>
      simp only [Bool.false_eq_true, if_false] at p ⊢
      exact ⟨M3, τ3, acc, vs, e03, n3, S3, e13.keep L _ hLM hl, ra.ext e13, by omega, p⟩
    | true =>
      simp only [if_true] at p ⊢
      obtain ⟨yd, τ4, q3, p⟩ := p.okNoexn
      refine ⟨L :: P, M3, δ2, τ3, n2.ext e3, S3, ?_⟩
      rw [q3]
      intro H4 M4 e4 S4 yv ry
      have e14 := e13.trans e4
      have hl4 : H4 L = some (.lst vs) := e14.keep L _ hLM hl
      refine ⟨vs, hl4, ?_, ?_⟩
      · rw [ra.1]; exact cap_lt (Nat.lt_of_le_of_lt hai hlt) hcap
      · refine ⟨M4, τ4, acc ++ [yd], vs ++ [yv], (e.trans e14).wrN hL, (n.ext e14).wrP hmL, S4.wrP hmL, upd_same, ?_, by simp; omega, ?_⟩
        · exact ((ra.ext e14).append (.cons ry .nil)).wrP hmL
        · rw [R.bind_assoc] at p
          have ee : (fun (ys : List D) (τ : List D) => (R.ok (yd :: ys) τ).bind fun ys τ' => R.ok (D.lst (acc ++ ys)) τ') = fun ys τ' => R.ok (D.lst (acc ++ [yd] ++ ys)) τ' := by
            funext ys τ'
            simp
          rw [ee] at p
          exact p
  · have ei : i = items.length := by omega
    subst ei
    rw [List.drop_eq_nil_of_le (Nat.le_refl _)] at p
    refine .inl ⟨h2 (Nat.le_refl _), ?_⟩
    have hLP' : Prot (L :: P) P H := fun a ha => .inl (List.mem_cons_of_mem _ ha)
    have S' : Sto ⟨X.K, P⟩ H M τ := S.prots hLP' fun a ha => S.prot a (List.mem_cons_of_mem _ ha)
    have p : Post ⟨X.K, P⟩ E H1 M1 (R.ok (D.lst (acc ++ [])) τ) fun H' M' _ d => ∀ v, Rep ⟨X.K, P⟩ H' M' v d → Q v H' := p
    rw [List.append_nil] at p
    exact p H M e S' _ (Rep.lst hl ⟨hLM, hLP⟩ ra.1 (ra.prot hLP').2)
/-- [elt for .. in .. if ..] -/
theorem de_lc (hc : X.calm = true) (hN : X.N.Nodup) (hi : PI X tg iter (tI X.K E it)) (ok : BlkOk X.N X.env.scope scope own)
    (hg : ∀ (s : Shared) (H : Hp) (C : Addr) (cl : List (Str × Addr)) (fp : List Addr), PG (X.blk s H scope (compEnvC scope cl C X.env) fp) tg (tGc X.K (own.map (·.2)) gd))
    (ht : ∀ (s : Shared) (H : Hp) (C : Addr) (cl : List (Str × Addr)) (fp : List Addr), PTs (X.blk s H scope (compEnvC scope cl C X.env) fp) ifs (tT X.K E0 ts))
    (he : ∀ (s : Shared) (H : Hp) (C : Addr) (cl : List (Str × Addr)) (fp : List Addr), PE (X.blk s H scope (compEnvC scope cl C X.env) fp) elt (tE X.K E0 f)) (hs : ∀ x, foldedSetIterable iter X.env x = pure x := by intro _; rfl) :
    PE X (.ListComp elt [⟨tg, iter, ifs, 0⟩] scope pos) (tE X.K E (dLC (own.map (·.2)) it gd ts f)) := (pe_lc hc hN hi ok hg ht he hs).imp fun _ _ _ h => lc_of h
theorem ds_setLc (i : Nat) {y : Str} {py spos : Pos} (hc : X.calm = true) (hN : X.N.Nodup) (hi : PI X tg iter (tI X.K E it)) (ok : BlkOk X.N X.env.scope scope own)
    (hg : ∀ (s : Shared) (H : Hp) (C : Addr) (cl : List (Str × Addr)) (fp : List Addr), PG (X.blk s H scope (compEnvC scope cl C X.env) fp) tg (tGc X.K (own.map (·.2)) gd))
    (ht : ∀ (s : Shared) (H : Hp) (C : Addr) (cl : List (Str × Addr)) (fp : List Addr), PTs (X.blk s H scope (compEnvC scope cl C X.env) fp) ifs (tT X.K E0 ts))
    (he : ∀ (s : Shared) (H : Hp) (C : Addr) (cl : List (Str × Addr)) (fp : List Addr), PE (X.blk s H scope (compEnvC scope cl C X.env) fp) elt (tE X.K E0 f))
    (hy : X.N[i]? = some y := by rfl) (hyl : X.env.scope.names.lookup y = some .local := by rfl)
    (hsw : swapsWith (.ListComp elt [⟨tg, iter, ifs, 0⟩] scope pos) (some (.Name y py)) spos.line X.env = pure true := by exact sw_true rfl rfl rfl (by decide +kernel))
    (hs : ∀ x, foldedSetIterable iter X.env x = pure x := by intro _; rfl) :
    PS X (.Assign [.Name y py] (.ListComp elt [⟨tg, iter, ifs, 0⟩] scope pos) spos) (tS X.K E (dAsg (dLC (own.map (·.2)) it gd ts f) (dgName i))) := by
  refine (ps_setLc hc hN hy hyl hsw hi ok hg ht he hs).imp fun Z σ H h => ?_
  have h := asg_of h
  have h := lc_of h
  obtain ⟨P, M, δ, τ, n, S, p⟩ := h
  refine ⟨P, M, δ, τ, n, S, p.mono fun H1 M1 τ1 items _ e1 S1 p1 J hJ L hL => ?_⟩
  obtain ⟨W, h0, hW⟩ := p1 J hJ L hL
  refine ⟨W, h0, fun i' m H w => ?_⟩
  rcases hW i' m H w with ⟨z1, z2⟩ | z
  · exact .inl ⟨z1, nm_of z2⟩
  · exact .inr z
end
end DL

namespace DL
open PySem L2 PySem.Spec PyProof.Rows
/-! ### defs whose promise also uses that no repr is under way -/
def GA (A : Around) : Prop := A.guards = some []
theorem GA.deeper {A : Around} (g : GA A) (env : Env) : GA (A.deeper env) := g
theorem GA.make {A : Around} (g : GA A) (C : Addr) (us : List Value) (kw : List (Str × Value)) : GA (A.under (.builtin "type.__call__" ⟨.ref C :: us, kw⟩)) := by
  unfold GA at *
  first
    | (simp [Around.under, Code.guards, Code.isGuard, guardIds, g, pushGuards]; done)
    | (unfold Around.under; simp only [g]; rfl)
structure FnG (P : Program) (w : World) (K : PySem.W.Frag) (mg : Str → Option Value) (base : Heap) (CX : CXT) (k : Nat) (f : Addr) (fd : FuncData) (ps : List Str) (sp : Sp) : Prop where
  len : ∀ vs H Q E, sp vs H Q E → vs.length = ps.length
  run : ∀ (A : Around) (out : List Env) (s : Shared) (H : Hp) (ar : Args) (us : List Value) (vs : List V) (Q : VK) (E : XK), Room k A → GA A → Env0 P w K mg base A out s H → BindsTo s fd ar (ps.zip us) → Vals vs us → sp vs H Q E →
    codeAny (model P w) A (.call (.ref f) ar) (CR CX out P w H s Q E) s
section
variable {P : Program} {w : World} {K : PySem.W.Frag} {mg : Str → Option Value} {base : Heap} {CX : CXT} {j k : Nat} {f : Addr} {fd : FuncData} {ps : List Str} {sp sp' : Sp}
theorem FnG.mono (F : FnG P w K mg base CX j f fd ps sp) (h : j ≤ k) : FnG P w K mg base CX k f fd ps sp :=
  ⟨F.len, fun A out s H ar us vs Q E r => F.run A out s H ar us vs Q E (r.mono h)⟩
theorem FnG.imp (F : FnG P w K mg base CX k f fd ps sp) (h : ∀ vs H Q E, sp' vs H Q E → sp vs H Q E) : FnG P w K mg base CX k f fd ps sp' :=
  ⟨fun vs H Q E q => F.len vs H Q E (h _ _ _ _ q), fun A out s H ar us vs Q E r g e b v q => F.run A out s H ar us vs Q E r g e b v (h _ _ _ _ q)⟩
end
section
variable {X : Cx} {CX : CXT} {k : Nat} {f C : Addr} {fd : FuncData} {ps : List Str} {sp : Sp} {dvs : List V} {ds : List Value} {E : XK} {x m : Str} {p pos apos : Pos} {e o : Expr} {es : List Expr} {ta : TE} {t : TA}
theorem runG {pins : List (Addr × Obj)} {σ : L2.St} {H : Hp} {s : Shared} {Q : VK} {us : List Value} {vs : List V} (F : FnG X.prog X.w X.K X.mg X.base CX k f fd ps sp) (rm : Room k X.A) (ga : GA X.A) (bi : Binds X.K fd ps ds) (dv : Vals dvs ds)
    (ex : Passes CX X E) (I : Inv X pins σ H s) (rv : Vals vs us) (hs : sp (vs ++ dvs) H Q E) :
    wpAny (model X.prog X.w) X.A (call (.ref f) us) (EP X pins σ Q) X.xe s := by
  have ra := rv.append dv
  have el : (us ++ ds).length = ps.length := ra.length.symm.trans (F.len _ _ _ _ hs)
  have go := F.run X.A X.stack s H ⟨us, []⟩ (us ++ ds) (vs ++ dvs) Q E rm ga I.env0 (bi s us I.kIn el) ra hs
  refine wpAny_call (codeAny_mono go ?_)
  intro r s' z
  rcases r with y | fl
  · exact ex pins σ H s y s' I z
  · rcases fl with u | _ | _ | _
    · first | exact I.after z | exact z.elim
    · first | exact I.after z | exact z.elim
    · first | exact I.after z | exact z.elim
    · first | exact I.after z | exact z.elim
theorem gcall (F : FnG X.prog X.w X.K X.mg X.base CX k f fd ps sp) (rm : Room k X.A) (ga : GA X.A) (gl : Gl X x) (hm : X.mg x = some (.ref f)) (kp : PySem.W.keepIn X.K (.ref f) = true) (bi : Binds X.K fd ps ds) (dv : Vals dvs ds) (ex : Passes CX X E)
    (ha : PA X (e :: es) t) (db : (x == ("__debug__" : Str)) = false := by decide) (he : starEach (e :: es) X.env = (false, eval e X.env) :: starEach es X.env := by rfl) (hp : (backTo pos (starEach es X.env)).any (·.1) = false := by rfl) :
    PE X (.Call (.Name x p) (e :: es) [] pos) (tCall sp dvs E t) := ⟨fun pins s σ H Q I h => by
  refine wpAny_Call_Name_kw (ld_glob I gl hm (PySem.W.callWith_K (h₀ := X.base) I.ok.mod.kin kp (thn (ha.run pos pins s σ H _ I h) ?_) he hp) db)
  rintro us s1 ⟨vs, H1, I1, r, q⟩
  exact ⟨I1.kIn, runG F rm ga bi dv ex I1 r q⟩⟩
theorem gcall0 (F : FnG X.prog X.w X.K X.mg X.base CX k f fd ps sp) (rm : Room k X.A) (ga : GA X.A) (gl : Gl X x) (hm : X.mg x = some (.ref f)) (kp : PySem.W.keepIn X.K (.ref f) = true) (bi : Binds X.K fd ps ds) (dv : Vals dvs ds) (ex : Passes CX X E)
    (db : (x == ("__debug__" : Str)) = false := by decide) : PE X (.Call (.Name x p) [] [] pos) (tCall sp dvs E tNil) :=
  ⟨fun pins s σ H Q I h => wpAny_Call_Name_kw (ld_glob I gl hm (PySem.W.callWith_K0 I.kIn kp (runG (us := []) F rm ga bi dv ex I .nil h)) db)⟩
theorem gmeth {pl : Sem Bool} (ho : PE X o ta) (c : Cls X.K C) (hm : Meth X.K C m f) (F : FnG X.prog X.w X.K X.mg X.base CX k f fd ps sp) (rm : Room k X.A) (ga : GA X.A) (bi : Binds X.K fd ps ds) (dv : Vals dvs ds) (ex : Passes CX X E) (ha : PA X (e :: es) t)
    (st : starEach (e :: es) X.env = (false, eval e X.env) :: starEach es X.env := by rfl) (hp : (backTo pos (starEach es X.env)).any (·.1) = false := by rfl)
    (ht : eval (.Call (.Attribute o m apos) (e :: es) [] pos) X.env = (do
      let ov ← eval o X.env
      standAt apos.atName
      let (g, one) ← holding [ov] (getMethod ov m pl)
      callWith pos g one (backTo pos (starEach (e :: es) X.env)) (backToKw pos (keywordEach [] X.env))) := by rfl) :
    PE X (.Call (.Attribute o m apos) (e :: es) [] pos) (tMeth C m sp dvs E ta t) := ⟨fun pins s σ H Q I h => by
  refine PySem.W.methodCall_KW (pl := pl) (thn (ho.run pins s σ H _ I h) ?_) ht
  rintro u s1 ⟨y, H1, I1, ry, a, dx, fs, ey, ea, l, q⟩
  subst ey
  have eu : u = Value.ref a := ry
  subst eu
  refine getmeth_ok I1 ea c hm l (PySem.W.callWith_K (first := [.ref a]) (h₀ := X.base) I.ok.mod.kin hm.kp (thn (ha.run pos pins s1 σ H1 _ I1 q) ?_) st hp)
  rintro us s2 ⟨vs, H2, I2, r, q2⟩
  exact ⟨I2.kIn, runG (us := .ref a :: us) (vs := .ref a :: vs) F rm ga bi dv ex I2 (.cons rfl r) q2⟩⟩
theorem gmeth0 {pl : Sem Bool} (ho : PE X o ta) (c : Cls X.K C) (hm : Meth X.K C m f) (F : FnG X.prog X.w X.K X.mg X.base CX k f fd ps sp) (rm : Room k X.A) (ga : GA X.A) (bi : Binds X.K fd ps ds) (dv : Vals dvs ds) (ex : Passes CX X E)
    (ht : eval (.Call (.Attribute o m apos) [] [] pos) X.env = (do
      let ov ← eval o X.env
      standAt apos.atName
      let (g, one) ← holding [ov] (getMethod ov m pl)
      callWith pos g one (backTo pos (starEach [] X.env)) (backToKw pos (keywordEach [] X.env))) := by rfl) :
    PE X (.Call (.Attribute o m apos) [] [] pos) (tMeth C m sp dvs E ta tNil) := ⟨fun pins s σ H Q I h => by
  refine PySem.W.methodCall_KW (pl := pl) (thn (ho.run pins s σ H _ I h) ?_) ht
  rintro u s1 ⟨y, H1, I1, ry, a, dx, fs, ey, ea, l, q⟩
  subst ey
  have eu : u = Value.ref a := ry
  subst eu
  exact getmeth_ok I1 ea c hm l (PySem.W.callWith_K0 (first := [.ref a]) I1.kIn hm.kp (runG (us := [.ref a]) (vs := [.ref a]) F rm ga bi dv ex I1 (.cons rfl .nil) q))⟩
theorem runMk {pins : List (Addr × Obj)} {σ : L2.St} {H : Hp} {s : Shared} {Q : VK} {us : List Value} {vs : List V} (M : Mk X.K C f) (F : FnG X.prog X.w X.K X.mg X.base CX k f fd ps sp) (rm : Room (k + 1) X.A) (ga : GA X.A) (bi : Binds X.K fd ps ds) (dv : Vals dvs ds)
    (ex : Passes CX X E) (I : Inv X pins σ H s) (rv : Vals vs us)
    (hs : ∀ y dy, H y = none → H dy = none → dy ≠ y → sp (.ref y :: (vs ++ dvs)) (upd (upd H dy (.own y)) y (.ins C dy [])) (fun v H2 => v = .non ∧ Q (.ref y) H2) E) :
    wpAny (model X.prog X.w) X.A (call (.ref C) us) (EP X pins σ Q) X.xe s := by
  have q0 := hs (s.heap.objs.size + 1) s.heap.objs.size (I.hok.fresh (Nat.le_succ _)) (I.hok.fresh (Nat.le_refl _)) (Nat.ne_of_lt (Nat.lt_succ_self _))
  have J := Inv.made (C := C) I
  have rr : Vals (V.ref (s.heap.objs.size + 1) :: (vs ++ dvs)) (Value.ref (s.heap.objs.size + 1) :: (us ++ ds)) := .cons rfl (rv.append dv)
  have el : (Value.ref (s.heap.objs.size + 1) :: us ++ ds).length = ps.length := rr.length.symm.trans (F.len _ _ _ _ q0)
  have go := F.run _ X.stack _ _ ⟨Value.ref (s.heap.objs.size + 1) :: us, []⟩ (Value.ref (s.heap.objs.size + 1) :: (us ++ ds)) _ _ E (rm.make C us []) (ga.make C us []) (J.env0.make C us []) (bi _ (Value.ref (s.heap.objs.size + 1) :: us) J.kIn el) rr q0
  refine wpAny_call (make_map (f := f) I.kIn M.makes M.init (beq_iff_eq.mp M.fn) (codeAny_mono go ?_))
  intro r s' z
  rcases r with y | fl
  · exact ex pins σ _ _ y s' J z
  · cases fl with
    | ret u =>
      obtain ⟨v, H', I3, ru, ev, q3⟩ := J.after z
      subst ev
      exact ⟨ru, V.ref (s.heap.objs.size + 1), H', I3, rfl, q3⟩
    | next => exact z.elim
    | brk => exact z.elim
    | cont => exact z.elim
theorem gmake (M : Mk X.K C f) (F : FnG X.prog X.w X.K X.mg X.base CX k f fd ps sp) (rm : Room (k + 1) X.A) (ga : GA X.A) (gl : Gl X x) (hm : X.mg x = some (.ref C)) (bi : Binds X.K fd ps ds) (dv : Vals dvs ds) (ex : Passes CX X E) (ha : PA X (e :: es) t)
    (db : (x == ("__debug__" : Str)) = false := by decide) (he : starEach (e :: es) X.env = (false, eval e X.env) :: starEach es X.env := by rfl) (hp : (backTo pos (starEach es X.env)).any (·.1) = false := by rfl) :
    PE X (.Call (.Name x p) (e :: es) [] pos) (tMake C sp dvs E t) := ⟨fun pins s σ H Q I h => by
  refine wpAny_Call_Name_kw (ld_glob I gl hm (PySem.W.callWith_K (h₀ := X.base) I.ok.mod.kin M.kp (thn (ha.run pos pins s σ H _ I h) ?_) he hp) db)
  rintro us s1 ⟨vs, H1, I1, r, q⟩
  exact ⟨I1.kIn, runMk M F rm ga bi dv ex I1 r q⟩⟩
theorem gmake0 (M : Mk X.K C f) (F : FnG X.prog X.w X.K X.mg X.base CX k f fd ps sp) (rm : Room (k + 1) X.A) (ga : GA X.A) (gl : Gl X x) (hm : X.mg x = some (.ref C)) (bi : Binds X.K fd ps ds) (dv : Vals dvs ds) (ex : Passes CX X E)
    (db : (x == ("__debug__" : Str)) = false := by decide) : PE X (.Call (.Name x p) [] [] pos) (tMake C sp dvs E tNil) :=
  ⟨fun pins s σ H Q I h => wpAny_Call_Name_kw (ld_glob I gl hm (PySem.W.callWith_K0 I.kIn M.kp (runMk (us := []) M F rm ga bi dv ex I .nil h)) db)⟩
end
/-- a def by its body -/
theorem fnG_of {CX : CXT} {P : Program} {w : World} {K : PySem.W.Frag} {mg : Str → Option Value} {base : Heap} {k : Nat} {f : Addr} {nm qual : Str} {pr : Arguments} {body : List Stmt} {sc : Scope} {dV kV doc pm cdv ct oc : Value} {an od : Option Addr}
    {osl : Array (Option Value)} {N ps : List Str} {sp : Sp} (lk : K.lookup f = some ⟨oc, od, .func (PySem.W.fnOf nm qual pr body sc dV kV doc pm an cdv ct), osl⟩) (hcd : PySem.W.codeIn K cdv qual = true) (S : FnScope N ps sc) (hl : ∀ vs H Q E, sp vs H Q E → vs.length = ps.length)
    (hb : ∀ (A : Around) (out : List Env) (s : Shared) (H : Hp) (vs : List V) (Q : VK) (E : XK), Room k (A.deeper (envOfC qual sc s.heap.objs.size f cdv)) → GA A → sp vs H Q E →
      ∃ t, PSs (cxOf CX P w K mg base N qual sc f cdv A out s H E) body t ∧ t { nx := fun _ H' => Q .non H', rt := Q } (start N vs) H) :
    FnG P w K mg base CX (k + 1) f (PySem.W.fnOf nm qual pr body sc dV kV doc pm an cdv ct) ps sp := by
  refine ⟨hl, ?_⟩
  intro A out s H ar us vs Q E rm ga e0 bi rv hs
  have ll := hl _ _ _ _ hs
  have old : ∀ b ob, base.get? b = some ob → s.heap.get? b = some ob := fun b ob z => (e0.bs b ob z).1
  have KX : K.In s.heap := e0.mod.kin.keeps old
  have nl : s.heap.NoLimit := e0.mod.nolimit.keeps old
  refine codeAny_call_function rm.depth (KX _ _ lk) rfl S.co S.gen rfl (PySem.W.codeRec_of KX hcd) (bi _ _ _ _ (wpAny_newFunctionEnv_cells S.kind ?_ ?_))
  · rintro ⟨n, v⟩ hy
    exact (S.par n (List.of_mem_zip hy).1).imp id fun q => ⟨q, PySem.W.cellsFrom_some _ _ _ (.inl q)⟩
  · intro env he s1 y
    subst he
    refine ⟨nl.keeps y.toInCall.keep, codeAny_func ?_⟩
    obtain ⟨t, h1, h2⟩ := hb A out s H vs Q E (rm.deeper _) ga hs
    have I : Inv (cxOf CX P w K mg base N qual sc f cdv A out s H E) [] (start N vs) H s1 := inv_start S rm.hd e0 ll rv y
    refine wpAny_mono (h1.run [] s1 (start N vs) H _ I h2) (fun fl s' z => ?_) fun _ _ z => z
    cases fl with
    | ret u =>
      obtain ⟨v, σ', H', J, ru, q⟩ := z
      exact ⟨v, H', J.os, J.bare, J.base, J.hok, ru, q⟩
    | next =>
      obtain ⟨σ', H', J, q⟩ := z
      exact ⟨.non, H', J.os, J.bare, J.base, J.hok, rfl, q⟩
    | brk => obtain ⟨_, _, _, q⟩ := z; exact q.elim
    | cont => obtain ⟨_, _, _, q⟩ := z; exact q.elim
/-- the head -/
theorem lawG {P : Program} {w : World} {K : PySem.W.Frag} {mg mb : Str → Option Value} {CX : CXT} {k : Nat} {fa a : Addr} {fd : FuncData} {x : Str} {sp : Sp} {s₁ : Shared} {vs : List Value} {ns : List Int} (KX : K.In s₁.heap) (hns : s₁.heap.Ns mainGlobals mg)
    (hb : s₁.heap.Ns builtinsNs mb) (hbb : ∀ x : Str, x ≠ "__name__" → mb x = bootBuiltins x) (hlim : s₁.heap.NoLimit) (hg : s₁.gens = #[]) (ha : s₁.heap.get? a = some { cls := .type "list", data := .seq vs.toArray }) (hi : IntsAre vs ns)
    (hl : ns.length ≤ sizeLine) (hr : Room k callerA) (F : ∀ base : Heap, K.In base → base.Ns mainGlobals mg → FnG P w K mg base CX k fa fd [x] sp) (hbi : ∀ (s : Shared) (u : Value), BindsTo s fd ⟨[u], []⟩ [(x, u)])
    (hsp : ∀ H : Hp, SqL K H a (ns.map V.int) → sp [.ref a] H (fun v _ => v = .bl true) fun _ _ _ => False) (hCX : ∀ H e s', CX [] H s₁ (fun _ _ _ => False) e s' → False) :
    codeAny (model P w) callerA (.call (.ref fa) ⟨[.ref a], []⟩) (fun r s' => r = .ok (.ret (.bool true)) ∧ OldK s₁.heap s'.heap ∧ s'.os = s₁.os ∧ AllBare s'.gens) s₁ := by
  have rv := vals_ints hi
  have lv := hi.length
  have core : ∀ H : Hp, Only H → SqL K H a (ns.map V.int) → HOk P w H s₁.heap → (∀ b, H b ≠ none → b = a) → (H a ≠ none → K.lookup a = none) →
      codeAny (model P w) callerA (.call (.ref fa) ⟨[.ref a], []⟩) (fun r s' => r = .ok (.ret (.bool true)) ∧ OldK s₁.heap s'.heap ∧ s'.os = s₁.os ∧ AllBare s'.gens) s₁ := by
    intro H hO hS hok hA hK
    have there : ∀ b u, H b = some u → b = a := fun b u z => hA b (by rw [z]; simp)
    have free : ∀ b, b ≠ a → H b = none := fun b z => by
      cases q : H b with
      | none => rfl
      | some u => exact absurd (there b u q) z
    have dict_ne : ∀ {b : Addr} {ob : Obj} {es : Array DictEntry} {ep : Nat}, s₁.heap.get? b = some ob → ob.data = .dict es ep → H b = none := fun {b ob es ep} z d => free b fun q => by
      subst q
      rw [ha] at z; cases z
      exact nomatch (show Data.seq vs.toArray _ = Data.dict es ep from d)
    have nsK : ∀ {b : Addr} {m : Str → Option Value}, s₁.heap.Ns b m → (hidT s₁.heap H).Ns b m := fun {b m} ⟨ob, es, ep, z, d, r⟩ => ⟨ob, es, ep, hidT_get z (dict_ne z d), d, r⟩
    have KB : K.In (hidT s₁.heap H) := fun b ob z => hidT_get (KX b ob z) (by
      cases q : H b with
      | none => rfl
      | some u =>
        have z2 := there b u q
        subst z2
        rw [hK (by rw [q]; simp)] at z; cases z)
    obtain ⟨mc, l1, l2⟩ := hlim
    have hM : Mod K mg (hidT s₁.heap H) := ⟨KB, nsK hns, ⟨mb, nsK hb, hbb⟩, mc, nsK l1, l2⟩
    have e0 : Env0 P w K mg (hidT s₁.heap H) callerA [] s₁ H := ⟨rfl, hM, fun _ _ z => of_hidT z, Nat.le_of_eq (hidT_size _ _), trivial, fun b z => absurd (show b ∈ ([] : List Addr) from z) (by simp), hok, .of_eq hg⟩
    have go := (F _ KB (nsK hns)).run callerA [] s₁ H ⟨[.ref a], []⟩ [.ref a] [.ref a] _ _ hr rfl e0 (hbi s₁ (.ref a)) (.cons rfl .nil) (hsp H hS)
    refine codeAny_mono go ?_
    intro r s' z
    rcases r with y | fl
    · exact (hCX H y s' z).elim
    · cases fl with
      | next => exact z.elim
      | brk => exact z.elim
      | cont => exact z.elim
      | ret u =>
        obtain ⟨v, H', os, bare, un, hok', r', q⟩ := z
        have q' : v = .bl true := q
        subst q'
        have eu : u = Value.bool true := r'
        subst eu
        refine ⟨rfl, OldK.of_keep (fun b ob z => ?_), os, bare⟩
        cases q : H b with
        | none => exact un.keep b ob z q (fun n => absurd (show b ∈ ([] : List Addr) from n) (by simp)) (by simp)
        | some u =>
          rcases hO b with n | ⟨ob2, xs, n⟩
          · rw [q] at n; cases n
          · obtain ⟨m1, _⟩ := hok b _ n
            obtain ⟨m2, _⟩ := hok' b _ (un.frzs b ob2 _ n)
            rw [z] at m1; cases m1
            exact m2
  cases hk : K.lookup a with
  | some ob =>
    have z := KX a ob hk
    rw [ha] at z
    cases z
    refine core (fun _ => none) (fun _ => .inl rfl) (.inr ⟨_, vs.toArray, _, hk, rfl, rfl, rfl, by rw [List.size_toArray, lv]; exact hl, by simpa using rv⟩) (fun b u n => nomatch (show (none : Option HO) = some u from n)) (fun b n => absurd rfl n) (fun n => absurd rfl n)
  | none =>
    let Hs : Hp := fun b => if b = a then some (.frz { cls := .type "list", data := .seq vs.toArray } (.lst (ns.map V.int))) else none
    have at_a : Hs a = some (.frz { cls := .type "list", data := .seq vs.toArray } (.lst (ns.map V.int))) := if_pos rfl
    have off : ∀ b, b ≠ a → Hs b = none := fun b n => if_neg n
    refine core Hs (fun b => ?_) (.inl (.inr ⟨_, at_a⟩)) (fun b u n => ?_) (fun b n => ?_) fun _ => hk
    · by_cases q : b = a
      · subst q; exact .inr ⟨_, _, at_a⟩
      · exact .inl (off b q)
    · by_cases q : b = a
      · subst q
        rw [at_a] at n
        cases n
        exact ⟨ha, by rw [List.length_map]; exact hl, vs, _, rv, ha⟩
      · rw [off b q] at n; cases n
    · by_cases q : b = a
      · exact q
      · exact absurd (off b q) n
end DL

namespace DL
open PySem L2

/-! ### defs -/
def vD : V → D
  | .non => .non
  | .bl b => .bl b
  | .int i => .int i
  | .str x => .str x
  | v => .raw v
theorem rep_vD (K : KP) (H : Hp) (M : List Addr) (v : V) : Rep K H M v (vD v) := by
  cases v with
  | non => exact .non
  | bl b => exact .bl b
  | int i => exact .int i
  | str x => exact .str x
  | byt b => exact .raw _
  | flt b => exact .raw _
  | ref a => exact .raw _
  | ty n => exact .raw _
theorem rep_vDs (K : KP) (H : Hp) (M : List Addr) : ∀ vs : List V, RepL K H M vs (vs.map vD)
  | [] => .nil
  | v :: vs => .cons (rep_vD K H M v) (rep_vDs K H M vs)
/-- a def's promise: called on data it does as the primitive says -/
def spD (K : PySem.W.Frag) (n : Nat) (g : Pr) : Sp := fun vs H Q E => vs.length = n ∧ rP K E g vs H Q
theorem passD {X : Cx} {E : XK} : Passes CX0 X E := fun _ _ _ _ _ _ _ h => h.elim
/-- a def of the text: its promise, and how it is called -/
structure DFn (P : Program) (w : World) (K : PySem.W.Frag) (mg : Str → Option Value) (base : Heap) (CX : CXT) (k : Nat) (x : Str) (n : Nat) (g : Pr) (dvs : List V) : Prop where
  ex : ∃ (f : Addr) (fd : FuncData) (ps : List Str) (ds : List Value), FnG P w K mg base CX k f fd ps (spD K n g) ∧ mg x = some (.ref f) ∧ PySem.W.keepIn K (.ref f) = true ∧ Binds K fd ps ds ∧ Vals dvs ds
/-- a def at an address -/
structure DAt (P : Program) (w : World) (K : PySem.W.Frag) (mg : Str → Option Value) (base : Heap) (CX : CXT) (k : Nat) (f : Addr) (n : Nat) (g : Pr) : Prop where
  ex : ∃ (fd : FuncData) (ps : List Str), FnG P w K mg base CX k f fd ps (spD K n g) ∧ PySem.W.keepIn K (.ref f) = true ∧ Binds K fd ps []
structure DMk (P : Program) (w : World) (K : PySem.W.Frag) (mg : Str → Option Value) (base : Heap) (CX : CXT) (k : Nat) (x : Str) (C : Addr) (n : Nat) (g : Pr) (dvs : List V) : Prop where
  ex : ∃ (f : Addr) (fd : FuncData) (ps : List Str) (ds : List Value), Mk K C f ∧ FnG P w K mg base CX k f fd ps (spD K n g) ∧ mg x = some (.ref C) ∧ Binds K fd ps ds ∧ Vals dvs ds
structure DMt (P : Program) (w : World) (K : PySem.W.Frag) (mg : Str → Option Value) (base : Heap) (CX : CXT) (k : Nat) (C : Addr) (m : Str) (n : Nat) (g : Pr) (dvs : List V) : Prop where
  ex : ∃ (f : Addr) (fd : FuncData) (ps : List Str) (ds : List Value), Cls K C ∧ Meth K C m f ∧ FnG P w K mg base CX k f fd ps (spD K n g) ∧ Binds K fd ps ds ∧ Vals dvs ds
def dCall (g : Pr) (dvs : List V) (fs : List DE) : DE := dP (fun ds τ => g (ds ++ dvs.map vD) τ) fs

section
variable {X : Cx} {E : XK} {CX : CXT} {k j n : Nat} {g : Pr} {dvs : List V} {x m : Str} {C : Addr} {e o : Expr} {es : List Expr} {fs : List DE} {fo : DE} {p pos apos : Pos}
theorem call_of {σ : St} {H : Hp} {Q : VK} (hn : fs.length + dvs.length = n) (h : tE X.K E (dCall g dvs fs) σ H Q) : tCall (spD X.K n g) dvs E (tA X.K E fs) σ H Q := by
  obtain ⟨P, M, δ, τ, nn, S, q⟩ := h
  refine ⟨P, M, δ, τ, nn, S, ?_⟩
  have q : Post ⟨X.K, P⟩ E H M ((dArgs fs δ τ).bind fun ds τ => g (ds ++ dvs.map vD) τ) _ := q
  refine q.bind.mono fun H1 M1 τ1 ds hds e1 S1 q1 vs rs => ⟨?_, P, M1, τ1, ds ++ dvs.map vD, S1, rs.append (rep_vDs _ _ _ dvs), q1⟩
  rw [List.length_append, rs.1, dArgs_len hds]; exact hn
theorem de_call (c : DFn X.prog X.w X.K X.mg X.base CX k x n g dvs) (hr : Room j X.A) (hk : k ≤ j) (ga : GA X.A) (hx : Passes CX X E) (ha : PA X (e :: es) (tA X.K E fs)) (hn : fs.length + dvs.length = n := by rfl) (hg : Gl X x := by rfl)
    (hdb : (x == ("__debug__" : Str)) = false := by decide) (he : starEach (e :: es) X.env = (false, eval e X.env) :: starEach es X.env := by rfl) (hpl : (backTo pos (starEach es X.env)).any (·.1) = false := by rfl) :
    PE X (.Call (.Name x p) (e :: es) [] pos) (tE X.K E (dCall g dvs fs)) := by
  obtain ⟨f, fd, ps, ds, F, hm, kp, b, d⟩ := c.ex
  exact (gcall F (hr.mono hk) ga hg hm kp b d hx ha hdb he hpl).imp fun _ _ _ h => call_of hn h
theorem de_call0 (c : DFn X.prog X.w X.K X.mg X.base CX k x n g dvs) (hr : Room j X.A) (hk : k ≤ j) (ga : GA X.A) (hx : Passes CX X E) (hn : dvs.length = n := by rfl) (hg : Gl X x := by rfl)
    (hdb : (x == ("__debug__" : Str)) = false := by decide) : PE X (.Call (.Name x p) [] [] pos) (tE X.K E (dCall g dvs [])) := by
  obtain ⟨f, fd, ps, ds, F, hm, kp, b, d⟩ := c.ex
  refine (gcall0 F (hr.mono hk) ga hg hm kp b d hx hdb).imp fun σ H Q h => ?_
  obtain ⟨P, M, δ, τ, nn, S, q⟩ := h
  have q : Post ⟨X.K, P⟩ E H M (g ([] ++ dvs.map vD) τ) _ := q
  exact ⟨by simpa using hn, P, M, τ, dvs.map vD, S, by simpa using rep_vDs _ _ _ dvs, by simpa using q⟩

/-! ### instances -/
def dMake (C : Addr) (g : Pr) (dvs : List V) (fs : List DE) : DE := fun δ τ => (dArgs fs δ τ).bind fun ds τ1 => (g (.cell τ1.length :: (ds ++ dvs.map vD)) (τ1 ++ [.obj C []])).bind fun r τ2 => match r with
  | .non => .ok (.cell τ1.length) τ2
  | _ => .bad
theorem make_of {σ : St} {H : Hp} {Q : VK} (hn : fs.length + dvs.length + 1 = n) (h : tE X.K E (dMake C g dvs fs) σ H Q) : tMake C (spD X.K n g) dvs E (tA X.K E fs) σ H Q := by
  obtain ⟨P, M, δ, τ, nn, S, q⟩ := h
  refine ⟨P, M, δ, τ, nn, S, ?_⟩
  refine (Post.bind q).mono fun H1 M1 τ1 ds hds e1 S1 q1 vs rs a dx ha hdx hne => ?_
  have e2 : Ext H1 M1 (upd H1 dx (.own a)) M1 := Ext.new hdx
  have S2 : Sto ⟨X.K, P⟩ (upd H1 dx (.own a)) M1 τ1 := S1.same (Same.new hdx)
  have ha2 : upd H1 dx (.own a) a = none := by rw [upd_ne (Ne.symm hne)]; exact ha
  have e3 : Ext (upd H1 dx (.own a)) M1 (upd (upd H1 dx (.own a)) a (.ins C dx [])) (M1 ++ [a]) := Ext.newC ha2
  have S3 : Sto ⟨X.K, P⟩ (upd (upd H1 dx (.own a)) a (.ins C dx [])) (M1 ++ [a]) (τ1 ++ [.obj C []]) := S2.newC ha2 ⟨dx, [], upd_same, rfl, fun i v d h => by simp at h⟩
  refine ⟨?_, P, M1 ++ [a], τ1 ++ [.obj C []], .cell τ1.length :: (ds ++ dvs.map vD), S3, .cons (rep_last S1) ((rs.ext (e2.trans e3)).append (rep_vDs _ _ _ dvs)), ?_⟩
  · rw [List.length_cons, List.length_append, rs.1, dArgs_len hds]; exact hn
  · refine (Post.bind (Post.ext q1 (e2.trans e3))).mono fun H4 M4 τ4 r _ e4 S4 q4 v rv => ?_
    split at q4
    · cases rv
      exact ⟨rfl, Post.here q4 S4 _ (.cell (e4.cells (by rw [← S1.len, List.getElem?_append_right (Nat.le_refl _), Nat.sub_self]; rfl)))⟩
    · exact q4.elim
theorem de_make (c : DMk X.prog X.w X.K X.mg X.base CX k x C n g dvs) (hr : Room j X.A) (hk : k + 1 ≤ j) (ga : GA X.A) (hx : Passes CX X E) (ha : PA X (e :: es) (tA X.K E fs)) (hn : fs.length + dvs.length + 1 = n := by rfl) (hg : Gl X x := by rfl)
    (hdb : (x == ("__debug__" : Str)) = false := by decide) (he : starEach (e :: es) X.env = (false, eval e X.env) :: starEach es X.env := by rfl) (hpl : (backTo pos (starEach es X.env)).any (·.1) = false := by rfl) :
    PE X (.Call (.Name x p) (e :: es) [] pos) (tE X.K E (dMake C g dvs fs)) := by
  obtain ⟨f, fd, ps, ds, M, F, hm, b, d⟩ := c.ex
  exact (gmake M F (hr.mono hk) ga hg hm b d hx ha hdb he hpl).imp fun _ _ _ h => make_of hn h
theorem de_make0 (c : DMk X.prog X.w X.K X.mg X.base CX k x C n g dvs) (hr : Room j X.A) (hk : k + 1 ≤ j) (ga : GA X.A) (hx : Passes CX X E) (hn : dvs.length + 1 = n := by rfl) (hg : Gl X x := by rfl)
    (hdb : (x == ("__debug__" : Str)) = false := by decide) : PE X (.Call (.Name x p) [] [] pos) (tE X.K E (dMake C g dvs [])) := by
  obtain ⟨f, fd, ps, ds, M, F, hm, b, d⟩ := c.ex
  refine (gmake0 M F (hr.mono hk) ga hg hm b d hx hdb).imp fun σ H Q h => ?_
  have h := make_of (fs := []) (by simpa using hn) h
  obtain ⟨P, M', δ, τ, nn, S, q⟩ := h
  exact Post.here q S [] .nil
/-- attributes -/
def lookF (f : Str) (fs : List (Str × D)) : Option D := fs.lookup f
theorem RepF.look {K : KP} {H : Hp} {M : List Addr} {f : Str} : ∀ {fvs : List (Str × V)} {fds : List (Str × D)}, RepF K H M fvs fds → (∀ d, lookF f fds = some d → ∃ v, fvs.lookup f = some v ∧ Rep K H M v d) ∧ (lookF f fds = none → fvs.lookup f = none)
  | [], [], _ => ⟨fun d h => by simp [lookF] at h, fun _ => rfl⟩
  | [], _ :: _, r => by have := r.1; simp at this
  | _ :: _, [], r => by have := r.1; simp at this
  | (a, v) :: fvs, (b, d) :: fds, r => by
    obtain ⟨h1, h2⟩ := r
    simp only [List.map_cons, List.cons.injEq] at h1
    obtain ⟨rfl, h1⟩ := h1
    have ih := RepF.look (f := f) (K := K) (H := H) (M := M) (fvs := fvs) (fds := fds) ⟨h1, fun i v d e1 e2 => h2 (i + 1) v d (by simpa using e1) (by simpa using e2)⟩
    have h0 := h2 0 v d rfl rfl
    unfold lookF at ih ⊢
    rw [List.lookup_cons, List.lookup_cons]
    cases q : f == a with
    | true => exact ⟨fun e he => by cases he; exact ⟨v, rfl, h0⟩, fun z => nomatch z⟩
    | false => exact ih
def dFld (C : Addr) (f : Str) (fo : DE) : DE := fun δ τ => (fo δ τ).bind fun d τ' => match der τ' d with
  | .obj C' fs => if C' = C then (match lookF f fs with
    | some r => .ok r τ'
    | none => .bad) else .bad
  | _ => .bad
/-- what a class must have for an attribute to be read and stored -/
structure DFl (K : PySem.W.Frag) (C : Addr) (f : Str) : Prop where
  cl : Cls K C
  no : NoAttr K C f
theorem de_fld {f : Str} (c : DFl X.K C f) (he : PE X o (tE X.K E fo)) (hb : attributeBase o f X.env (eval o X.env) = eval o X.env := by rfl) : PE X (.Attribute o f pos) (tE X.K E (dFld C f fo)) := by
  refine (pe_fld he hb).imp fun σ H Q ⟨P, M, δ, τ, n, S, p⟩ => ⟨P, M, δ, τ, n, S, ?_⟩
  refine (Post.bind p).mono fun H1 M1 τ1 d _ e1 S1 p1 v rv => ?_
  split at p1
  · rename_i C' fds hd
    split at p1
    · rename_i hC
      subst hC
      split at p1
      · rename_i r hr
        obtain ⟨a, dx, fvs, rfl, ha, rf⟩ := rep_obj rv S1 hd
        obtain ⟨u, hu, ru⟩ := rf.look.1 r hr
        exact ⟨a, C', dx, fvs, u, rfl, ha, c.cl, c.no, hu, Post.here p1 S1 u ru⟩
      · exact p1.elim
    · exact p1.elim
  · exact p1.elim
def putD (f : Str) (v : D) : List (Str × D) → List (Str × D)
  | [] => [(f, v)]
  | (g, x) :: r => if g = f then (g, v) :: r else (g, x) :: putD f v r
theorem RepF.put {K : KP} {H : Hp} {M : List Addr} {f : Str} {v : V} {d : D} (rv : Rep K H M v d) : ∀ {fvs : List (Str × V)} {fds : List (Str × D)}, RepF K H M fvs fds → RepF K H M (putF f v fvs) (putD f d fds)
  | [], [], _ => ⟨rfl, fun i v' d' h1 h2 => by
    cases i with
    | zero => simp [putF, putD] at h1 h2; subst h1 h2; exact rv
    | succ i => simp [putF, putD] at h1⟩
  | [], _ :: _, r => by have := r.1; simp at this
  | _ :: _, [], r => by have := r.1; simp at this
  | (a, w) :: fvs, (b, e) :: fds, r => by
    obtain ⟨h1, h2⟩ := r
    simp only [List.map_cons, List.cons.injEq] at h1
    obtain ⟨rfl, h1⟩ := h1
    have r' : RepF K H M fvs fds := ⟨h1, fun i v d e1 e2 => h2 (i + 1) v d (by simpa using e1) (by simpa using e2)⟩
    have ih := RepF.put (f := f) rv r'
    have h0 := h2 0 w e rfl rfl
    unfold putF putD
    by_cases q : a = f
    · rw [if_pos q, if_pos q]
      refine ⟨by simp [h1], fun i v' d' e1 e2 => ?_⟩
      cases i with
      | zero => simp at e1 e2; subst e1 e2; exact rv
      | succ i => exact r'.2 i v' d' (by simpa using e1) (by simpa using e2)
    · rw [if_neg q, if_neg q]
      refine ⟨by simp [ih.1], fun i v' d' e1 e2 => ?_⟩
      cases i with
      | zero => simp at e1 e2; subst e1 e2; exact h0
      | succ i => exact ih.2 i v' d' (by simpa using e1) (by simpa using e2)
theorem length_F {K : KP} {H : Hp} {M : List Addr} {fvs : List (Str × V)} {fds : List (Str × D)} (r : RepF K H M fvs fds) : fvs.length = fds.length := by
  have := congrArg List.length r.1
  simpa using this
/-- o.f = e: o a cell -/
def dSetFld (C : Addr) (f : Str) (fo fv : DE) : DS := fun δ τ => (fv δ τ).toS fun v τ1 => (fo δ τ1).toS fun d τ2 => match d with
  | .cell k => (match τ2[k]? with
    | some (.obj C' fs) => if C' = C ∧ fs.length < 1000 then .nx δ (τ2.set k (.obj C (putD f v fs))) else .bad
    | _ => .bad)
  | _ => .bad
theorem ds_fld {f : Str} {value : Expr} {fv : DE} {pos' : Pos} (c : DFl X.K C f) (ha : PE X o (tE X.K E fo)) (hv : PE X value (tE X.K E fv)) (hs : swapsWith value (some (.Attribute o f pos')) pos.line X.env = pure false := by rfl) :
    PS X (.Assign [.Attribute o f pos'] value pos) (tS X.K E (dSetFld C f fo fv)) := by
  refine (ps_fld ha hv hs).imp fun Z σ H ⟨P, M, δ, τ, n, S, p⟩ => ⟨P, M, δ, τ, n, S, ?_⟩
  refine (PostS.toS p).mono fun H1 M1 τ1 v _ e1 S1 p1 vv rv => ⟨P, M1, δ, τ1, n.ext e1, S1, ?_⟩
  refine (PostS.toS p1).mono fun H2 M2 τ2 d _ e2 S2 p2 u ru => ?_
  split at p2
  · rename_i k _
    split at p2
    · rename_i C' fs hk
      split at p2
      · rename_i hC
        obtain ⟨rfl, hl⟩ := hC
        cases ru with
        | @cell k a h =>
          obtain ⟨dx, fvs, h3, h4⟩ := S2.at_ k a _ h hk
          have wr : Ext H2 M2 (upd H2 a (.ins C' dx (putF f vv fvs))) M2 := Ext.wr (List.mem_of_getElem? h)
          refine ⟨a, C', dx, fvs, rfl, h3, c.cl, c.no, by rw [length_F h4]; exact hl, p2 _ M2 σ wr (((n.ext e1).ext e2).ext wr) (S2.wr h ⟨dx, putF f vv fvs, upd_same, ?_⟩)⟩
          exact (RepF.put (rv.ext e2) h4).ext wr
      · exact p2.elim
    · exact p2.elim
  · exact p2.elim
/-- o.m(..) -/
def dMeth (C : Addr) (m : Str) (g : Pr) (dvs : List V) (fo : DE) (fs : List DE) : DE := fun δ τ => (fo δ τ).bind fun d τ1 => match der τ1 d with
  | .obj C' fds => if C' = C ∧ lookF m fds = none then (dArgs fs δ τ1).bind fun ds τ2 => g (d :: (ds ++ dvs.map vD)) τ2 else .bad
  | _ => .bad
theorem meth_of {σ : St} {H : Hp} {Q : VK} (hn : fs.length + dvs.length + 1 = n) (h : tE X.K E (dMeth C m g dvs fo fs) σ H Q) : tMeth C m (spD X.K n g) dvs E (tE X.K E fo) (tA X.K E fs) σ H Q := by
  obtain ⟨P, M, δ, τ, nn, S, q⟩ := h
  refine ⟨P, M, δ, τ, nn, S, ?_⟩
  refine (Post.bind q).mono fun H1 M1 τ1 d _ e1 S1 q1 v rv => ?_
  split at q1
  · rename_i C' fds hd
    split at q1
    · rename_i hC
      obtain ⟨rfl, hm⟩ := hC
      obtain ⟨a, dx, fvs, rfl, ha, rf⟩ := rep_obj rv S1 hd
      refine ⟨a, dx, fvs, rfl, ha, rf.look.2 hm, P, M1, δ, τ1, nn.ext e1, S1, ?_⟩
      refine (Post.bind q1).mono fun H2 M2 τ2 ds hds e2 S2 q2 vs rs => ⟨?_, P, M2, τ2, d :: (ds ++ dvs.map vD), S2, .cons (rv.ext e2) (rs.append (rep_vDs _ _ _ dvs)), q2⟩
      rw [List.length_cons, List.length_append, rs.1, dArgs_len hds]; exact hn
    · exact q1.elim
  · exact q1.elim
theorem de_meth {pl : Sem Bool} (c : DMt X.prog X.w X.K X.mg X.base CX k C m n g dvs) (hr : Room j X.A) (hk : k ≤ j) (ga : GA X.A) (hx : Passes CX X E) (he : PE X o (tE X.K E fo)) (ha : PA X (e :: es) (tA X.K E fs)) (hn : fs.length + dvs.length + 1 = n := by rfl)
    (hst : starEach (e :: es) X.env = (false, eval e X.env) :: starEach es X.env := by rfl) (hpl : (backTo pos (starEach es X.env)).any (·.1) = false := by rfl)
    (ht : eval (.Call (.Attribute o m apos) (e :: es) [] pos) X.env = (do
      let ov ← eval o X.env
      standAt apos.atName
      let (f, first) ← holding [ov] (getMethod ov m pl)
      callWith pos f first (backTo pos (starEach (e :: es) X.env)) (backToKw pos (keywordEach [] X.env))) := by rfl) :
    PE X (.Call (.Attribute o m apos) (e :: es) [] pos) (tE X.K E (dMeth C m g dvs fo fs)) := by
  obtain ⟨f, fd, ps, ds, hc, hm, F, b, d⟩ := c.ex
  exact (gmeth (pl := pl) he hc hm F (hr.mono hk) ga b d hx ha hst hpl ht).imp fun _ _ _ h => meth_of hn h
theorem de_meth0 {pl : Sem Bool} (c : DMt X.prog X.w X.K X.mg X.base CX k C m n g dvs) (hr : Room j X.A) (hk : k ≤ j) (ga : GA X.A) (hx : Passes CX X E) (he : PE X o (tE X.K E fo)) (hn : dvs.length + 1 = n := by rfl)
    (ht : eval (.Call (.Attribute o m apos) [] [] pos) X.env = (do
      let ov ← eval o X.env
      standAt apos.atName
      let (f, first) ← holding [ov] (getMethod ov m pl)
      callWith pos f first (backTo pos (starEach [] X.env)) (backToKw pos (keywordEach [] X.env))) := by rfl) :
    PE X (.Call (.Attribute o m apos) [] [] pos) (tE X.K E (dMeth C m g dvs fo [])) := by
  obtain ⟨f, fd, ps, ds, hc, hm, F, b, d⟩ := c.ex
  refine (gmeth0 (pl := pl) he hc hm F (hr.mono hk) ga b d hx ht).imp fun σ H Q h => ?_
  have h := meth_of (fs := []) (n := n) (by simpa using hn) h
  obtain ⟨P, M, δ, τ, nn, S, q⟩ := h
  refine ⟨P, M, δ, τ, nn, S, q.mono fun H1 M1 τ1 d _ e1 S1 q1 v rv => ?_⟩
  obtain ⟨a, dx, fvs, h1, h2, h3, P2, M2, δ2, τ2, n2, S2, q2⟩ := q1 v rv
  exact ⟨a, dx, fvs, h1, h2, h3, Post.here q2 S2 [] .nil⟩
end

/-! ### leaving a def: its own cells become frozen -/
mutual
def frzD (c : Nat → Option D) : D → Option D
  | .lst xs => (frzL c xs).map .lst
  | .frl xs => (frzL c xs).map .frl
  | .tup xs => (frzL c xs).map .tup
  | .frt xs => (frzL c xs).map .frt
  | .dic kvs => (frzK c kvs).map .dic
  | .dit kvs => (frzT c kvs).map .dit
  | .obj C fs => (frzF c fs).map (.obj C)
  | .cell k => c k
  | .non => some .non
  | .bl b => some (.bl b)
  | .int i => some (.int i)
  | .str x => some (.str x)
  | .raw v => some (.raw v)
def frzL (c : Nat → Option D) : List D → Option (List D)
  | [] => some []
  | d :: ds => (frzD c d).bind fun d' => (frzL c ds).map (d' :: ·)
def frzK (c : Nat → Option D) : List (Key × D) → Option (List (Key × D))
  | [] => some []
  | (k, d) :: r => (frzD c d).bind fun d' => (frzK c r).map ((k, d') :: ·)
def frzT (c : Nat → Option D) : List (List Key × D) → Option (List (List Key × D))
  | [] => some []
  | (k, d) :: r => (frzD c d).bind fun d' => (frzT c r).map ((k, d') :: ·)
def frzF (c : Nat → Option D) : List (Str × D) → Option (List (Str × D))
  | [] => some []
  | (k, d) :: r => (frzD c d).bind fun d' => (frzF c r).map ((k, d') :: ·)
end
/-- cells below n stay -/
def cel0 (n : Nat) (k : Nat) : Option D := if k < n then some (.cell k) else none
def celF (n : Nat) (τ : List D) : Nat → Nat → Option D
  | 0, k => cel0 n k
  | m + 1, k => if k < n then some (.cell k) else (τ[k]?).bind (frzD (celF n τ m))
theorem frzL_get {c : Nat → Option D} : ∀ {ds es : List D}, frzL c ds = some es → ds.length = es.length ∧ ∀ (i : Nat) (d e : D), ds[i]? = some d → es[i]? = some e → frzD c d = some e
  | [], es, h => by simp [frzL] at h; subst h; exact ⟨rfl, fun i d e h => by simp at h⟩
  | d :: ds, es, h => by
    unfold frzL at h
    cases q : frzD c d with
    | none => rw [q] at h; simp at h
    | some d' =>
      rw [q] at h
      cases q2 : frzL c ds with
      | none => rw [q2] at h; simp at h
      | some es' =>
        rw [q2] at h
        simp at h; subst h
        obtain ⟨h1, h2⟩ := frzL_get q2
        refine ⟨by simp [h1], fun i x y e1 e2 => ?_⟩
        cases i with
        | zero => simp at e1 e2; subst e1 e2; exact q
        | succ i => exact h2 i x y (by simpa using e1) (by simpa using e2)
theorem frzK_get {c : Nat → Option D} : ∀ {ds es : List (Key × D)}, frzK c ds = some es → ds.map (·.1) = es.map (·.1) ∧ frzL c (ds.map (·.2)) = some (es.map (·.2))
  | [], es, h => by simp [frzK] at h; subst h; exact ⟨rfl, rfl⟩
  | (k, d) :: ds, es, h => by
    unfold frzK at h
    cases q : frzD c d with
    | none => rw [q] at h; simp at h
    | some d' =>
      rw [q] at h
      cases q2 : frzK c ds with
      | none => rw [q2] at h; simp at h
      | some es' =>
        rw [q2] at h
        simp at h; subst h
        obtain ⟨h1, h2⟩ := frzK_get q2
        refine ⟨by simp [h1], ?_⟩
        simp [frzL, q, h2]
theorem frzT_get {c : Nat → Option D} : ∀ {ds es : List (List Key × D)}, frzT c ds = some es → ds.map (·.1) = es.map (·.1) ∧ frzL c (ds.map (·.2)) = some (es.map (·.2))
  | [], es, h => by simp [frzT] at h; subst h; exact ⟨rfl, rfl⟩
  | (k, d) :: ds, es, h => by
    unfold frzT at h
    cases q : frzD c d with
    | none => rw [q] at h; simp at h
    | some d' =>
      rw [q] at h
      cases q2 : frzT c ds with
      | none => rw [q2] at h; simp at h
      | some es' =>
        rw [q2] at h
        simp at h; subst h
        obtain ⟨h1, h2⟩ := frzT_get q2
        refine ⟨by simp [h1], ?_⟩
        simp [frzL, q, h2]
theorem frzF_get {c : Nat → Option D} : ∀ {ds es : List (Str × D)}, frzF c ds = some es → ds.map (·.1) = es.map (·.1) ∧ frzL c (ds.map (·.2)) = some (es.map (·.2))
  | [], es, h => by simp [frzF] at h; subst h; exact ⟨rfl, rfl⟩
  | (k, d) :: ds, es, h => by
    unfold frzF at h
    cases q : frzD c d with
    | none => rw [q] at h; simp at h
    | some d' =>
      rw [q] at h
      cases q2 : frzF c ds with
      | none => rw [q2] at h; simp at h
      | some es' =>
        rw [q2] at h
        simp at h; subst h
        obtain ⟨h1, h2⟩ := frzF_get q2
        refine ⟨by simp [h1], ?_⟩
        simp [frzL, q, h2]
section
variable {K : KP} {E : XK} {H : Hp} {M N : List Addr} {τ : List D} {v : V} {d e : D} {c : Nat → Option D}
theorem frz_map {vs : List V} {ds es : List D} (hl : vs.length = ds.length) (ih : ∀ (i : Nat) (v : V) (d : D), vs[i]? = some v → ds[i]? = some d → ∀ e, frzD c d = some e → Rep K H M v e) (h : frzL c ds = some es) : RepL K H M vs es := by
  obtain ⟨h1, h2⟩ := frzL_get h
  refine ⟨hl.trans h1, fun i v e e1 e2 => ?_⟩
  have hi : i < ds.length := by rw [h1]; exact (List.getElem?_eq_some_iff.mp e2).1
  exact ih i v ds[i] e1 (by simp [hi]) e (h2 i _ e (by simp [hi]) e2)
theorem Rep.frz (hc : ∀ k a e, (M ++ N)[k]? = some a → c k = some e → Rep K H M (.ref a) e) (r : Rep K H (M ++ N) v d) : ∀ e, frzD c d = some e → Rep K H M v e := by
  have no : ∀ a, a ∉ M ++ N → a ∉ M := fun a h z => h (List.mem_append_left _ z)
  induction r with
  | non => intro e h; simp [frzD] at h; subst h; exact .non
  | bl b => intro e h; simp [frzD] at h; subst h; exact .bl b
  | int i => intro e h; simp [frzD] at h; subst h; exact .int i
  | str x => intro e h; simp [frzD] at h; subst h; exact .str x
  | raw v => intro e h; simp [frzD] at h; subst h; exact .raw v
  | cell h => intro e he; simp [frzD] at he; exact hc _ _ _ h he
  | @lst a vs ds h hm hl hi ih =>
    intro e he
    simp [frzD] at he
    obtain ⟨es, h1, rfl⟩ := he
    have q := frz_map hl ih h1
    exact .lst h ⟨no _ hm.1, hm.2⟩ q.1 q.2
  | @frl a vs ds h hl hi ih =>
    intro e he
    simp [frzD] at he
    obtain ⟨es, h1, rfl⟩ := he
    have q := frz_map hl ih h1
    refine .frl ?_ q.1 q.2
    rcases h with ⟨h, hm⟩ | h
    · exact .inl ⟨h, no _ hm.1, hm.2⟩
    · exact .inr h
  | @tup a vs ds h hm hl hi ih =>
    intro e he
    simp [frzD] at he
    obtain ⟨es, h1, rfl⟩ := he
    have q := frz_map hl ih h1
    exact .tup h ⟨no _ hm.1, hm.2⟩ q.1 q.2
  | @frt a vs ds h hl hi ih =>
    intro e he
    simp [frzD] at he
    obtain ⟨es, h1, rfl⟩ := he
    have q := frz_map hl ih h1
    refine .frt ?_ q.1 q.2
    rcases h with ⟨h, hm⟩ | h
    · exact .inl ⟨h, no _ hm.1, hm.2⟩
    · exact .inr h
  | @dic a kvs kds h hm hk hi ih =>
    intro e he
    simp [frzD] at he
    obtain ⟨es, h1, rfl⟩ := he
    obtain ⟨h2, h3⟩ := frzK_get h1
    have hl : (kvs.map (·.2)).length = (kds.map (·.2)).length := by have := congrArg List.length hk; simpa using this
    have q := frz_map hl ih h3
    exact .dic h ⟨no _ hm.1, hm.2⟩ (hk.trans h2) q.2
  | @dicT a kvs kds h hm hk hi ih =>
    intro e he
    simp [frzD] at he
    obtain ⟨es, h1, rfl⟩ := he
    obtain ⟨h2, h3⟩ := frzT_get h1
    have hl : (kvs.map (·.2)).length = (kds.map (·.2)).length := by have := congrArg List.length hk; simpa using this
    have q := frz_map hl ih h3
    exact .dicT h ⟨no _ hm.1, hm.2⟩ (hk.trans h2) q.2
  | @obj a C dx fvs fds h hm hk hi ih =>
    intro e he
    simp [frzD] at he
    obtain ⟨es, h1, rfl⟩ := he
    obtain ⟨h2, h3⟩ := frzF_get h1
    have hl : (fvs.map (·.2)).length = (fds.map (·.2)).length := by have := congrArg List.length hk; simpa using this
    have q := frz_map hl ih h3
    exact .obj h ⟨no _ hm.1, hm.2⟩ (hk.trans h2) q.2
theorem RepL.frz {vs : List V} {ds es : List D} (hc : ∀ k a e, (M ++ N)[k]? = some a → c k = some e → Rep K H M (.ref a) e) (r : RepL K H (M ++ N) vs ds) (h : frzL c ds = some es) : RepL K H M vs es :=
  frz_map r.1 (fun i v d h1 h2 => (r.2 i v d h1 h2).frz hc) h
theorem celF_ok (S : Sto K H (M ++ N) τ) : ∀ (m k : Nat) (a : Addr) (e : D), (M ++ N)[k]? = some a → celF M.length τ m k = some e → Rep K H M (.ref a) e
  | 0, k, a, e, h, q => by
    simp [celF, cel0] at q
    obtain ⟨hk, rfl⟩ := q
    exact .cell (by rw [List.getElem?_append_left hk] at h; exact h)
  | m + 1, k, a, e, h, q => by
    unfold celF at q
    split at q
    · rename_i hk
      cases q
      exact .cell (by rw [List.getElem?_append_left hk] at h; exact h)
    · rename_i hk
      obtain ⟨d, hd, cd⟩ := S.get h
      rw [hd] at q
      have q : frzD (celF M.length τ m) d = some e := q
      have hc := celF_ok S m
      have ham : a ∉ M := fun z => by
        obtain ⟨j, hj, ej⟩ := List.getElem_of_mem z
        have := nodupIx S.nd (i := j) (j := k) (a := a) (by rw [List.getElem?_append_left hj, List.getElem?_eq_getElem hj, ej]) h
        omega
      have hap : a ∉ K.p := fun z => (S.prot a z).2 (List.mem_of_getElem? h)
      cases d with
      | lst ds =>
        simp [frzD] at q
        obtain ⟨es, h1, rfl⟩ := q
        obtain ⟨vs, h2, h3⟩ := cd
        have q := h3.frz hc h1
        exact .lst h2 ⟨ham, hap⟩ q.1 q.2
      | dic kds =>
        simp [frzD] at q
        obtain ⟨es, h1, rfl⟩ := q
        obtain ⟨h2, h3⟩ := frzK_get h1
        obtain ⟨kvs, h4, h5⟩ := cd
        have hl : (kvs.map (·.2)).length = (kds.map (·.2)).length := by have := congrArg List.length h5.1; simpa using this
        have q := RepL.frz hc ⟨hl, h5.2⟩ h3
        exact .dic h4 ⟨ham, hap⟩ (h5.1.trans h2) q.2
      | dit kds =>
        simp [frzD] at q
        obtain ⟨es, h1, rfl⟩ := q
        obtain ⟨h2, h3⟩ := frzT_get h1
        obtain ⟨kvs, h4, h5⟩ := cd
        have hl : (kvs.map (·.2)).length = (kds.map (·.2)).length := by have := congrArg List.length h5.1; simpa using this
        have q := RepL.frz hc ⟨hl, h5.2⟩ h3
        exact .dicT h4 ⟨ham, hap⟩ (h5.1.trans h2) q.2
      | obj C fds =>
        simp [frzD] at q
        obtain ⟨es, h1, rfl⟩ := q
        obtain ⟨h2, h3⟩ := frzF_get h1
        obtain ⟨dx, fvs, h4, h5⟩ := cd
        have hl : (fvs.map (·.2)).length = (fds.map (·.2)).length := by have := congrArg List.length h5.1; simpa using this
        have q := RepL.frz hc ⟨hl, h5.2⟩ h3
        exact .obj h4 ⟨ham, hap⟩ (h5.1.trans h2) q.2
      | _ => exact cd.elim
/-- the same data was there with the elder cells alone -/
theorem Rep.down (r : Rep K H (M ++ N) v d) : ∀ {H0 : Hp} {v0 : V}, Rep K H0 M v0 d → Rep K H M v d := by
  have no : ∀ a, a ∉ M ++ N → a ∉ M := fun a h z => h (List.mem_append_left _ z)
  have get : ∀ {vs vs0 : List V} {ds : List D} {H0 : Hp}, vs0.length = ds.length → (∀ (i : Nat) (v : V) (d : D), vs0[i]? = some v → ds[i]? = some d → Rep K H0 M v d) → ∀ i d, ds[i]? = some d → ∃ u, Rep K H0 M u d := fun {vs vs0 ds H0} hl hi i d hd => by
    have h : i < vs0.length := by rw [hl]; exact (List.getElem?_eq_some_iff.mp hd).1
    exact ⟨_, hi i vs0[i] d (by simp [h]) hd⟩
  induction r with
  | non => intro _ _ _; exact .non
  | bl b => intro _ _ _; exact .bl b
  | int i => intro _ _ _; exact .int i
  | str x => intro _ _ _; exact .str x
  | raw v => intro _ _ _; exact .raw v
  | @cell k a h =>
    intro H0 v0 q
    cases q with
    | cell h0 => exact .cell (by rw [List.getElem?_append_left (List.getElem?_eq_some_iff.mp h0).1] at h; exact h)
  | @lst a vs ds h hm hl hi ih =>
    intro H0 v0 q
    cases q with
    | lst h0 hm0 hl0 hi0 => exact .lst h ⟨no _ hm.1, hm.2⟩ hl fun i v d h1 h2 => let ⟨u, hu⟩ := get (vs := vs) hl0 hi0 i d h2; ih i v d h1 h2 hu
  | @frl a vs ds h hl hi ih =>
    intro H0 v0 q
    cases q with
    | frl h0 hl0 hi0 =>
      refine .frl ?_ hl fun i v d h1 h2 => let ⟨u, hu⟩ := get (vs := vs) hl0 hi0 i d h2; ih i v d h1 h2 hu
      rcases h with ⟨h, hm⟩ | h
      · exact .inl ⟨h, no _ hm.1, hm.2⟩
      · exact .inr h
  | @tup a vs ds h hm hl hi ih =>
    intro H0 v0 q
    cases q with
    | tup h0 hm0 hl0 hi0 => exact .tup h ⟨no _ hm.1, hm.2⟩ hl fun i v d h1 h2 => let ⟨u, hu⟩ := get (vs := vs) hl0 hi0 i d h2; ih i v d h1 h2 hu
  | @frt a vs ds h hl hi ih =>
    intro H0 v0 q
    cases q with
    | frt h0 hl0 hi0 =>
      refine .frt ?_ hl fun i v d h1 h2 => let ⟨u, hu⟩ := get (vs := vs) hl0 hi0 i d h2; ih i v d h1 h2 hu
      rcases h with ⟨h, hm⟩ | h
      · exact .inl ⟨h, no _ hm.1, hm.2⟩
      · exact .inr h
  | @dic a kvs kds h hm hk hi ih =>
    intro H0 v0 q
    cases q with
    | @dic _ kvs0 _ h0 hm0 hk0 hi0 =>
      have hl0 : (kvs0.map (·.2)).length = (kds.map (·.2)).length := by have := congrArg List.length hk0; simpa using this
      exact .dic h ⟨no _ hm.1, hm.2⟩ hk fun i v d h1 h2 => let ⟨u, hu⟩ := get (vs := []) hl0 hi0 i d h2; ih i v d h1 h2 hu
  | @dicT a kvs kds h hm hk hi ih =>
    intro H0 v0 q
    cases q with
    | @dicT _ kvs0 _ h0 hm0 hk0 hi0 =>
      have hl0 : (kvs0.map (·.2)).length = (kds.map (·.2)).length := by have := congrArg List.length hk0; simpa using this
      exact .dicT h ⟨no _ hm.1, hm.2⟩ hk fun i v d h1 h2 => let ⟨u, hu⟩ := get (vs := []) hl0 hi0 i d h2; ih i v d h1 h2 hu
  | @obj a C dx fvs fds h hm hk hi ih =>
    intro H0 v0 q
    cases q with
    | @obj _ _ _ fvs0 _ h0 hm0 hk0 hi0 =>
      have hl0 : (fvs0.map (·.2)).length = (fds.map (·.2)).length := by have := congrArg List.length hk0; simpa using this
      exact .obj h ⟨no _ hm.1, hm.2⟩ hk fun i v d h1 h2 => let ⟨u, hu⟩ := get (vs := []) hl0 hi0 i d h2; ih i v d h1 h2 hu
end
end DL

namespace DL
open PySem L2

/-- the elder cells are as they were, or hold nothing of the new ones -/
def Older (τ τ' : List D) : Prop := ∀ k, k < τ.length → τ'[k]? = τ[k]? ∨ ∃ d, τ'[k]? = some d ∧ frzD (cel0 τ.length) d = some d
open Classical in
/-- what is handed out of a def: its own cells frozen and forgotten -/
noncomputable def exitD (τ : List D) (r : R D) : R D := match r with
  | .ok d τ' => match frzD (celF τ.length τ' 6) d with
    | some e => if Older τ τ' then .ok e (τ'.take τ.length) else .bad
    | none => .bad
  | .exn C fs τ' => match frzF (celF τ.length τ' 6) fs with
    | some es => if Older τ τ' then .exn C es (τ'.take τ.length) else .bad
    | none => .bad
  | .bad => .bad
section
variable {K : KP} {E : XK} {H H' : Hp} {M M' N : List Addr} {τ τ' : List D} {v : V} {d e : D}
theorem cel0_ok (k : Nat) (a : Addr) (e : D) (h : (M ++ N)[k]? = some a) (q : cel0 M.length k = some e) : Rep K H M (.ref a) e := by
  unfold cel0 at q
  split at q
  · rename_i hk
    cases q
    exact .cell (by rw [List.getElem?_append_left hk] at h; exact h)
  · cases q
theorem RepL.down {vs vs0 : List V} {ds : List D} {H0 : Hp} (r : RepL K H (M ++ N) vs ds) (r0 : RepL K H0 M vs0 ds) : RepL K H M vs ds := ⟨r.1, fun i v d h1 h2 =>
  let ⟨_, _, hu⟩ := r0.get h2
  (r.2 i v d h1 h2).down hu⟩
theorem Cel.down {a : Addr} {H0 : Hp} (c : Cel K H (M ++ N) a d) (c0 : Cel K H0 M a d) : Cel K H M a d := by
  cases d with
  | lst ds =>
    obtain ⟨vs, q, r⟩ := c
    obtain ⟨vs0, q0, r0⟩ := c0
    exact ⟨vs, q, r.down r0⟩
  | dic kds =>
    obtain ⟨vs, q, r⟩ := c
    obtain ⟨vs0, q0, r0⟩ := c0
    have hl : (vs.map (·.2)).length = (kds.map (·.2)).length := by have := congrArg List.length r.1; simpa using this
    have hl0 : (vs0.map (·.2)).length = (kds.map (·.2)).length := by have := congrArg List.length r0.1; simpa using this
    exact ⟨vs, q, r.1, (RepL.down ⟨hl, r.2⟩ ⟨hl0, r0.2⟩).2⟩
  | dit kds =>
    obtain ⟨vs, q, r⟩ := c
    obtain ⟨vs0, q0, r0⟩ := c0
    have hl : (vs.map (·.2)).length = (kds.map (·.2)).length := by have := congrArg List.length r.1; simpa using this
    have hl0 : (vs0.map (·.2)).length = (kds.map (·.2)).length := by have := congrArg List.length r0.1; simpa using this
    exact ⟨vs, q, r.1, (RepL.down ⟨hl, r.2⟩ ⟨hl0, r0.2⟩).2⟩
  | obj C kds =>
    obtain ⟨dx, vs, q, r⟩ := c
    obtain ⟨dx0, vs0, q0, r0⟩ := c0
    have hl : (vs.map (·.2)).length = (kds.map (·.2)).length := by have := congrArg List.length r.1; simpa using this
    have hl0 : (vs0.map (·.2)).length = (kds.map (·.2)).length := by have := congrArg List.length r0.1; simpa using this
    exact ⟨dx, vs, q, r.1, (RepL.down ⟨hl, r.2⟩ ⟨hl0, r0.2⟩).2⟩
  | _ => exact c.elim
theorem Cel.frz {a : Addr} (c : Cel K H (M ++ N) a d) (h : frzD (cel0 M.length) d = some d) : Cel K H M a d := by
  cases d with
  | lst ds =>
    obtain ⟨vs, q, r⟩ := c
    simp [frzD] at h
    exact ⟨vs, q, r.frz cel0_ok h⟩
  | dic kds =>
    obtain ⟨vs, q, r⟩ := c
    simp [frzD] at h
    have hl : (vs.map (·.2)).length = (kds.map (·.2)).length := by have := congrArg List.length r.1; simpa using this
    exact ⟨vs, q, r.1, (RepL.frz cel0_ok ⟨hl, r.2⟩ (frzK_get h).2).2⟩
  | dit kds =>
    obtain ⟨vs, q, r⟩ := c
    simp [frzD] at h
    have hl : (vs.map (·.2)).length = (kds.map (·.2)).length := by have := congrArg List.length r.1; simpa using this
    exact ⟨vs, q, r.1, (RepL.frz cel0_ok ⟨hl, r.2⟩ (frzT_get h).2).2⟩
  | obj C kds =>
    obtain ⟨dx, vs, q, r⟩ := c
    simp [frzD] at h
    have hl : (vs.map (·.2)).length = (kds.map (·.2)).length := by have := congrArg List.length r.1; simpa using this
    exact ⟨dx, vs, q, r.1, (RepL.frz cel0_ok ⟨hl, r.2⟩ (frzF_get h).2).2⟩
  | _ => exact c.elim
theorem Sto.exit (S : Sto K H M τ) (e : Ext H M H' M') (S' : Sto K H' M' τ') (o : Older τ τ') : Ext H M H' M ∧ Sto K H' M (τ'.take τ.length) := by
  obtain ⟨⟨N, rfl, hN⟩, k, l⟩ := e
  refine ⟨⟨⟨[], by simp, by simp⟩, k, l⟩, ?_, ?_, fun a ha => ⟨(S'.prot a ha).1, (S.prot a ha).2⟩, fun j a d h1 h2 => ?_⟩
  · rw [List.length_take]
    have h1 := S.len
    have h2 := S'.len
    rw [List.length_append] at h2
    omega
  · exact S.nd
  · have hj : j < τ.length := by rw [← S.len]; exact (List.getElem?_eq_some_iff.mp h1).1
    rw [List.getElem?_take_of_lt hj] at h2
    have hjM : j < M.length := (List.getElem?_eq_some_iff.mp h1).1
    have c : Cel K H' (M ++ N) a d := S'.at_ j a d (by rw [List.getElem?_append_left hjM]; exact h1) h2
    rcases o j hj with q | ⟨d', q, q2⟩
    · rw [h2] at q
      exact c.down (S.at_ j a d h1 q.symm)
    · rw [h2] at q
      cases q
      rw [← S.len] at q2
      exact c.frz q2
theorem Post.exit {Q : VK} (S : Sto K H M τ) {r : R D} (h : Post K E H M (exitD τ r) fun H' M' _ d => ∀ v, Rep K H' M' v d → Q v H') : Post K E H M r fun H' M' _ d => ∀ v, Rep K H' M' v d → Q v H' := by
  cases r with
  | ok d τ' =>
    intro H' M' e S' v r
    unfold exitD at h
    simp only at h
    split at h
    · rename_i d' hd
      split at h
      · rename_i ho
        obtain ⟨e', S2⟩ := S.exit e S' ho
        obtain ⟨⟨N, rfl, hN⟩, _, _⟩ := e
        refine h H' M e' S2 v ?_
        rw [← S.len] at hd
        exact r.frz (fun k a e h1 h2 => celF_ok S' 6 k a e h1 h2) d' hd
      · exact h.elim
    · exact h.elim
  | exn C fs τ' =>
    intro H' M' d fvs e S' hd rf
    unfold exitD at h
    simp only at h
    split at h
    · rename_i es hes
      split at h
      · rename_i ho
        obtain ⟨e', S2⟩ := S.exit e S' ho
        obtain ⟨⟨N, rfl, hN⟩, _, _⟩ := e
        refine h H' M d fvs e' S2 hd ?_
        rw [← S.len] at hes
        have hl : (fvs.map (·.2)).length = (fs.map (·.2)).length := by have := congrArg List.length rf.1; simpa using this
        obtain ⟨h1, h2⟩ := frzF_get hes
        exact ⟨rf.1.trans h1, (RepL.frz (fun k a e h1 h2 => celF_ok S' 6 k a e h1 h2) ⟨hl, rf.2⟩ h2).2⟩
      · exact h.elim
    · exact h.elim
  | bad => exact h
end
noncomputable def dFrz (f : DE) : DE := fun δ τ => exitD τ (f δ τ)
noncomputable def exitP (g : Pr) : Pr := fun ds τ => exitD τ (g ds τ)
theorem de_frz {X : Cx} {E : XK} {e : Expr} {f : DE} (h : PE X e (tE X.K E f)) : PE X e (tE X.K E (dFrz f)) := h.imp fun σ H Q ⟨P, M, δ, τ, n, S, p⟩ => ⟨P, M, δ, τ, n, S, p.exit S⟩
theorem rP.exit {K : PySem.W.Frag} {E : XK} {g : Pr} {vs : List V} {H : Hp} {Q : VK} (h : rP K E (exitP g) vs H Q) : rP K E g vs H Q := by
  obtain ⟨P, M, τ, ds, S, r, p⟩ := h
  exact ⟨P, M, τ, ds, S, r, p.exit S⟩
theorem fn_exit {P : Program} {w : World} {K : PySem.W.Frag} {mg : Str → Option Value} {base : Heap} {CX : CXT} {k : Nat} {f : Addr} {fd : FuncData} {ps : List Str} {n : Nat} {g : Pr} (F : FnG P w K mg base CX k f fd ps (spD K n g)) :
    FnG P w K mg base CX k f fd ps (spD K n (exitP g)) := F.imp fun vs H Q E ⟨h1, h2⟩ => ⟨h1, h2.exit⟩

/-! ### a def by its body -/
def dDef (m : Nat) (body : DS) : Pr := fun ds τ => match body (ds.map some ++ List.replicate (m - ds.length) none) τ with
  | .nx _ τ' => .ok .non τ'
  | .rt d τ' => .ok d τ'
  | .exn C fs τ' => .exn C fs τ'
  | _ => .bad
theorem start_env {K : KP} {H : Hp} {M : List Addr} {vs : List V} {ds : List D} (r : RepL K H M vs ds) (N : List Str) : EnvD K H M (L2.start N vs) (ds.map some ++ List.replicate (N.length - ds.length) none) := by
  refine ⟨by unfold L2.start; simp [r.1], fun i d h => ?_⟩
  by_cases hi : i < ds.length
  · rw [List.getElem?_append_left (by simpa using hi), List.getElem?_map] at h
    cases q : ds[i]? with
    | none => rw [q] at h; cases h
    | some e =>
      rw [q] at h; cases h
      obtain ⟨v, h1, h2⟩ := r.get q
      refine ⟨v, ?_, h2⟩
      unfold L2.start
      rw [List.getElem?_append_left (by rw [List.length_map, r.1]; exact hi), List.getElem?_map, h1]; rfl
  · rw [List.getElem?_append_right (by simpa using hi), List.getElem?_replicate] at h
    split at h <;> cases h
theorem dDef_of {K : KP} {E : XK} {H : Hp} {M : List Addr} {N : List Str} {τ : List D} {ds : List D} {body : DS} {Q : VK} (p : Post K E H M (dDef N.length body ds τ) fun H' M' _ d => ∀ v, Rep K H' M' v d → Q v H') :
    PostS K E H M { nx := fun _ H' => Q .non H', rt := Q } (body (ds.map some ++ List.replicate (N.length - ds.length) none) τ) := by
  unfold dDef at p
  revert p
  cases body (ds.map some ++ List.replicate (N.length - ds.length) none) τ with
  | nx δ τ' => exact fun p H' M' σ' e n S => p H' M' e S _ .non
  | rt d τ' => exact fun p H' M' v e S r => p H' M' e S v r
  | exn C fs τ' => exact fun p => p
  | bk δ τ' => exact fun p => p.elim
  | ct δ τ' => exact fun p => p.elim
  | bad => exact fun p => p.elim

end DL

namespace DL
open PySem L2

/-! ### primitives -/
@[irreducible] def BIG : Nat := 2 ^ 100000
@[irreducible] def BIGD : Nat := 2 ^ 8000
section
variable {K : PySem.W.Frag} {E : XK} {g : Pr} {H : Hp} {Q : VK} {x y z : V}
theorem rp1 (h : rP K E g [x] H Q) : ∃ P M τ d, Sto ⟨K, P⟩ H M τ ∧ Rep ⟨K, P⟩ H M x d ∧ Post ⟨K, P⟩ E H M (g [d] τ) fun H' M' _ d => ∀ v, Rep ⟨K, P⟩ H' M' v d → Q v H' := by
  obtain ⟨P, M, τ, ds, S, r, p⟩ := h
  match ds, r with
  | [d], r => obtain ⟨v, e, q⟩ := r.one; cases e; exact ⟨P, M, τ, d, S, q, p⟩
  | [], r => exact absurd r.1 (by simp)
  | _ :: _ :: _, r => exact absurd r.1 (by simp)
theorem rp2 (h : rP K E g [x, y] H Q) : ∃ P M τ d e, Sto ⟨K, P⟩ H M τ ∧ Rep ⟨K, P⟩ H M x d ∧ Rep ⟨K, P⟩ H M y e ∧ Post ⟨K, P⟩ E H M (g [d, e] τ) fun H' M' _ d => ∀ v, Rep ⟨K, P⟩ H' M' v d → Q v H' := by
  obtain ⟨P, M, τ, ds, S, r, p⟩ := h
  match ds, r with
  | [d, e], r => obtain ⟨v, u, ee, q, q2⟩ := r.two; cases ee; exact ⟨P, M, τ, d, e, S, q, q2, p⟩
  | [], r => exact absurd r.1 (by simp)
  | [_], r => exact absurd r.1 (by simp)
  | _ :: _ :: _ :: _, r => exact absurd r.1 (by simp)
theorem rp3 (h : rP K E g [x, y, z] H Q) : ∃ P M τ d e f, Sto ⟨K, P⟩ H M τ ∧ Rep ⟨K, P⟩ H M x d ∧ Rep ⟨K, P⟩ H M y e ∧ Rep ⟨K, P⟩ H M z f ∧ Post ⟨K, P⟩ E H M (g [d, e, f] τ) fun H' M' _ d => ∀ v, Rep ⟨K, P⟩ H' M' v d → Q v H' := by
  obtain ⟨P, M, τ, ds, S, r, p⟩ := h
  match ds, r with
  | [d, e, f], r => obtain ⟨v, u, w, ee, q, q2, q3⟩ := r.three; cases ee; exact ⟨P, M, τ, d, e, f, S, q, q2, q3, p⟩
  | [], r => exact absurd r.1 (by simp)
  | [_], r => exact absurd r.1 (by simp)
  | [_, _], r => exact absurd r.1 (by simp)
  | _ :: _ :: _ :: _ :: _, r => exact absurd r.1 (by simp)
end
/-- a new list: frozen, or a cell -/
def newL (c : Bool) (ds : List D) (τ : List D) : R D := if c = true then .ok (.cell τ.length) (τ ++ [.lst ds]) else .ok (.lst ds) τ
@[simp] theorem newL_f (ds τ : List D) : newL false ds τ = .ok (.lst ds) τ := rfl
@[simp] theorem newL_t (ds τ : List D) : newL true ds τ = .ok (.cell τ.length) (τ ++ [.lst ds]) := rfl
theorem Post.newL {K : KP} {E : XK} {H : Hp} {M : List Addr} {τ : List D} {ds : List D} {vs : List V} {Q : VK} {c : Bool} (h : Post K E H M (newL c ds τ) fun H' M' _ d => ∀ v, Rep K H' M' v d → Q v H') (S : Sto K H M τ) (r : RepL K H M vs ds) (p : Addr) (hp : H p = none) :
    Q (.ref p) (upd H p (.lst vs)) := by
  cases c with
  | true => exact h _ _ (Ext.newC hp) (S.newLst hp r) _ (rep_last S)
  | false => exact h _ _ (Ext.new hp) (S.same (Same.new hp)) _ (rep_newLst S hp r)
theorem Post.newT {K : KP} {E : XK} {H : Hp} {M : List Addr} {τ : List D} {ds : List D} {vs : List V} {Q : VK} (h : Post K E H M (.ok (.tup ds) τ) fun H' M' _ d => ∀ v, Rep K H' M' v d → Q v H') (S : Sto K H M τ) (r : RepL K H M vs ds) (p : Addr) (hp : H p = none) :
    Q (.ref p) (upd H p (.tup vs)) := h _ _ (Ext.new hp) (S.same (Same.new hp)) _ (rep_newTup S hp r)
theorem RepL.nil_iff {K : KP} {H : Hp} {M : List Addr} {vs : List V} {ds : List D} (r : RepL K H M vs ds) : vs = [] ↔ ds = [] := by
  have := r.1
  constructor
  · rintro rfl; exact List.length_eq_zero_iff.mp (by simpa using this.symm)
  · rintro rfl; exact List.length_eq_zero_iff.mp (by simpa using this)
section
variable {X : Cx} {E : XK}
theorem OpR.imp {f : Value → Value → Sem Value} {r r' : R2} (h : OpR X f r) (k : ∀ x y H Q, r' x y H Q → r x y H Q) : OpR X f r' := fun pins s σ H x y v u Q I rx ry q => h pins s σ H x y v u Q I rx ry (k x y H Q q)
/-- by one of several rules -/
theorem OpR.any {f : Value → Value → Sem Value} {r' : R2} (h : ∀ x y H Q, r' x y H Q → ∃ r : R2, OpR X f r ∧ r x y H Q) : OpR X f r' := fun pins s σ H x y v u Q I rx ry q => by
  obtain ⟨r, hr, q⟩ := h x y H Q q
  exact hr pins s σ H x y v u Q I rx ry q
theorem CallR.any {f : Value} {r' : List V → Hp → VK → Prop} (h : ∀ xs H Q, r' xs H Q → ∃ r, CallR X f r ∧ r xs H Q) : CallR X f r' := fun pins s σ H xs us Q I rx q => by
  obtain ⟨r, hr, q⟩ := h xs H Q q
  exact hr pins s σ H xs us Q I rx q
theorem UnR.any {f : Value → Sem Value} {r' : V → Hp → VK → Prop} (h : ∀ x H Q, r' x H Q → ∃ r, UnR X f r ∧ r x H Q) : UnR X f r' := fun pins s σ H x v Q I rx q => by
  obtain ⟨r, hr, q⟩ := h x H Q q
  exact hr pins s σ H x v Q I rx q
theorem IxR.any {r' : R2} (h : ∀ x y H Q, r' x y H Q → ∃ r, IxR X r ∧ r x y H Q) : IxR X r' := fun value slice pins s σ H x y v u Q I rx ry q hs => by
  obtain ⟨r, hr, q⟩ := h x y H Q q
  exact hr value slice pins s σ H x y v u Q I rx ry q hs
theorem PSet.any {r' : TSet} (h : ∀ o i v H Q, r' o i v H Q → ∃ r, PSet X r ∧ r o i v H Q) : PSet X r' := fun pins s σ H o i v ov iv u Q I ro ri rv q => by
  obtain ⟨r, hr, q⟩ := h o i v H Q q
  exact hr pins s σ H o i v ov iv u Q I ro ri rv q
theorem MtR.any {id : String} {r' : V → List V → Hp → VK → Prop} (h : ∀ x xs H Q, r' x xs H Q → ∃ r, MtR X id r ∧ r x xs H Q) : MtR X id r' := fun pins s σ H x xs v us Q I rx rs q => by
  obtain ⟨r, hr, q⟩ := h x xs H Q q
  exact hr pins s σ H x xs v us Q I rx rs q

/-- + -/
def pAdd (c : Bool) : Pr
  | [d, e], τ => match der τ d, der τ e with
    | .int i, .int j => .ok (.int (i + j)) τ
    | .lst xs, .lst ys => if xs.length + ys.length ≤ cap then newL c (xs ++ ys) τ else .bad
    | .tup xs, .tup ys => if xs.length + ys.length ≤ cap ∧ xs ≠ [] ∧ ys ≠ [] then .ok (.tup (xs ++ ys)) τ else .bad
    | .str x, .str y => if x.length + y.length ≤ cap then .ok (.str (x ++ y)) τ else .bad
    | _, _ => .bad
  | _, _ => .bad
theorem o_add {c : Bool} : Op2 X E (binaryOp .Add) (pAdd c) := OpR.any fun x y H Q h => by
  obtain ⟨P, M, τ, d, e, S, rx, ry, p⟩ := rp2 h
  unfold pAdd at p
  simp only at p
  split at p
  · rename_i i j hi hj
    exact ⟨_, op_add, i, j, rep_int rx S hi, rep_int ry S hj, Post.here p S _ (.int _)⟩
  · rename_i xs ys hi hj
    split at p
    · rename_i hz
      obtain ⟨a, vs, rfl, ha, ra⟩ := rep_lst rx S hi
      obtain ⟨b, us, rfl, hb, rb⟩ := rep_lst ry S hj
      exact ⟨_, op_cat, a, b, vs, us, rfl, rfl, ha, hb, by rw [ra.1, rb.1]; exact cap_line hz, p.newL S (ra.append rb)⟩
    · exact p.elim
  · rename_i xs ys hi hj
    split at p
    · rename_i hz
      obtain ⟨a, vs, rfl, ha, ra⟩ := rep_tup rx S hi
      obtain ⟨b, us, rfl, hb, rb⟩ := rep_tup ry S hj
      exact ⟨_, op_catT, a, b, vs, us, rfl, rfl, SqT.of ha, SqT.of hb, fun z => hz.2.1 (ra.nil_iff.mp z), by rw [ra.1, rb.1]; exact cap_line hz.1, fun z => absurd (rb.nil_iff.mp z) hz.2.2, fun _ => p.newT S (ra.append rb)⟩
    · exact p.elim
  · rename_i a b hi hj
    split at p
    · rename_i hz
      exact ⟨_, op_add_str, a, b, rep_str rx S hi, rep_str ry S hj, cap_line hz, Post.here p S _ (.str _)⟩
    · exact p.elim
  · exact p.elim
/-- a op b of ints -/
def pII (f : Int → Int → R D) : Pr
  | [d, e], τ => match der τ d, der τ e with
    | .int i, .int j => (f i j).bind fun r _ => .ok r τ
    | _, _ => .bad
  | _, _ => .bad
def pSub : Pr
  | [d, e], τ => match der τ d, der τ e with
    | .int i, .int j => .ok (.int (i - j)) τ
    | _, _ => .bad
  | _, _ => .bad
theorem o_sub : Op2 X E (binaryOp .Sub) pSub := OpR.any fun x y H Q h => by
  obtain ⟨P, M, τ, d, e, S, rx, ry, p⟩ := rp2 h
  unfold pSub at p
  simp only at p
  split at p
  · rename_i i j hi hj
    exact ⟨_, op_sub, i, j, rep_int rx S hi, rep_int ry S hj, Post.here p S _ (.int _)⟩
  · exact p.elim
def pMul (c : Bool) : Pr
  | [d, e], τ => match der τ d, der τ e with
    | .int i, .int j => if i.natAbs < BIG ∧ j.natAbs < BIG then .ok (.int (i * j)) τ else .bad
    | .lst xs, .int k => if -1000000 ≤ k ∧ k ≤ 1000000 ∧ xs.length * k.toNat ≤ cap then newL c (List.replicate k.toNat xs).flatten τ else .bad
    | _, _ => .bad
  | _, _ => .bad
theorem RepL.rep {K : KP} {H : Hp} {M : List Addr} {vs : List V} {ds : List D} (r : RepL K H M vs ds) : ∀ k : Nat, RepL K H M (List.replicate k vs).flatten (List.replicate k ds).flatten
  | 0 => .nil
  | k + 1 => by
    rw [List.replicate_succ, List.replicate_succ, List.flatten_cons, List.flatten_cons]
    exact r.append (RepL.rep r k)
theorem o_mul {c : Bool} : Op2 X E (binaryOp .Mult) (pMul c) := OpR.any fun x y H Q h => by
  obtain ⟨P, M, τ, d, e, S, rx, ry, p⟩ := rp2 h
  unfold pMul at p
  simp only at p
  split at p
  · rename_i i j hi hj
    split at p
    · rename_i hz
      refine ⟨_, op_mulW, i, j, rep_int rx S hi, rep_int ry S hj, wide_mul (a := 100000) (b := 100000) ?_ ?_ (by decide) (by decide) (by decide), Post.here p S _ (.int _)⟩
      · have := hz.1; unfold BIG at this; exact this
      · have := hz.2; unfold BIG at this; exact this
    · exact p.elim
  · rename_i xs k hi hj
    split at p
    · rename_i hz
      obtain ⟨a, vs, rfl, ha, ra⟩ := rep_lst rx S hi
      exact ⟨_, op_rep, a, k, vs, rfl, rep_int ry S hj, ha, by omega, by omega, by rw [ra.1]; exact cap_line hz.2.2, p.newL S (ra.rep k.toNat)⟩
    · exact p.elim
  · exact p.elim
def pFdiv : Pr
  | [d, e], τ => match der τ d, der τ e with
    | .int i, .int j => if 0 < j ∧ j.natAbs < BIGD then .ok (.int (i / j)) τ else .bad
    | _, _ => .bad
  | _, _ => .bad
theorem o_fdiv : Op2 X E (binaryOp .FloorDiv) pFdiv := OpR.any fun x y H Q h => by
  obtain ⟨P, M, τ, d, e, S, rx, ry, p⟩ := rp2 h
  unfold pFdiv at p
  simp only at p
  split at p
  · rename_i i j hi hj
    split at p
    · rename_i hz
      refine ⟨_, op_fdivW, i, j, rep_int rx S hi, rep_int ry S hj, wide_div (b := 8000) hz.1 ?_ (by decide) (by decide), Post.here p S _ (.int _)⟩
      have := hz.2; unfold BIGD at this; exact this
    · exact p.elim
  · exact p.elim
def pMod : Pr
  | [d, e], τ => match der τ d, der τ e with
    | .int i, .int j => if 0 < j then .ok (.int (i % j)) τ else .bad
    | _, _ => .bad
  | _, _ => .bad
theorem o_mod : Op2 X E (binaryOp .Mod) pMod := OpR.any fun x y H Q h => by
  obtain ⟨P, M, τ, d, e, S, rx, ry, p⟩ := rp2 h
  unfold pMod at p
  simp only at p
  split at p
  · rename_i i j hi hj
    split at p
    · rename_i hz
      exact ⟨_, op_mod, i, j, rep_int rx S hi, rep_int ry S hj, hz, Post.here p S _ (.int _)⟩
    · exact p.elim
  · exact p.elim
def pPow : Pr
  | [d, e], τ => match der τ d, der τ e with
    | .int i, .int j => if 0 ≤ j ∧ j ≤ 1000 ∧ i.natAbs ≤ 1000000 then .ok (.int (i ^ j.toNat)) τ else .bad
    | _, _ => .bad
  | _, _ => .bad
theorem o_pow : Op2 X E (binaryOp .Pow) pPow := OpR.any fun x y H Q h => by
  obtain ⟨P, M, τ, d, e, S, rx, ry, p⟩ := rp2 h
  unfold pPow at p
  simp only at p
  split at p
  · rename_i i j hi hj
    split at p
    · rename_i hz
      exact ⟨_, op_pow, i, j, rep_int rx S hi, rep_int ry S hj, ⟨hz.1, by omega, Nat.lt_of_le_of_lt hz.2.2 (by decide)⟩, Post.here p S _ (.int _)⟩
    · exact p.elim
  · exact p.elim
def pNeg : Pr
  | [d], τ => match der τ d with
    | .int i => .ok (.int (-i)) τ
    | _ => .bad
  | _, _ => .bad
theorem o_neg : Op1 X E (unaryOp .USub) pNeg := UnR.any fun x H Q h => by
  obtain ⟨P, M, τ, d, S, rx, p⟩ := rp1 h
  unfold pNeg at p
  simp only at p
  split at p
  · rename_i i hi
    exact ⟨_, un_neg, i, rep_int rx S hi, Post.here p S _ (.int _)⟩
  · exact p.elim
/-- comparisons of ints -/
def pCmp (f : Int → Int → Bool) : Pr
  | [d, e], τ => match der τ d, der τ e with
    | .int i, .int j => .ok (.bl (f i j)) τ
    | _, _ => .bad
  | _, _ => .bad
theorem o_cmp {f : Int → Int → Bool} {op : CmpOp} (ho : OpR X (compareOp op) (rI0 fun i j => .bl (f i j))) : Op2 X E (compareOp op) (pCmp f) := OpR.any fun x y H Q h => by
  obtain ⟨P, M, τ, d, e, S, rx, ry, p⟩ := rp2 h
  unfold pCmp at p
  simp only at p
  split at p
  · rename_i i j hi hj
    exact ⟨_, ho, i, j, rep_int rx S hi, rep_int ry S hj, Post.here p S _ (.bl _)⟩
  · exact p.elim
abbrev pLt : Pr := pCmp fun i j => decide (i < j)
abbrev pLe : Pr := pCmp fun i j => decide (i ≤ j)
abbrev pGt : Pr := pCmp fun i j => decide (j < i)
abbrev pGe : Pr := pCmp fun i j => decide (j ≤ i)
theorem o_lt : Op2 X E (compareOp .Lt) pLt := o_cmp op_lt
theorem o_le : Op2 X E (compareOp .LtE) pLe := o_cmp op_le
theorem o_gt : Op2 X E (compareOp .Gt) pGt := o_cmp op_gt
theorem o_ge : Op2 X E (compareOp .GtE) pGe := o_cmp op_ge
/-- len -/
def pLen : Pr
  | [d], τ => match der τ d with
    | .lst xs => .ok (.int xs.length) τ
    | .tup xs => .ok (.int xs.length) τ
    | .frl xs => .ok (.int xs.length) τ
    | .str x => if x.length ≤ cap then .ok (.int x.length) τ else .bad
    | _ => .bad
  | _, _ => .bad
theorem o_len : OpC X E (.builtin "len") pLen := CallR.any fun xs H Q h => by
  obtain ⟨P, M, τ, ds, S, r, p⟩ := h
  match ds, p with
  | [d], p =>
    obtain ⟨v, rfl, rv⟩ := r.one
    unfold pLen at p
    simp only at p
    split at p
    · rename_i xs hx
      obtain ⟨a, vs, rfl, ha, ra⟩ := rep_lst rv S hx
      exact ⟨_, call_len_seq, a, vs, rfl, .inl (SqL.of ha), by rw [ra.1]; exact Post.here p S _ (.int _)⟩
    · rename_i xs hx
      obtain ⟨a, vs, rfl, ha, ra⟩ := rep_tup rv S hx
      exact ⟨_, call_len_seq, a, vs, rfl, .inr (SqT.of ha), by rw [ra.1]; exact Post.here p S _ (.int _)⟩
    · rename_i xs hx
      obtain ⟨a, vs, rfl, ha, ra⟩ := rep_frl rv S hx
      exact ⟨_, call_len_seq, a, vs, rfl, .inl ha, by rw [ra.1]; exact Post.here p S _ (.int _)⟩
    · rename_i x hx
      split at p
      · rename_i hz
        exact ⟨_, call_len_str, x, by rw [rep_str rv S hx], cap_line hz, Post.here p S _ (.int _)⟩
      · exact p.elim
    · exact p.elim
  | [], p => exact p.elim
  | _ :: _ :: _, p => exact p.elim
def pAbs : Pr
  | [d], τ => match der τ d with
    | .int i => .ok (.int (if i < 0 then -i else i)) τ
    | _ => .bad
  | _, _ => .bad
theorem o_abs : OpC X E (.builtin "abs") pAbs := CallR.any fun xs H Q h => by
  obtain ⟨P, M, τ, ds, S, r, p⟩ := h
  match ds, p with
  | [d], p =>
    obtain ⟨v, rfl, rv⟩ := r.one
    unfold pAbs at p
    simp only at p
    split at p
    · rename_i i hi
      exact ⟨_, call_abs, i, by rw [rep_int rv S hi], Post.here p S _ (.int _)⟩
    · exact p.elim
  | [], p => exact p.elim
  | _ :: _ :: _, p => exact p.elim
def intsOf (τ : List D) : List D → Option (List Int)
  | [] => some []
  | d :: ds => match der τ d, intsOf τ ds with
    | .int i, some r => some (i :: r)
    | _, _ => none
theorem intsOf_rep {K : KP} {H : Hp} {M : List Addr} {τ : List D} (S : Sto K H M τ) : ∀ {ds : List D} {ns : List Int} {vs : List V}, intsOf τ ds = some ns → RepL K H M vs ds → vs = ns.map V.int
  | [], ns, vs, h, r => by simp [intsOf] at h; subst h; exact r.nil'
  | d :: ds, ns, vs, h, r => by
    obtain ⟨v, vs', rfl, rv, rs⟩ := r.head
    unfold intsOf at h
    split at h
    · rename_i i ns' hi hs
      cases h
      rw [rep_int rv S hi, intsOf_rep S hs rs]; rfl
    · cases h
def leastI : Int → List Int → Int
  | m, [] => m
  | m, x :: xs => leastI (if x < m then x else m) xs
def mostI : Int → List Int → Int
  | m, [] => m
  | m, x :: xs => mostI (if x > m then x else m) xs
theorem leastI_spec : ∀ (xs : List Int) (m : Int), (leastI m xs = m ∨ leastI m xs ∈ xs) ∧ leastI m xs ≤ m ∧ ∀ y ∈ xs, leastI m xs ≤ y
  | [], m => by simp [leastI]
  | x :: xs, m => by
    obtain ⟨h1, h2, h3⟩ := leastI_spec xs (if x < m then x else m)
    unfold leastI
    refine ⟨?_, ?_, fun y hy => ?_⟩
    · rcases h1 with h1 | h1
      · rw [h1]; split
        · exact .inr (by simp)
        · exact .inl rfl
      · exact .inr (List.mem_cons_of_mem _ h1)
    · have q : (if x < m then x else m) ≤ m := by split <;> omega
      exact Int.le_trans h2 q
    · rcases List.mem_cons.mp hy with rfl | hy
      · have q : (if y < m then y else m) ≤ y := by split <;> omega
        exact Int.le_trans h2 q
      · exact h3 y hy
theorem mostI_spec : ∀ (xs : List Int) (m : Int), (mostI m xs = m ∨ mostI m xs ∈ xs) ∧ m ≤ mostI m xs ∧ ∀ y ∈ xs, y ≤ mostI m xs
  | [], m => by simp [mostI]
  | x :: xs, m => by
    obtain ⟨h1, h2, h3⟩ := mostI_spec xs (if x > m then x else m)
    unfold mostI
    refine ⟨?_, ?_, fun y hy => ?_⟩
    · rcases h1 with h1 | h1
      · rw [h1]; split
        · exact .inr (by simp)
        · exact .inl rfl
      · exact .inr (List.mem_cons_of_mem _ h1)
    · have q : m ≤ (if x > m then x else m) := by split <;> omega
      exact Int.le_trans q h2
    · rcases List.mem_cons.mp hy with rfl | hy
      · have q : y ≤ (if y > m then y else m) := by split <;> omega
        exact Int.le_trans q h2
      · exact h3 y hy
/-- min of two ints, or of a list of ints -/
def pMin : Pr
  | [d], τ => match der τ d with
    | .lst xs => (match intsOf τ xs with
      | some (m :: ms) => .ok (.int (leastI m ms)) τ
      | _ => .bad)
    | _ => .bad
  | [d, e], τ => match der τ d, der τ e with
    | .int i, .int j => .ok (.int (if j < i then j else i)) τ
    | _, _ => .bad
  | _, _ => .bad
theorem o_min (hc : X.calm = true) : OpC X E (.builtin "min") pMin := CallR.any fun xs H Q h => by
  obtain ⟨P, M, τ, ds, S, r, p⟩ := h
  match ds, p with
  | [d], p =>
    obtain ⟨v, rfl, rv⟩ := r.one
    unfold pMin at p
    simp only at p
    split at p
    · rename_i xs hx
      split at p
      · rename_i m ms hm
        obtain ⟨a, vs, rfl, ha, ra⟩ := rep_lst rv S hx
        have ev := intsOf_rep S hm ra
        refine ⟨_, cr_min hc, a, m :: ms, rfl, by rw [← ev]; exact SqL.of ha, by simp, fun k hk hle => ?_⟩
        obtain ⟨h1, h2, h3⟩ := leastI_spec ms m
        have hm' : leastI m ms ∈ m :: ms := by rcases h1 with h1 | h1 <;> simp [h1]
        have e : k = leastI m ms := by
          have q1 := hle _ hm'
          rcases List.mem_cons.mp hk with rfl | hk
          · omega
          · have := h3 k hk; omega
        rw [e]; exact Post.here p S _ (.int _)
      · exact p.elim
    · exact p.elim
  | [d, e], p =>
    obtain ⟨v, u, rfl, rv, ru⟩ := r.two
    unfold pMin at p
    simp only at p
    split at p
    · rename_i i j hi hj
      exact ⟨_, call_min2 hc, i, j, by rw [rep_int rv S hi, rep_int ru S hj], Post.here p S _ (.int _)⟩
    · exact p.elim
  | [], p => exact p.elim
  | _ :: _ :: _ :: _, p => exact p.elim
def pMax : Pr
  | [d], τ => match der τ d with
    | .lst xs => (match intsOf τ xs with
      | some (m :: ms) => .ok (.int (mostI m ms)) τ
      | _ => .bad)
    | _ => .bad
  | [d, e], τ => match der τ d, der τ e with
    | .int i, .int j => .ok (.int (if j > i then j else i)) τ
    | _, _ => .bad
  | _, _ => .bad
theorem o_max (hc : X.calm = true) : OpC X E (.builtin "max") pMax := CallR.any fun xs H Q h => by
  obtain ⟨P, M, τ, ds, S, r, p⟩ := h
  match ds, p with
  | [d], p =>
    obtain ⟨v, rfl, rv⟩ := r.one
    unfold pMax at p
    simp only at p
    split at p
    · rename_i xs hx
      split at p
      · rename_i m ms hm
        obtain ⟨a, vs, rfl, ha, ra⟩ := rep_lst rv S hx
        have ev := intsOf_rep S hm ra
        refine ⟨_, cr_max hc, a, m :: ms, rfl, by rw [← ev]; exact SqL.of ha, by simp, fun k hk hle => ?_⟩
        obtain ⟨h1, h2, h3⟩ := mostI_spec ms m
        have hm' : mostI m ms ∈ m :: ms := by rcases h1 with h1 | h1 <;> simp [h1]
        have e : k = mostI m ms := by
          have q1 := hle _ hm'
          rcases List.mem_cons.mp hk with rfl | hk
          · omega
          · have := h3 k hk; omega
        rw [e]; exact Post.here p S _ (.int _)
      · exact p.elim
    · exact p.elim
  | [d, e], p =>
    obtain ⟨v, u, rfl, rv, ru⟩ := r.two
    unfold pMax at p
    simp only at p
    split at p
    · rename_i i j hi hj
      exact ⟨_, call_max2 hc, i, j, by rw [rep_int rv S hi, rep_int ru S hj], Post.here p S _ (.int _)⟩
    · exact p.elim
  | [], p => exact p.elim
  | _ :: _ :: _ :: _, p => exact p.elim
/-- list(x), tuple(x) -/
def pList (c : Bool) : Pr
  | [d], τ => match der τ d with
    | .lst xs => newL c xs τ
    | .tup xs => newL c xs τ
    | .frl xs => newL c xs τ
    | _ => .bad
  | _, _ => .bad
theorem o_list {c : Bool} : OpC X E (.type "list") (pList c) := CallR.any fun xs H Q h => by
  obtain ⟨P, M, τ, ds, S, r, p⟩ := h
  match ds, p with
  | [d], p =>
    obtain ⟨v, rfl, rv⟩ := r.one
    unfold pList at p
    simp only at p
    split at p
    · rename_i xs hx
      obtain ⟨a, vs, rfl, ha, ra⟩ := rep_lst rv S hx
      exact ⟨_, call_list_of, a, vs, rfl, .inl (SqL.of ha), p.newL S ra⟩
    · rename_i xs hx
      obtain ⟨a, vs, rfl, ha, ra⟩ := rep_tup rv S hx
      exact ⟨_, call_list_of, a, vs, rfl, .inr (SqT.of ha), p.newL S ra⟩
    · rename_i xs hx
      obtain ⟨a, vs, rfl, ha, ra⟩ := rep_frl rv S hx
      exact ⟨_, call_list_of, a, vs, rfl, .inl ha, p.newL S ra⟩
    · exact p.elim
  | [], p => exact p.elim
  | _ :: _ :: _, p => exact p.elim
def pTuple : Pr
  | [d], τ => match der τ d with
    | .lst xs => .ok (.tup xs) τ
    | .tup xs => .ok (.tup xs) τ
    | _ => .bad
  | _, _ => .bad
theorem o_tuple : OpC X E (.type "tuple") pTuple := CallR.any fun xs H Q h => by
  obtain ⟨P, M, τ, ds, S, r, p⟩ := h
  match ds, p with
  | [d], p =>
    obtain ⟨v, rfl, rv⟩ := r.one
    unfold pTuple at p
    simp only at p
    split at p
    · rename_i xs hx
      obtain ⟨a, vs, rfl, ha, ra⟩ := rep_lst rv S hx
      exact ⟨_, call_tuple_of, a, vs, rfl, .inl ⟨SqL.of ha, p.newT S ra⟩⟩
    · rename_i xs hx
      have hd : der τ d = d := by
        rcases rv.opened S with ⟨k, a, rfl, _, _, _, h3⟩ | q
        · rw [hx] at h3; exact h3.elim
        · exact q
      rw [hd] at hx; subst hx
      obtain ⟨a, vs, rfl, ha, ra⟩ := rep_tup rv S rfl
      exact ⟨_, call_tuple_of, a, vs, rfl, .inr ⟨SqT.of ha, Post.here p S _ rv⟩⟩
    · exact p.elim
  | [], p => exact p.elim
  | _ :: _ :: _, p => exact p.elim
end
end DL

namespace DL
open PySem L2

/-! ### dicts -/
section
variable {κ : Type} [DecidableEq κ]
def valD (kds : List (κ × D)) (k : κ) : Option D := match kds with
  | [] => none
  | p :: r => if p.1 = k then some p.2 else valD r k
def putKD (k : κ) (d : D) : List (κ × D) → List (κ × D)
  | [] => [(k, d)]
  | p :: r => if p.1 = k then (p.1, d) :: r else p :: putKD k d r
def hasKD (kds : List (κ × D)) (k : κ) : Bool := (valD kds k).isSome
variable {K : KP} {H : Hp} {M : List Addr}
/-- pairs of keys and values -/
def RepP (K : KP) (H : Hp) (M : List Addr) (kvs : List (κ × V)) (kds : List (κ × D)) : Prop :=
  kvs.map (·.1) = kds.map (·.1) ∧ ∀ (i : Nat) (v : V) (d : D), (kvs.map (·.2))[i]? = some v → (kds.map (·.2))[i]? = some d → Rep K H M v d
theorem RepP.nil : RepP K H M ([] : List (κ × V)) ([] : List (κ × D)) := ⟨rfl, fun i v d h => by simp at h⟩
theorem RepP.cons {k : κ} {v : V} {d : D} {kvs : List (κ × V)} {kds : List (κ × D)} (r : Rep K H M v d) (q : RepP K H M kvs kds) : RepP K H M ((k, v) :: kvs) ((k, d) :: kds) := by
  refine ⟨by simp [q.1], fun i w e h1 h2 => ?_⟩
  cases i with
  | zero => simp at h1 h2; subst h1 h2; exact r
  | succ i => exact q.2 i w e (by simpa using h1) (by simpa using h2)
theorem RepP.inv {p : κ × D} {kvs : List (κ × V)} {kds : List (κ × D)} (q : RepP K H M kvs (p :: kds)) : ∃ v r, kvs = (p.1, v) :: r ∧ Rep K H M v p.2 ∧ RepP K H M r kds := by
  obtain ⟨h1, h2⟩ := q
  cases kvs with
  | nil => simp at h1
  | cons a r =>
    obtain ⟨k, v⟩ := a
    simp at h1
    obtain ⟨rfl, h1⟩ := h1
    exact ⟨v, r, rfl, h2 0 v p.2 rfl rfl, h1, fun i w e e1 e2 => h2 (i + 1) w e (by simpa using e1) (by simpa using e2)⟩
theorem RepP.nil' {kvs : List (κ × V)} (q : RepP K H M kvs []) : kvs = [] := by have := q.1; simpa using this
theorem RepP.len {kvs : List (κ × V)} {kds : List (κ × D)} (q : RepP K H M kvs kds) : kvs.length = kds.length := by have := congrArg List.length q.1; simpa using this
theorem RepP.ext {H' : Hp} {M' : List Addr} {kvs : List (κ × V)} {kds : List (κ × D)} (r : RepP K H M kvs kds) (e : Ext H M H' M') : RepP K H' M' kvs kds := ⟨r.1, fun i v d h1 h2 => (r.2 i v d h1 h2).ext e⟩
theorem RepP.val {k : κ} : ∀ {kvs : List (κ × V)} {kds : List (κ × D)}, RepP K H M kvs kds → (∀ d, valD kds k = some d → ∃ v, valV kvs k = some v ∧ Rep K H M v d) ∧ (valD kds k = none → valV kvs k = none)
  | kvs, [], q => by rw [q.nil']; exact ⟨fun d h => by simp [valD] at h, fun _ => valV_nil⟩
  | kvs, p :: kds, q => by
    obtain ⟨v, r, rfl, rv, rr⟩ := q.inv
    have ih := RepP.val (k := k) rr
    unfold valD
    by_cases e : p.1 = k
    · rw [if_pos e, valV_pos (p := (p.1, v)) e]
      exact ⟨fun d h => by cases h; exact ⟨v, rfl, rv⟩, fun z => nomatch z⟩
    · rw [if_neg e, valV_neg (p := (p.1, v)) e]; exact ih
theorem putK_cons_pos {k : κ} {v w : V} {kvs : List (κ × V)} (h : valV kvs k = none) : putK ((k, v) :: kvs) k w = (k, w) :: kvs := by
  unfold putK
  have h1 : ((k, v) :: kvs).any (fun kv => decide (kv.1 = k)) = true := by simp
  rw [if_pos h1, List.map_cons, if_pos rfl]
  congr 1
  have : ∀ l : List (κ × V), valV l k = none → l.map (fun kv => if kv.1 = k then (kv.1, w) else kv) = l := by
    intro l
    induction l with
    | nil => intro _; rfl
    | cons p r ih =>
      intro hn
      by_cases e : p.1 = k
      · rw [valV_pos e] at hn; cases hn
      · rw [valV_neg e] at hn; rw [List.map_cons, if_neg e, ih hn]
  exact this kvs h
theorem putK_cons_neg {k : κ} {p : κ × V} {w : V} {kvs : List (κ × V)} (e : ¬ p.1 = k) : putK (p :: kvs) k w = p :: putK kvs k w := by
  unfold putK
  have h1 : (p :: kvs).any (fun kv => decide (kv.1 = k)) = kvs.any (fun kv => decide (kv.1 = k)) := by simp [e]
  rw [h1]
  split
  · rw [List.map_cons, if_neg e]
  · rfl
theorem valV_none_of {k : κ} {kvs : List (κ × V)} (h : k ∉ kvs.map (·.1)) : valV kvs k = none := by
  induction kvs with
  | nil => rfl
  | cons p r ih =>
    simp at h
    rw [valV_neg (fun z => h.1 z.symm)]
    exact ih (by simpa using h.2)
theorem RepP.put {k : κ} {w : V} {e : D} (re : Rep K H M w e) : ∀ {kvs : List (κ × V)} {kds : List (κ × D)}, (kvs.map (·.1)).Nodup → RepP K H M kvs kds → RepP K H M (putK kvs k w) (putKD k e kds)
  | kvs, [], _, q => by rw [q.nil']; exact RepP.cons re .nil
  | kvs, p :: kds, nd, q => by
    obtain ⟨v, r, rfl, rv, rr⟩ := q.inv
    rw [List.map_cons, List.nodup_cons] at nd
    have ih := RepP.put (k := k) re nd.2 rr
    unfold putKD
    by_cases h : p.1 = k
    · rw [if_pos h]
      have h' : valV r k = none := valV_none_of (by rw [← h]; exact nd.1)
      subst h
      rw [putK_cons_pos h']
      exact RepP.cons re rr
    · rw [if_neg h, putK_cons_neg h]
      exact RepP.cons rv ih
end
/-- keys of data -/
def keyOf : D → Option Key
  | .int i => some (.inl i)
  | .str x => some (.inr x)
  | _ => none
theorem keyOf_rep {K : KP} {H : Hp} {M : List Addr} {v : V} {d : D} {k : Key} (r : Rep K H M v d) (h : keyOf d = some k) : v = kV k := by
  cases r with
  | int i => simp [keyOf] at h; subst h; rfl
  | str x => simp [keyOf] at h; subst h; rfl
  | _ => simp [keyOf] at h
def keysOf : List D → Option (List Key)
  | [] => some []
  | d :: ds => match keyOf d, keysOf ds with
    | some k, some r => some (k :: r)
    | _, _ => none
theorem keysOf_rep {K : KP} {H : Hp} {M : List Addr} : ∀ {vs : List V} {ds : List D} {ks : List Key}, RepL K H M vs ds → keysOf ds = some ks → vs = ks.map kV
  | vs, [], ks, r, h => by simp [keysOf] at h; subst h; exact r.nil'
  | vs, d :: ds, ks, r, h => by
    obtain ⟨v, vs', rfl, rv, rs⟩ := r.head
    unfold keysOf at h
    split at h
    · rename_i k r hk hs
      cases h
      rw [keyOf_rep rv hk, keysOf_rep rs hs]; rfl
    · cases h
/-- a tuple's keys -/
def tkeyOf : D → Option (List Key)
  | .tup ds => keysOf ds
  | _ => none
theorem tkeyOf_rep {K : KP} {H : Hp} {M : List Addr} {v : V} {d : D} {ks : List Key} (r : Rep K H M v d) (h : tkeyOf d = some ks) : ∃ b, v = .ref b ∧ H b = some (.tup (ks.map kV)) := by
  cases r with
  | tup e hm hl hi => exact ⟨_, rfl, by rw [← keysOf_rep ⟨hl, hi⟩ h]; exact e⟩
  | _ => simp [tkeyOf] at h
/-- d.get by key, as data -/
def lookD (o k : D) : Option (Option D) := match o with
  | .dic kds => (keyOf k).map (valD kds)
  | .dit kds => (tkeyOf k).map (valD kds)
  | _ => none
theorem lookD_ok {K : KP} {H : Hp} {M : List Addr} {τ : List D} {x y : V} {o k : D} {r : Option D} (S : Sto K H M τ) (rx : Rep K H M x o) (ry : Rep K H M y k) (h : lookD (der τ o) k = some r) :
    ∃ a ov, x = .ref a ∧ DGet H a y ov ∧ (∀ d, r = some d → ∃ v, ov = some v ∧ Rep K H M v d) ∧ (r = none → ov = none) := by
  unfold lookD at h
  split at h
  · rename_i kds ho
    obtain ⟨a, kvs, rfl, ha, rk⟩ := rep_dic rx S ho
    cases hk : keyOf k with
    | none => rw [hk] at h; cases h
    | some kk =>
      rw [hk] at h
      cases h
      rw [keyOf_rep ry hk]
      have q := RepP.val (k := kk) (show RepP K H M kvs kds from rk)
      exact ⟨a, _, rfl, DGet.k ha, q.1, q.2⟩
  · rename_i kds ho
    obtain ⟨a, kvs, rfl, ha, rk⟩ := rep_dit rx S ho
    cases hk : tkeyOf k with
    | none => rw [hk] at h; cases h
    | some kk =>
      rw [hk] at h
      cases h
      obtain ⟨b, rfl, hb⟩ := tkeyOf_rep ry hk
      have q := RepP.val (k := kk) (show RepP K H M kvs kds from rk)
      exact ⟨a, _, rfl, DGet.t ha hb, q.1, q.2⟩
  · cases h
section
variable {X : Cx} {E : XK}
theorem ix_dictD (hu : X.A.units + 1 < cLine) : IxR X (fun x y H Q => ∃ a v, x = .ref a ∧ DGet H a y (some v) ∧ Q v H) := by
  intro value slice pins s σ H x y v u Q I rx ry ⟨a, w, ex, g, q⟩ hs
  subst ex
  cases rx
  have hT := dict_typeIs I g
  unfold PyProof.Rows.subscriptTail
  refine wpAny_bind ?_
  rw [getitemInPython_of_ne hT.not_modules]
  refine wpAny_bind (wpAny_specialOf hT PySem.F.slot_dict_getitem.lookup ?_)
  have go : wpAny (model X.prog X.w) X.A (subscripted slice false (.ref a) u) (fun r s3 => wpAny (model X.prog X.w) X.A (letTemporaryGo value (.ref a) r >>= fun _ => pure r) (EP X pins σ Q) X.xe s3) X.xe s := by
    rw [hs]
    refine wpAny_operating (d_getItem hu I g ry fun w' s3 I3 rw' => ?_)
    exact wpAny_bind (wpAny_letTemporaryGo (wpAny_pure ⟨w, H, I3, rw', q⟩))
  first
    | exact wpAny_pure (wpAny_bind go)
    | exact wpAny_bind (wpAny_pure (wpAny_bind go))
    | exact wpAny_bind go
/-- o[i] -/
def pIx : Pr
  | [o, i], τ => match der τ o, der τ i with
    | .lst xs, .int j => (match atI xs j with
      | some d => .ok d τ
      | none => .bad)
    | .tup xs, .int j => (match atI xs j with
      | some d => .ok d τ
      | none => .bad)
    | .frt xs, .int j => (match atI xs j with
      | some d => .ok d τ
      | none => .bad)
    | .str x, .int j => if x.length ≤ cap then (match atI x.cps.toList j with
      | some c => .ok (.str ⟨#[c]⟩) τ
      | none => .bad) else .bad
    | _, _ => (match lookD (der τ o) i with
      | some (some d) => .ok d τ
      | _ => .bad)
  | _, _ => .bad
theorem atI_rep {K : KP} {H : Hp} {M : List Addr} {vs : List V} {ds : List D} {j : Int} {d : D} (r : RepL K H M vs ds) (h : atI ds j = some d) : ∃ v, atI vs j = some v ∧ Rep K H M v d := by
  unfold atI at h ⊢
  rw [r.1]
  cases q : ixN ds.length j with
  | none => rw [q] at h; cases h
  | some k => rw [q] at h; exact r.get h
theorem o_ix (hu : X.A.units + 1 < cLine) : OpX X E pIx := IxR.any fun x y H Q h => by
  obtain ⟨P, M, τ, d, e, S, rx, ry, p⟩ := rp2 h
  unfold pIx at p
  simp only at p
  split at p
  · rename_i xs j ho hj
    split at p
    · rename_i r hr
      obtain ⟨a, vs, rfl, ha, ra⟩ := rep_lst rx S ho
      obtain ⟨v, hv, rv⟩ := atI_rep ra hr
      exact ⟨_, ix_list, a, vs, j, v, rfl, rep_int ry S hj, SqL.of ha, hv, Post.here p S v rv⟩
    · exact p.elim
  · rename_i xs j ho hj
    split at p
    · rename_i r hr
      obtain ⟨a, vs, rfl, ha, ra⟩ := rep_tup rx S ho
      obtain ⟨v, hv, rv⟩ := atI_rep ra hr
      exact ⟨_, ix_tup, a, vs, j, v, rfl, rep_int ry S hj, SqT.of ha, hv, Post.here p S v rv⟩
    · exact p.elim
  · rename_i xs j ho hj
    split at p
    · rename_i r hr
      obtain ⟨a, vs, rfl, ha, ra⟩ := rep_frt rx S ho
      obtain ⟨v, hv, rv⟩ := atI_rep ra hr
      exact ⟨_, ix_tup, a, vs, j, v, rfl, rep_int ry S hj, ha, hv, Post.here p S v rv⟩
    · exact p.elim
  · rename_i z j ho hj
    split at p
    · rename_i hz
      split at p
      · rename_i c hc
        exact ⟨_, ix_str, z, j, c, rep_str rx S ho, rep_int ry S hj, cap_line hz, hc, Post.here p S _ (.str _)⟩
      · exact p.elim
    · exact p.elim
  · split at p
    · rename_i r hr
      obtain ⟨a, ov, rfl, g, h1, _⟩ := lookD_ok S rx ry hr
      obtain ⟨v, rfl, rv⟩ := h1 r rfl
      exact ⟨_, ix_dictD hu, a, v, rfl, g, Post.here p S v rv⟩
    · exact p.elim
/-- o[i] = v -/
def pSet : Pr
  | [.cell c, i, v], τ => match τ[c]? with
    | some (.lst xs) => (match der τ i with
      | .int j => (match ixN xs.length j with
        | some k => .ok .non (τ.set c (.lst (xs.set k v)))
        | none => .bad)
      | _ => .bad)
    | some (.dic kds) => (match keyOf i with
      | some k => if kds.length < cap then .ok .non (τ.set c (.dic (putKD k v kds))) else .bad
      | none => .bad)
    | some (.dit kds) => (match tkeyOf i with
      | some k => if kds.length < cap then .ok .non (τ.set c (.dit (putKD k v kds))) else .bad
      | none => .bad)
    | _ => .bad
  | _, _ => .bad
theorem set_dictD (hu : X.A.units + 1 < cLine) : PSet X (fun o i v H Q => ∃ a H4, o = .ref a ∧ DPut H a i v H4 ∧ Q H4) := by
  intro pins s σ H o i v ov iv u Q I ro ri rv ⟨a, H4, eo, g, q⟩
  subst eo
  cases ro
  exact d_setItem hu I g ri rv fun s' I' => ⟨H4, I', q⟩
/-- keys of a tracked dict differ -/
theorem dK_nodup {pins : List (Addr × Obj)} {s : Shared} {σ : St} {H : Hp} {a : Addr} {kvs : List (Key × V)} (I : Inv X pins σ H s) (h : H a = some (.dK kvs)) : (kvs.map (·.1)).Nodup := by
  obtain ⟨_, _, vs, r, dd⟩ := dk_of I.hok h
  rw [r.keys]
  obtain ⟨_, _, _, _, _, _, _, _, nd⟩ := dd
  exact nd
theorem dT_nodup {pins : List (Addr × Obj)} {s : Shared} {σ : St} {H : Hp} {a : Addr} {kvs : List (List Key × V)} (I : Inv X pins σ H s) (h : H a = some (.dT kvs)) : (kvs.map (·.1)).Nodup := by
  obtain ⟨_, _, xs, r, _, _, _, _, _, _, _, nd⟩ := I.hok a _ h
  have keys : ∀ {l : List (List Key × V)} {ys : List (List Key × Addr × Value)}, Paired (fun (p : List Key × V) (q : List Key × Addr × Value) => p.1 = q.1 ∧ H q.2.1 = some (.tup (p.1.map kV)) ∧ RelV p.2 q.2.2) l ys → l.map (·.1) = ys.map (·.1) := by
    intro l ys r
    induction r with
    | nil => rfl
    | cons h _ ih => rw [List.map_cons, List.map_cons, h.1, ih]
  rw [keys r]; exact nd
theorem Post.wr {K : KP} {E : XK} {H : Hp} {M : List Addr} {τ : List D} {c : Nat} {a : Addr} {o : HO} {d r : D} {v : V} {Q : VK} (p : Post K E H M (.ok r (τ.set c d)) fun H' M' _ d => ∀ v, Rep K H' M' v d → Q v H') (S : Sto K H M τ) (h : M[c]? = some a) (cd : Cel K (upd H a o) M a d) (rv : Rep K (upd H a o) M v r) : Q v (upd H a o) :=
  p _ M (Ext.wr (List.mem_of_getElem? h)) (S.wr h cd) v rv
theorem o_set (hu : X.A.units + 1 < cLine) : OpS X E pSet := by
  intro pins s σ H o i v ov iv u Q I ro ri rv h
  obtain ⟨P, M, τ, d, e, f, S, r1, r2, r3, p⟩ := rp3 h
  unfold pSet at p
  cases r1 with
  | @cell c a hc =>
    simp only at p
    split at p
    · rename_i xs hx
      obtain ⟨vs, ha, ra⟩ := S.at_ c a _ hc hx
      split at p
      · rename_i j hj
        split at p
        · rename_i k hk
          refine set_list pins s σ H _ i v ov iv u Q I ro ri rv ⟨a, vs, j, k, rfl, rep_int r2 S hj, ha, by rw [ra.1]; exact hk, ?_⟩
          exact p.wr S hc ⟨_, upd_same, (ra.set k r3).ext (Ext.wr (List.mem_of_getElem? hc))⟩ (v := .non) .non
        · exact p.elim
      · exact p.elim
    · rename_i kds hx
      obtain ⟨kvs, ha, ra⟩ := S.at_ c a _ hc hx
      split at p
      · rename_i k hk
        split at p
        · rename_i hz
          refine set_dictD hu pins s σ H _ i v ov iv u Q I ro ri rv ⟨a, _, rfl, by rw [keyOf_rep r2 hk]; exact DPut.k ha (by rw [RepP.len ra]; exact cap_lt hz (Nat.le_refl _)), ?_⟩
          exact p.wr S hc ⟨_, upd_same, (RepP.put r3 (dK_nodup I ha) ra).ext (Ext.wr (List.mem_of_getElem? hc))⟩ (v := .non) .non
        · exact p.elim
      · exact p.elim
    · rename_i kds hx
      obtain ⟨kvs, ha, ra⟩ := S.at_ c a _ hc hx
      split at p
      · rename_i k hk
        split at p
        · rename_i hz
          obtain ⟨b, rfl, hb⟩ := tkeyOf_rep r2 hk
          refine set_dictD hu pins s σ H _ _ v ov iv u Q I ro ri rv ⟨a, _, rfl, DPut.t ha hb (by rw [RepP.len ra]; exact cap_lt hz (Nat.le_refl _)), ?_⟩
          exact p.wr S hc ⟨_, upd_same, (RepP.put r3 (dT_nodup I ha) ra).ext (Ext.wr (List.mem_of_getElem? hc))⟩ (v := .non) .non
        · exact p.elim
      · exact p.elim
    · exact p.elim
  | _ => exact p.elim
/-! ### methods of built-in types -/
def isT (T : String) : D → Bool
  | .lst _ => T == "list"
  | .frl _ => T == "list"
  | .dic _ => T == "dict"
  | .dit _ => T == "dict"
  | .str _ => T == "str"
  | .int _ => T == "int"
  | _ => false
theorem isT_ty {K : KP} {H : Hp} {M : List Addr} {τ : List D} {v : V} {d : D} {T : String} (r : Rep K H M v d) (S : Sto K H M τ) (h : isT T (der τ d) = true) : tyV K.k T v H := by
  cases q : der τ d with
  | lst xs =>
    rw [q] at h
    obtain ⟨a, vs, rfl, ha, _⟩ := rep_lst r S q
    exact .inl ⟨by simpa [isT] using h, vs, SqL.of ha⟩
  | frl xs =>
    rw [q] at h
    obtain ⟨a, vs, rfl, ha, _⟩ := rep_frl r S q
    exact .inl ⟨by simpa [isT] using h, vs, ha⟩
  | dic kds =>
    rw [q] at h
    obtain ⟨a, vs, rfl, ha, _⟩ := rep_dic r S q
    exact .inr (.inr (.inl ⟨by simpa [isT] using h, .inl ⟨vs, ha⟩⟩))
  | dit kds =>
    rw [q] at h
    obtain ⟨a, vs, rfl, ha, _⟩ := rep_dit r S q
    exact .inr (.inr (.inl ⟨by simpa [isT] using h, .inr ⟨vs, ha⟩⟩))
  | str x => rw [q] at h; rw [rep_str r S q]; exact (show T = "str" by simpa [isT] using h)
  | int x => rw [q] at h; rw [rep_int r S q]; exact (show T = "int" by simpa [isT] using h)
  | _ => rw [q] at h; simp [isT] at h
def dBM (T : String) (g : Pr) (fo : DE) (fs : List DE) : DE := fun δ τ => (fo δ τ).bind fun d τ1 => if isT T (der τ1 d) = true then (dArgs fs δ τ1).bind fun ds τ2 => g (d :: ds) τ2 else .bad
def OpM (X : Cx) (E : XK) (id : String) (g : Pr) : Prop := MtR X id (fun x xs H Q => rP X.K E g (x :: xs) H Q)
variable {o e : Expr} {es : List Expr} {fo : DE} {fs : List DE} {name : Str} {apos cpos : Pos} {T id : String} {g : Pr}
theorem de_bm0 (pa : PlainAttrs T) (slot : Slot T name id) (hty : typeOf (.builtin id) = pure (.type "method_descriptor")) (hm : OpM X E id g) (ho : PE X o (tE X.K E fo))
    (hbase : attributeBase o name X.env (eval o X.env) = eval o X.env := by rfl) (hline : (apos.endLine == cpos.line) = true := by rfl) : PE X (.Call (.Attribute o name apos) [] [] cpos) (tE X.K E (dBM T g fo [])) := by
  refine (pe_bm0 pa slot hty hm ho hbase hline).imp fun σ H Q ⟨P, M, δ, τ, n, S, p⟩ => ⟨P, M, δ, τ, n, S, ?_⟩
  refine (Post.bind p).mono fun H1 M1 τ1 d _ e1 S1 p1 v rv => ?_
  split at p1
  · rename_i ht
    exact ⟨isT_ty rv S1 ht, P, M1, τ1, [d], S1, .cons rv .nil, p1⟩
  · exact p1.elim
theorem de_bm (pa : PlainAttrs T) (slot : Slot T name id) (hty : typeOf (.builtin id) = pure (.type "method_descriptor")) (hm : OpM X E id g) (ho : PE X o (tE X.K E fo)) (ha : PA X (e :: es) (tA X.K E fs))
    (hbase : attributeBase o name X.env (eval o X.env) = eval o X.env := by rfl)
    (hfew : ((backTo cpos (starEach (e :: es) X.env)).all (fun x => !x.1) && (backToKw cpos (keywordEach [] X.env)).all (fun x => x.1.isSome)
      && decide ((e :: es).length + ([] : List Keyword).length + (if ([] : List Keyword).isEmpty then 0 else 1) < 30)) = true := by rfl)
    (hline : (apos.endLine == cpos.line) = true := by rfl) (hs : starEach (e :: es) X.env = (false, eval e X.env) :: starEach es X.env := by rfl) (hplain : (backTo cpos (starEach es X.env)).any (·.1) = false := by rfl) :
    PE X (.Call (.Attribute o name apos) (e :: es) [] cpos) (tE X.K E (dBM T g fo fs)) := by
  refine (pe_bm pa slot hty hm ho ha hbase hfew hline hs hplain).imp fun σ H Q ⟨P, M, δ, τ, n, S, p⟩ => ⟨P, M, δ, τ, n, S, ?_⟩
  refine (Post.bind p).mono fun H1 M1 τ1 d _ e1 S1 p1 v rv => ?_
  split at p1
  · rename_i ht
    refine ⟨isT_ty rv S1 ht, P, M1, δ, τ1, n.ext e1, S1, ?_⟩
    exact (Post.bind p1).mono fun H2 M2 τ2 ds _ e2 S2 p2 vs rs => ⟨P, M2, τ2, d :: ds, S2, .cons (rv.ext e2) rs, p2⟩
  · exact p1.elim
/-- what a cell of a list is -/
def pAppend : Pr
  | [.cell c, y], τ => match τ[c]? with
    | some (.lst xs) => if xs.length < cap then .ok .non (τ.set c (.lst (xs ++ [y]))) else .bad
    | _ => .bad
  | _, _ => .bad
theorem rpm {K : PySem.W.Frag} {g : Pr} {x : V} {xs : List V} {H : Hp} {Q : VK} (h : rP K E g (x :: xs) H Q) : ∃ P M τ d ds, Sto ⟨K, P⟩ H M τ ∧ Rep ⟨K, P⟩ H M x d ∧ RepL ⟨K, P⟩ H M xs ds ∧ Post ⟨K, P⟩ E H M (g (d :: ds) τ) fun H' M' _ d => ∀ v, Rep ⟨K, P⟩ H' M' v d → Q v H' := by
  obtain ⟨P, M, τ, ds, S, r, p⟩ := h
  match ds, r with
  | d :: ds, r =>
    obtain ⟨v, vs, ee, q, q2⟩ := r.head
    cases ee
    exact ⟨P, M, τ, d, ds, S, q, q2, p⟩
  | [], r => exact absurd r.1 (by simp)
theorem m_append : OpM X E "list.append" pAppend := MtR.any fun x xs H Q h => by
  obtain ⟨P, M, τ, d, ds, S, rx, rs, p⟩ := rpm h
  match d, ds, p with
  | .cell c, [y], p =>
    obtain ⟨v, rfl, rv⟩ := rs.one
    unfold pAppend at p
    simp only at p
    split at p
    · rename_i ys hy
      split at p
      · rename_i hz
        cases rx with
        | @cell _ a hc =>
          obtain ⟨vs, ha, ra⟩ := S.at_ c a _ hc hy
          exact ⟨_, mt_append, a, vs, v, rfl, rfl, ha, by rw [ra.1]; exact cap_lt hz (Nat.le_refl _), p.wr S hc ⟨_, upd_same, (ra.append (.cons rv .nil)).ext (Ext.wr (List.mem_of_getElem? hc))⟩ .non⟩
      · exact p.elim
    · exact p.elim
  | .cell c, [], p => exact p.elim
  | .cell c, _ :: _ :: _, p => exact p.elim
/-- xs.pop(), xs.pop(i) -/
def pPop : Pr
  | [.cell c], τ => match τ[c]? with
    | some (.lst xs) => (match xs[xs.length - 1]? with
      | some y => .ok y (τ.set c (.lst xs.dropLast))
      | none => .bad)
    | _ => .bad
  | [.cell c, i], τ => match τ[c]?, der τ i with
    | some (.lst xs), .int j => if 0 ≤ j ∧ j < 1000000000 then (match xs[j.toNat]? with
      | some y => .ok y (τ.set c (.lst (xs.eraseIdx j.toNat)))
      | none => .bad) else .bad
    | _, _ => .bad
  | _, _ => .bad
theorem RepL.dropLast {K : KP} {H : Hp} {M : List Addr} {vs : List V} {ds : List D} (r : RepL K H M vs ds) : RepL K H M vs.dropLast ds.dropLast := by
  rw [List.dropLast_eq_take, List.dropLast_eq_take, r.1]; exact r.take _
theorem m_pop : OpM X E "list.pop" pPop := MtR.any fun x xs H Q h => by
  obtain ⟨P, M, τ, d, ds, S, rx, rs, p⟩ := rpm h
  match d, ds, p with
  | .cell c, [], p =>
    cases rs.nil'
    unfold pPop at p
    simp only at p
    split at p
    · rename_i ys hy
      split at p
      · rename_i y hyy
        cases rx with
        | @cell _ a hc =>
          obtain ⟨vs, ha, ra⟩ := S.at_ c a _ hc hy
          obtain ⟨v, hv, rv⟩ := ra.get hyy
          have wr : Ext H M (upd H a (.lst vs.dropLast)) M := Ext.wr (List.mem_of_getElem? hc)
          exact ⟨_, mt_pop, a, vs, v, rfl, rfl, ha, by rw [ra.1]; exact hv, p.wr S hc ⟨_, upd_same, ra.dropLast.ext wr⟩ (rv.ext wr)⟩
      · exact p.elim
    · exact p.elim
  | .cell c, [i], p =>
    obtain ⟨u, rfl, ru⟩ := rs.one
    unfold pPop at p
    simp only at p
    split at p
    · rename_i ys j hy hj
      split at p
      · rename_i hz
        split at p
        · rename_i y hyy
          cases rx with
          | @cell _ a hc =>
            obtain ⟨vs, ha, ra⟩ := S.at_ c a _ hc hy
            obtain ⟨v, hv, rv⟩ := ra.get hyy
            have wr : Ext H M (upd H a (.lst (vs.eraseIdx j.toNat))) M := Ext.wr (List.mem_of_getElem? hc)
            have hl : j.toNat < vs.length := (List.getElem?_eq_some_iff.mp hv).1
            refine ⟨_, mt_popAt, a, vs, j, j.toNat, v, rfl, by rw [rep_int ru S hj], ha, by omega, by omega, ?_, hv, p.wr S hc ⟨_, upd_same, (ra.eraseIdx _).ext wr⟩ (rv.ext wr)⟩
            exact (ixN_seq (show ixN vs.length j = some j.toNat by unfold ixN; rw [if_pos hz.1, if_pos (by omega)])).1
        · exact p.elim
      · exact p.elim
    · exact p.elim
  | .cell c, _ :: _ :: _, p => exact p.elim
end
end DL

namespace DL
open PySem L2

section
variable {X : Cx} {E : XK} {e o f k1 : Expr} {es : List Expr} {fo fa fb : DE} {fs : List DE} {pos p2 apos cpos : Pos} {lo hi : Option Expr}
/-! ### slices -/
abbrev DO := DEnv → List D → R (Option Int)
def tO (K : PySem.W.Frag) (E : XK) (f : DO) : TO := fun σ H Q => ∃ P M δ τ, EnvD ⟨K, P⟩ H M σ δ ∧ Sto ⟨K, P⟩ H M τ ∧ Post ⟨K, P⟩ E H M (f δ τ) fun H' _ _ b => Q b H'
def dNoPart : DO := fun _ τ => .ok none τ
def dPart (f : DE) : DO := fun δ τ => (f δ τ).bind fun d τ' => match der τ' d with
  | .int i => .ok (some i) τ'
  | _ => .bad
theorem _root_.L2.PO.imp {e : Option Expr} {t t' : TO} (h : PO X e t) (k : ∀ σ H Q, t' σ H Q → t σ H Q) : PO X e t' := ⟨fun pins s σ H Q I q => h.run pins s σ H Q I (k σ H Q q)⟩
theorem dpo_none : PO X none (tO X.K E dNoPart) := L2.PO.imp po_none fun σ H Q ⟨P, M, δ, τ, n, S, p⟩ => Post.here p S
theorem dpo_some (h : PE X e (tE X.K E fa)) : PO X (some e) (tO X.K E (dPart fa)) := L2.PO.imp (po_some h) fun σ H Q ⟨P, M, δ, τ, n, S, p⟩ => by
  refine ⟨P, M, δ, τ, n, S, ?_⟩
  refine (Post.bind p).mono fun H1 M1 τ1 d _ e1 S1 p1 v rv => ?_
  split at p1
  · rename_i i hi
    exact ⟨i, rep_int rv S1 hi, Post.here p1 S1⟩
  · exact p1.elim
def cutD (xs : List D) (lo hi : Option Int) : List D := (xs.drop (HT.sIx xs.length 0 lo)).take (HT.sIx xs.length xs.length hi - HT.sIx xs.length 0 lo)
/-- x[lo:hi] -/
def dSl (c : Bool) (fo : DE) (l h : DO) : DE := fun δ τ => (fo δ τ).bind fun d τ1 => (l δ τ1).bind fun a τ2 => (h δ τ2).bind fun b τ3 => match der τ3 d with
  | .lst xs => newL c (cutD xs a b) τ3
  | .frl xs => newL c (cutD xs a b) τ3
  | .tup xs => if HT.sIx xs.length 0 a = 0 ∧ HT.sIx xs.length xs.length b = xs.length then .bad else .ok (.tup (cutD xs a b)) τ3
  | _ => .bad
theorem RepL.cut {K : KP} {H : Hp} {M : List Addr} {vs : List V} {ds : List D} (r : RepL K H M vs ds) (a b : Option Int) : RepL K H M (cutV vs a b) (cutD ds a b) := by
  unfold cutV cutD
  rw [r.1]
  exact (r.drop _).take _
theorem SlR.any {r' : V → Option Int → Option Int → Hp → VK → Prop} (h : ∀ x a b H Q, r' x a b H Q → ∃ r, SlR X r ∧ r x a b H Q) : SlR X r' := fun pins s σ H x v vl vu lo hi sl Q I rx hs pl pu q => by
  obtain ⟨r, hr, q⟩ := h x lo hi H Q q
  exact hr pins s σ H x v vl vu lo hi sl Q I rx hs pl pu q
def rSlD (K : PySem.W.Frag) (E : XK) (c : Bool) : V → Option Int → Option Int → Hp → VK → Prop := fun x a b H Q => ∃ P M τ d, Sto ⟨K, P⟩ H M τ ∧ Rep ⟨K, P⟩ H M x d ∧ Post ⟨K, P⟩ E H M (match der τ d with
  | .lst xs => newL c (cutD xs a b) τ
  | .frl xs => newL c (cutD xs a b) τ
  | .tup xs => if HT.sIx xs.length 0 a = 0 ∧ HT.sIx xs.length xs.length b = xs.length then .bad else .ok (.tup (cutD xs a b)) τ
  | _ => .bad) fun H' M' _ d => ∀ v, Rep ⟨K, P⟩ H' M' v d → Q v H'
theorem sl_any {c : Bool} : SlR X (rSlD X.K E c) := SlR.any fun x a b H Q ⟨P, M, τ, d, S, rx, p⟩ => by
  split at p
  · rename_i xs hx
    obtain ⟨q, vs, rfl, ha, ra⟩ := rep_lst rx S hx
    exact ⟨_, sl_list, q, vs, rfl, SqL.of ha, p.newL S (ra.cut a b)⟩
  · rename_i xs hx
    obtain ⟨q, vs, rfl, ha, ra⟩ := rep_frl rx S hx
    exact ⟨_, sl_list, q, vs, rfl, ha, p.newL S (ra.cut a b)⟩
  · rename_i xs hx
    split at p
    · exact p.elim
    · rename_i hn
      obtain ⟨q, vs, rfl, ha, ra⟩ := rep_tup rx S hx
      exact ⟨_, sl_tup, q, vs, rfl, SqT.of ha, by rw [ra.1]; exact hn, p.newT S (ra.cut a b)⟩
  · exact p.elim
theorem de_slice {c : Bool} {fl fh : DO} (he : PE X e (tE X.K E fo)) (hl : PO X lo (tO X.K E fl)) (hh : PO X hi (tO X.K E fh)) : PE X (.Subscript e (.Slice lo hi none p2) pos) (tE X.K E (dSl c fo fl fh)) := by
  refine (pe_slice (sl_any (E := E) (c := c)) he hl hh).imp fun σ H Q ⟨P, M, δ, τ, n, S, p⟩ => ⟨P, M, δ, τ, n, S, ?_⟩
  refine (Post.bind p).mono fun H1 M1 τ1 d _ e1 S1 p1 v rv => ⟨P, M1, δ, τ1, n.ext e1, S1, ?_⟩
  refine (Post.bind p1).mono fun H2 M2 τ2 a _ e2 S2 p2 => ⟨P, M2, δ, τ2, (n.ext e1).ext e2, S2, ?_⟩
  exact (Post.bind p2).mono fun H3 M3 τ3 b _ e3 S3 p3 => ⟨P, M3, τ3, d, S3, (rv.ext e2).ext e3, p3⟩
/-- x[::-1] -/
def dRev (c : Bool) (fo : DE) : DE := fun δ τ => (fo δ τ).bind fun d τ1 => match der τ1 d with
  | .lst xs => newL c xs.reverse τ1
  | _ => .bad
theorem de_rev {c : Bool} {k : Nat} {q1 q2 q3 : Pos} (he : PE X e (tE X.K E fo)) : PE X (.Subscript e (.Slice none none (some (.UnaryOp .USub (.Constant (.int 1) k q1) q2)) q3) pos) (tE X.K E (dRev c fo)) := by
  refine (pe_revL he).imp fun σ H Q ⟨P, M, δ, τ, n, S, p⟩ => ⟨P, M, δ, τ, n, S, ?_⟩
  refine (Post.bind p).mono fun H1 M1 τ1 d _ e1 S1 p1 v rv => ?_
  split at p1
  · rename_i xs hx
    obtain ⟨q, vs, rfl, ha, ra⟩ := rep_lst rv S1 hx
    exact ⟨q, vs, rfl, SqL.of ha, Post.newL p1 S1 ra.reverse⟩
  · exact p1.elim

/-! ### d.get(k, x) -/
def dGet2 (fo fa fb : DE) : DE := fun δ τ => (fo δ τ).bind fun o τ1 => match der τ1 o with
  | .dic _ => (fa δ τ1).bind fun k τ2 => (fb δ τ2).bind fun z τ3 => (match lookD (der τ3 o) k with
    | some r => .ok (r.getD z) τ3
    | none => .bad)
  | .dit _ => (fa δ τ1).bind fun k τ2 => (fb δ τ2).bind fun z τ3 => (match lookD (der τ3 o) k with
    | some r => .ok (r.getD z) τ3
    | none => .bad)
  | _ => .bad
theorem de_get2 (hu : X.A.units + 1 < cLine) (ho : PE X o (tE X.K E fo)) (he : PE X e (tE X.K E fa)) (hf : PE X f (tE X.K E fb)) (m : M2 X o "get" apos e f cpos := by exact ⟨rfl, rfl, rfl, rfl⟩) :
    PE X (.Call (.Attribute o "get" apos) [e, f] [] cpos) (tE X.K E (dGet2 fo fa fb)) := by
  refine (pe_dget2 hu ho he hf m).imp fun σ H Q ⟨P, M, δ, τ, n, S, p⟩ => ⟨P, M, δ, τ, n, S, ?_⟩
  refine (Post.bind p).mono fun H1 M1 τ1 d _ e1 S1 p1 v rv => ?_
  have go : ∀ a, v = .ref a → IsD H1 a → Post ⟨X.K, P⟩ E H1 M1 ((fa δ τ1).bind fun k τ2 => (fb δ τ2).bind fun z τ3 => (match lookD (der τ3 d) k with
    | some r => .ok (r.getD z) τ3
    | none => .bad)) (fun H' M' _ d => ∀ v, Rep ⟨X.K, P⟩ H' M' v d → Q v H') →
      ∃ a, v = .ref a ∧ IsD H1 a ∧ tE X.K E fa σ H1 fun y H2 => tE X.K E fb σ H2 fun z H3 => ∃ o, DGet H3 a y o ∧ Q (o.getD z) H3 := fun a ea hd p1 => by
    refine ⟨a, ea, hd, P, M1, δ, τ1, n.ext e1, S1, ?_⟩
    refine (Post.bind p1).mono fun H2 M2 τ2 k _ e2 S2 p2 y ry => ⟨P, M2, δ, τ2, (n.ext e1).ext e2, S2, ?_⟩
    refine (Post.bind p2).mono fun H3 M3 τ3 z _ e3 S3 p3 w rw' => ?_
    split at p3
    · rename_i r hr
      obtain ⟨b, ov, eb, g, h1, h2⟩ := lookD_ok S3 ((rv.ext e2).ext e3) (ry.ext e3) hr
      rw [ea] at eb
      cases eb
      refine ⟨ov, g, ?_⟩
      cases r with
      | none => rw [h2 rfl]; exact Post.here p3 S3 _ rw'
      | some d' =>
        obtain ⟨u, hu', ru⟩ := h1 d' rfl
        rw [hu']; exact Post.here p3 S3 _ ru
    · exact p3.elim
  split at p1
  · rename_i kds hd
    obtain ⟨a, kvs, ea, ha, _⟩ := rep_dic rv S1 hd
    exact go a ea (.inl ⟨kvs, .inl ha⟩) p1
  · rename_i kds hd
    obtain ⟨a, kvs, ea, ha, _⟩ := rep_dit rv S1 hd
    exact go a ea (.inr ⟨kvs, .inl ha⟩) p1
  · exact p1.elim

/-! ### {} and {k: v, ..}: cells -/
def dDicC : DE := fun _ τ => .ok (.cell τ.length) (τ ++ [.dic []])
def dDitC : DE := fun _ τ => .ok (.cell τ.length) (τ ++ [.dit []])
theorem de_dicC : PE X (.Dict [] [] pos) (tE X.K E dDicC) := pe_dnewK.imp fun σ H Q ⟨P, M, δ, τ, n, S, p⟩ q hq =>
  p _ _ (Ext.newC hq) (S.newC hq ⟨[], upd_same, rfl, fun i v d h => by simp at h⟩) _ (rep_last S)
theorem de_ditC : PE X (.Dict [] [] pos) (tE X.K E dDitC) := pe_dnewT.imp fun σ H Q ⟨P, M, δ, τ, n, S, p⟩ q hq =>
  p _ _ (Ext.newC hq) (S.newC hq ⟨[], upd_same, rfl, fun i v d h => by simp at h⟩) _ (rep_last S)
def pairArgs : List (DE × DE) → List DE
  | [] => []
  | (k, v) :: r => k :: v :: pairArgs r
def toPairs : List D → Option (List (Key × D))
  | [] => some []
  | k :: v :: r => match keyOf k, toPairs r with
    | some k, some r => some ((k, v) :: r)
    | _, _ => none
  | _ => none
def mergeD (kds : List (Key × D)) : List (Key × D) → List (Key × D)
  | [] => kds
  | p :: r => mergeD (putKD p.1 p.2 kds) r
def dDispC (fs : List (DE × DE)) : DE := fun δ τ => (dArgs (pairArgs fs) δ τ).bind fun ds τ' => match toPairs ds with
  | some kds => if kds.length ≤ 15 then .ok (.cell τ'.length) (τ' ++ [.dic (mergeD [] kds)]) else .bad
  | none => .bad
def unfl : List V → List (V × V)
  | a :: b :: r => (a, b) :: unfl r
  | _ => []
theorem pairs_of : ∀ {fs : List (DE × DE)} {σ : St} {H : Hp} {P : List Addr} {M : List Addr} {δ : DEnv} {τ : List D} {R : List (V × V) → Hp → Prop}, EnvD ⟨X.K, P⟩ H M σ δ → Sto ⟨X.K, P⟩ H M τ →
    Post ⟨X.K, P⟩ E H M (dArgs (pairArgs fs) δ τ) (fun H' M' τ' ds => ∀ vs, Sto ⟨X.K, P⟩ H' M' τ' → Ext H M H' M' → RepL ⟨X.K, P⟩ H' M' vs ds → R (unfl vs) H') → tPairs (fs.map fun p => (tE X.K E p.1, tE X.K E p.2)) σ H R
  | [], σ, H, P, M, δ, τ, R, n, S, p => Post.here (a := []) p S [] S (Ext.refl _ _) .nil
  | (fk, fv) :: fs, σ, H, P, M, δ, τ, R, n, S, p => by
    refine ⟨P, M, δ, τ, n, S, ?_⟩
    have p : Post ⟨X.K, P⟩ E H M ((fk δ τ).bind fun d τ1 => ((fv δ τ1).bind fun e τ2 => (dArgs (pairArgs fs) δ τ2).bind fun ds τ3 => .ok (e :: ds) τ3).bind fun ds τ2 => .ok (d :: ds) τ2) _ := p
    refine p.bind.mono fun H1 M1 τ1 d _ e1 S1 p1 v rv => ⟨P, M1, δ, τ1, n.ext e1, S1, ?_⟩
    refine p1.bind.bind.mono fun H2 M2 τ2 e _ e2 S2 p2 u ru => ?_
    refine pairs_of ((n.ext e1).ext e2) S2 ?_
    refine (Post.bind p2).mono fun H3 M3 τ3 ds _ e3 S3 p3 vs _ _ rs => ?_
    exact Post.here (Post.here p3 S3) S3 (v :: u :: vs) S3 ((e1.trans e2).trans e3) (.cons ((rv.ext e2).ext e3) (.cons (ru.ext e3) rs))
theorem toPairs_rep {K : KP} {H : Hp} {M : List Addr} : ∀ {ds : List D} {kds : List (Key × D)} {vs : List V}, toPairs ds = some kds → RepL K H M vs ds → ∃ kvs : List (Key × V), unfl vs = kvs.map (fun kv => (kV kv.1, kv.2)) ∧ RepP K H M kvs kds
  | [], kds, vs, h, r => by simp [toPairs] at h; subst h; rw [r.nil']; exact ⟨[], rfl, .nil⟩
  | [_], kds, vs, h, r => by simp [toPairs] at h
  | k :: d :: ds, kds, vs, h, r => by
    unfold toPairs at h
    split at h
    · rename_i kk r' hk hr
      cases h
      obtain ⟨v, vs', rfl, rv, rs⟩ := r.head
      obtain ⟨u, vs', rfl, ru, rs⟩ := rs.head
      obtain ⟨kvs, h1, h2⟩ := toPairs_rep hr rs
      exact ⟨(kk, u) :: kvs, by rw [keyOf_rep rv hk]; simp [unfl, h1], .cons ru h2⟩
    · cases h
theorem putK_nodup {κ : Type} [DecidableEq κ] {kvs : List (κ × V)} (nd : (kvs.map (·.1)).Nodup) (k : κ) (v : V) : ((putK kvs k v).map (·.1)).Nodup := by
  unfold putK
  split
  · rw [List.map_map]
    have : ((fun (x : κ × V) => x.1) ∘ fun kv => if kv.1 = k then (kv.1, v) else kv) = fun x => x.1 := by
      funext x
      show (if x.1 = k then (x.1, v) else x).1 = x.1
      split <;> rfl
    rw [this]; exact nd
  · rename_i h
    rw [List.map_append, List.nodup_append]
    refine ⟨nd, by simp, fun x hx y hy z => ?_⟩
    simp at hy
    subst hy; subst z
    apply h
    rw [List.any_eq_true]
    obtain ⟨q, hq, e⟩ := List.mem_map.mp hx
    exact ⟨q, hq, by simp [e]⟩
theorem merge_rep {K : KP} {H : Hp} {M : List Addr} : ∀ {more : List (Key × V)} {mds : List (Key × D)} {kvs : List (Key × V)} {kds : List (Key × D)}, (kvs.map (·.1)).Nodup → RepP K H M more mds → RepP K H M kvs kds → RepP K H M (mergeK kvs more) (mergeD kds mds)
  | more, [], kvs, kds, nd, r, q => by rw [r.nil']; exact q
  | more, p :: mds, kvs, kds, nd, r, q => by
    obtain ⟨v, r', rfl, rv, rr⟩ := r.inv
    exact merge_rep (kvs := putK kvs p.1 v) (kds := putKD p.1 p.2 kds) (putK_nodup nd p.1 v) rr (RepP.put rv nd q)
theorem Rep.leave {k : PySem.W.Frag} {P : List Addr} {L : Addr} {H : Hp} {M : List Addr} {o : HO} {v : V} {d : D} (r : Rep ⟨k, L :: P⟩ H M v d) : Rep ⟨k, P⟩ (upd H L o) (M ++ [L]) v d := by
  have ne : ∀ a, a ∉ L :: P → a ≠ L := fun a ha z => ha (by rw [z]; exact List.mem_cons_self)
  have nm : ∀ a, a ∉ M ∧ a ∉ L :: P → a ∉ M ++ [L] ∧ a ∉ P := fun a ha => ⟨fun z => (List.mem_append.mp z).elim ha.1 fun q => ne a ha.2 (List.mem_singleton.mp q), fun z => ha.2 (List.mem_cons_of_mem _ z)⟩
  induction r with
  | non => exact .non
  | bl b => exact .bl b
  | int i => exact .int i
  | str x => exact .str x
  | raw v => exact .raw v
  | cell h => exact .cell (by rw [List.getElem?_append_left (List.getElem?_eq_some_iff.mp h).1]; exact h)
  | lst h hm hl _ ih => exact .lst (by rw [upd_ne (ne _ hm.2)]; exact h) (nm _ hm) hl ih
  | frl h hl _ ih =>
    refine .frl ?_ hl ih
    rcases h with ⟨h | ⟨o, h⟩, hm⟩ | h
    · exact .inl ⟨.inl (by rw [upd_ne (ne _ hm.2)]; exact h), nm _ hm⟩
    · exact .inl ⟨.inr ⟨o, by rw [upd_ne (ne _ hm.2)]; exact h⟩, nm _ hm⟩
    · exact .inr h
  | tup h hm hl _ ih => exact .tup (by rw [upd_ne (ne _ hm.2)]; exact h) (nm _ hm) hl ih
  | frt h hl _ ih =>
    refine .frt ?_ hl ih
    rcases h with ⟨h | ⟨o, h⟩, hm⟩ | h
    · exact .inl ⟨.inl (by rw [upd_ne (ne _ hm.2)]; exact h), nm _ hm⟩
    · exact .inl ⟨.inr ⟨o, by rw [upd_ne (ne _ hm.2)]; exact h⟩, nm _ hm⟩
    · exact .inr h
  | dic h hm hk _ ih => exact .dic (by rw [upd_ne (ne _ hm.2)]; exact h) (nm _ hm) hk ih
  | dicT h hm hk _ ih => exact .dicT (by rw [upd_ne (ne _ hm.2)]; exact h) (nm _ hm) hk ih
  | obj h hm hk _ ih => exact .obj (by rw [upd_ne (ne _ hm.2)]; exact h) (nm _ hm) hk ih
theorem Sto.leave {k : PySem.W.Frag} {P : List Addr} {L : Addr} {H : Hp} {M : List Addr} {o : HO} {τ : List D} {d : D} (S : Sto ⟨k, L :: P⟩ H M τ) (hL : L ∉ P) (c : Cel ⟨k, P⟩ (upd H L o) (M ++ [L]) L d) : Sto ⟨k, P⟩ (upd H L o) (M ++ [L]) (τ ++ [d]) := by
  have hLM : L ∉ M := (S.prot L List.mem_cons_self).2
  refine ⟨by simp [S.len], ?_, fun a ha => ?_, fun j a e h1 h2 => ?_⟩
  · rw [List.nodup_append]
    exact ⟨S.nd, by simp, fun x hx y hy z => by rw [List.mem_singleton.mp hy] at z; subst z; exact hLM hx⟩
  · have hne : a ≠ L := fun z => hL (z ▸ ha)
    obtain ⟨h1, h2⟩ := S.prot a (List.mem_cons_of_mem _ ha)
    exact ⟨by rw [upd_ne hne]; exact h1, fun z => (List.mem_append.mp z).elim h2 fun q => hne (List.mem_singleton.mp q)⟩
  · by_cases hj : j < M.length
    · rw [List.getElem?_append_left hj] at h1
      rw [List.getElem?_append_left (S.len ▸ hj)] at h2
      have c' := S.at_ j a e h1 h2
      have hne : a ≠ L := fun z => hLM (z ▸ List.mem_of_getElem? h1)
      cases e with
      | lst ds => obtain ⟨vs, q, r⟩ := c'; exact ⟨vs, by rw [upd_ne hne]; exact q, r.1, fun i v d h1 h2 => (r.2 i v d h1 h2).leave⟩
      | dic ds => obtain ⟨vs, q, r⟩ := c'; exact ⟨vs, by rw [upd_ne hne]; exact q, r.1, fun i v d h1 h2 => (r.2 i v d h1 h2).leave⟩
      | dit ds => obtain ⟨vs, q, r⟩ := c'; exact ⟨vs, by rw [upd_ne hne]; exact q, r.1, fun i v d h1 h2 => (r.2 i v d h1 h2).leave⟩
      | obj C ds => obtain ⟨dx, vs, q, r⟩ := c'; exact ⟨dx, vs, by rw [upd_ne hne]; exact q, r.1, fun i v d h1 h2 => (r.2 i v d h1 h2).leave⟩
      | _ => exact c'.elim
    · have hj' : j = M.length := by
        have := (List.getElem?_eq_some_iff.mp h1).1
        rw [List.length_append, List.length_singleton] at this; omega
      subst hj'
      rw [List.getElem?_append_right (Nat.le_refl _), Nat.sub_self] at h1
      rw [S.len, List.getElem?_append_right (Nat.le_refl _), Nat.sub_self] at h2
      simp at h1 h2; subst h1 h2; exact c
theorem Ext.addC {H H' : Hp} {M M' : List Addr} {L : Addr} (e : Ext H M H' M') (hL : H L = none) : Ext H M H' (M' ++ [L]) := by
  obtain ⟨⟨N, rfl, hN⟩, k, l⟩ := e
  refine ⟨⟨N ++ [L], by rw [List.append_assoc], fun a ha => ?_⟩, k, l⟩
  rcases List.mem_append.mp ha with z | z
  · exact hN a z
  · rw [List.mem_singleton.mp z]; exact hL
theorem de_dispC {keys : List (Option Expr)} {values : List Expr} {fs : List (DE × DE)} (h : PPs X pos keys values (fs.map fun p => (tE X.K E p.1, tE X.K E p.2))) (hall : keys.all (·.isSome) = true := by rfl) (hl : keys.length = values.length := by rfl) (h0 : keys ≠ [] := by exact fun z => nomatch z)
    (h15 : keys.length ≤ 15 := by decide) : PE X (.Dict keys values pos) (tE X.K E (dDispC fs)) := by
  refine (pe_disp h hall hl h0 h15).imp fun σ H Q ⟨P, M, δ, τ, n, S, p⟩ L hL => ?_
  have pr : Prot P (L :: P) H := fun a ha => (List.mem_cons.mp ha).elim (fun z => .inr (z ▸ hL)) .inl
  have hLP : L ∉ P := fun z => (S.prot L z).1 hL
  have e0 : Ext H M (upd H L (.dK [])) M := Ext.new hL
  refine pairs_of (P := L :: P) ((n.prot pr).ext e0) (S.enter hL) ?_
  have p : Post ⟨X.K, P⟩ E H M ((dArgs (pairArgs fs) δ τ).bind fun ds τ' => match toPairs ds with
    | some kds => if kds.length ≤ 15 then R.ok (D.cell τ'.length) (τ' ++ [.dic (mergeD [] kds)]) else R.bad
    | none => R.bad) _ := p
  revert p
  cases hr : dArgs (pairArgs fs) δ τ with
  | bad => exact fun p => p.elim
  | exn C gs τ' =>
    intro p H' M' d fvs e S' hd rf
    have hLP' : Prot (L :: P) P H' := fun a ha => .inl (List.mem_cons_of_mem _ ha)
    exact p H' M' d fvs (e0.trans e) (S'.prots hLP' fun a ha => S'.prot a (List.mem_cons_of_mem _ ha)) hd ⟨rf.1, fun i v d h1 h2 => (rf.2 i v d h1 h2).prot hLP'⟩
  | ok ds τ' =>
    intro p H1 M1 e1 S1 vs _ _ rs
    rw [R.bind_ok] at p
    split at p
    · rename_i kds hk
      split at p
      · rename_i hz
        obtain ⟨kvs, h1, h2⟩ := toPairs_rep hk rs
        have hLM : L ∉ M := (S.new hL).1
        have hLM1 : L ∉ M1 := (S1.prot L List.mem_cons_self).2
        refine ⟨e1.keep L _ hLM upd_same, kvs, h1, by rw [h2.len]; exact hz, ?_⟩
        have cc : Cel ⟨X.K, P⟩ (upd H1 L (.dK (mergeK [] kvs))) (M1 ++ [L]) L (.dic (mergeD [] kds)) := by
          have q := merge_rep (kvs := []) (kds := []) (by simp) h2 (RepP.nil (K := ⟨X.K, L :: P⟩))
          exact ⟨_, upd_same, q.1, fun i v d h1 h2 => (q.2 i v d h1 h2).leave⟩
        have S2 := S1.leave (o := .dK (mergeK [] kvs)) hLP cc
        refine p _ _ (((e0.trans e1).wrN hL).addC hL) S2 _ (.cell ?_)
        rw [← S1.len, List.getElem?_append_right (Nat.le_refl _), Nat.sub_self]; rfl
      · exact p.elim
    · exact p.elim
end
end DL

namespace DL
open PySem L2

/-! ### data without dicts and objects -/
mutual
def toP : D → Option PyData
  | .non => some .none
  | .bl b => some (.bool b)
  | .int i => some (.int i)
  | .str x => some (.str x)
  | .lst xs => (toPs xs).map .list
  | .frl xs => (toPs xs).map .list
  | .tup xs => (toPs xs).map .tuple
  | .frt xs => (toPs xs).map .tuple
  | .dic _ => none
  | .dit _ => none
  | .obj _ _ => none
  | .cell _ => none
  | .raw _ => none
def toPs : List D → Option (List PyData)
  | [] => some []
  | d :: ds => (toP d).bind fun p => (toPs ds).map (p :: ·)
end
theorem toPs_get : ∀ {ds : List D} {ps : List PyData}, toPs ds = some ps → ds.length = ps.length ∧ ∀ (i : Nat) (d : D) (p : PyData), ds[i]? = some d → ps[i]? = some p → toP d = some p
  | [], ps, h => by simp [toPs] at h; subst h; exact ⟨rfl, fun i d e h => by simp at h⟩
  | d :: ds, ps, h => by
    unfold toPs at h
    cases q : toP d with
    | none => rw [q] at h; simp at h
    | some d' =>
      rw [q] at h
      cases q2 : toPs ds with
      | none => rw [q2] at h; simp at h
      | some es' =>
        rw [q2] at h
        simp at h; subst h
        obtain ⟨h1, h2⟩ := toPs_get q2
        refine ⟨by simp [h1], fun i x y e1 e2 => ?_⟩
        cases i with
        | zero => simp at e1 e2; subst e1 e2; exact q
        | succ i => exact h2 i x y (by simpa using e1) (by simpa using e2)
section
variable {K : KP} {H : Hp} {M : List Addr} {v : V} {d : D}
theorem dpAll_of {K : PySem.W.Frag} {H : Hp} : ∀ {vs : List V} {ps : List PyData}, vs.length = ps.length → (∀ (i : Nat) (v : V) (p : PyData), vs[i]? = some v → ps[i]? = some p → Dp K H v p) → DpAll K H vs ps
  | [], [], _, _ => .nil
  | [], _ :: _, h, _ => by simp at h
  | _ :: _, [], h, _ => by simp at h
  | v :: vs, p :: ps, h, hi => .cons (hi 0 v p rfl rfl) (dpAll_of (by simpa using h) fun i v p h1 h2 => hi (i + 1) v p (by simpa using h1) (by simpa using h2))
theorem Rep.dp (r : Rep K H M v d) : ∀ p, toP d = some p → Dp K.k H v p := by
  have many : ∀ {vs : List V} {ds : List D} {ps : List PyData}, vs.length = ds.length → (∀ (i : Nat) (v : V) (d : D), vs[i]? = some v → ds[i]? = some d → ∀ p, toP d = some p → Dp K.k H v p) → toPs ds = some ps → DpAll K.k H vs ps := fun {vs ds ps} hl ih h => by
    obtain ⟨h1, h2⟩ := toPs_get h
    refine dpAll_of (hl.trans h1) fun i v p e1 e2 => ?_
    have hi : i < ds.length := by rw [h1]; exact (List.getElem?_eq_some_iff.mp e2).1
    exact ih i v ds[i] e1 (by simp [hi]) p (h2 i _ p (by simp [hi]) e2)
  induction r with
  | non => intro p h; simp [toP] at h; subst h; exact .non
  | bl b => intro p h; simp [toP] at h; subst h; exact .bl b
  | int i => intro p h; simp [toP] at h; subst h; exact .int i
  | str x => intro p h; simp [toP] at h; subst h; exact .str x
  | raw v => intro p h; simp [toP] at h
  | cell h => intro p h; simp [toP] at h
  | lst h hm hl hi ih => intro p hp; simp [toP] at hp; obtain ⟨ps, h1, rfl⟩ := hp; exact .lst (SqL.of h) (many hl ih h1)
  | frl h hl hi ih => intro p hp; simp [toP] at hp; obtain ⟨ps, h1, rfl⟩ := hp; exact .lst h.sq (many hl ih h1)
  | tup h hm hl hi ih => intro p hp; simp [toP] at hp; obtain ⟨ps, h1, rfl⟩ := hp; exact .tup (SqT.of h) (many hl ih h1)
  | frt h hl hi ih => intro p hp; simp [toP] at hp; obtain ⟨ps, h1, rfl⟩ := hp; exact .tup h.sq (many hl ih h1)
  | dic h hm hk hi ih => intro p hp; simp [toP] at hp
  | dicT h hm hk hi ih => intro p hp; simp [toP] at hp
  | obj h hm hk hi ih => intro p hp; simp [toP] at hp
theorem RepL.dps {vs : List V} {ds : List D} (r : RepL K H M vs ds) {ps : List PyData} (h : toPs ds = some ps) : DpAll K.k H vs ps := by
  obtain ⟨h1, h2⟩ := toPs_get h
  refine dpAll_of (r.1.trans h1) fun i v p e1 e2 => ?_
  have hi : i < ds.length := by rw [h1]; exact (List.getElem?_eq_some_iff.mp e2).1
  exact (r.2 i v ds[i] e1 (by simp [hi])).dp p (h2 i _ p (by simp [hi]) e2)
/-- .. with the cell opened -/
def toPC (τ : List D) (d : D) : Option PyData := toP (der τ d)
theorem Rep.dpC {τ : List D} (r : Rep K H M v d) (S : Sto K H M τ) {p : PyData} (h : toPC τ d = some p) : Dp K.k H v p := by
  unfold toPC at h
  rcases r.opened S with ⟨k, a, rfl, rfl, h1, h2, h3⟩ | q
  · revert h3 h
    cases der τ (.cell k) with
    | lst ds =>
      intro h h3
      simp [toP] at h
      obtain ⟨ps, h4, rfl⟩ := h
      obtain ⟨vs, h5, h6⟩ := h3
      exact .lst (SqL.of h5) (h6.dps h4)
    | dic ds => intro h; simp [toP] at h
    | dit ds => intro h; simp [toP] at h
    | obj C ds => intro h; simp [toP] at h
    | _ => intro _ h3; exact h3.elim
  · rw [q] at h; exact r.dp p h
end
section
variable {X : Cx} {E : XK}
/-! ### isinstance -/
def tyName : D → Option String
  | .non => some "NoneType"
  | .bl _ => some "bool"
  | .int _ => some "int"
  | .str _ => some "str"
  | .lst _ => some "list"
  | .tup _ => some "tuple"
  | .dic _ => some "dict"
  | .dit _ => some "dict"
  | _ => none
theorem ty_rep {K : KP} {H : Hp} {M : List Addr} {τ : List D} {v : V} {d : D} {a : String} (r : Rep K H M v d) (S : Sto K H M τ) (h : tyName (der τ d) = some a) : TyOf K.k H v (.type a) := by
  cases q : der τ d with
  | non => rw [q] at h; cases h; rw [rep_non r S q]; exact .non
  | bl b => rw [q] at h; cases h; rw [rep_bl r S q]; exact .bl b
  | int b => rw [q] at h; cases h; rw [rep_int r S q]; exact .int b
  | str b => rw [q] at h; cases h; rw [rep_str r S q]; exact .str b
  | lst xs => rw [q] at h; cases h; obtain ⟨a, vs, rfl, ha, _⟩ := rep_lst r S q; exact .lst ha
  | tup xs => rw [q] at h; cases h; obtain ⟨a, vs, rfl, ha, _⟩ := rep_tup r S q; exact .tup ha
  | dic xs => rw [q] at h; cases h; obtain ⟨a, vs, rfl, ha, _⟩ := rep_dic r S q; exact .dK ha
  | dit xs => rw [q] at h; cases h; obtain ⟨a, vs, rfl, ha, _⟩ := rep_dit r S q; exact .dT ha
  | _ => rw [q] at h; cases h
def isSub (a b : String) : Bool := a == b || (a == "bool" && b == "int")
def tyAs : List String := ["NoneType", "bool", "int", "str", "list", "tuple", "dict"]
def tyBs : List String := ["int", "bool", "str", "list", "tuple", "dict"]
theorem kit_tab : ∀ a ∈ tyAs, ∀ b ∈ tyBs, kitB a b = some (isSub a b) := by decide +kernel
def tyOfCls : D → Option String
  | .raw (.ty b) => if b ∈ tyBs then some b else none
  | _ => none
def tysOfCls : List D → Option (List String)
  | [] => some []
  | d :: ds => match tyOfCls d, tysOfCls ds with
    | some b, some bs => some (b :: bs)
    | _, _ => none
def pIsI : Pr
  | [x, c], τ => match tyName (der τ x), c with
    | some a, .raw (.ty b) => if a ∈ tyAs ∧ b ∈ tyBs then .ok (.bl (isSub a b)) τ else .bad
    | some a, .tup cs => (match tysOfCls cs with
      | some bs => if a ∈ tyAs then .ok (.bl (bs.any (isSub a))) τ else .bad
      | none => .bad)
    | _, _ => .bad
  | _, _ => .bad
theorem raw_rep {K : KP} {H : Hp} {M : List Addr} {v w : V} (r : Rep K H M v (.raw w)) : v = w := by cases r; rfl
theorem tys_rep {K : KP} {H : Hp} {M : List Addr} : ∀ {cs : List D} {bs : List String} {vs : List V}, tysOfCls cs = some bs → RepL K H M vs cs → Paired ClsV vs (bs.map Value.type) ∧ ∀ b ∈ bs, b ∈ tyBs
  | [], bs, vs, h, r => by simp [tysOfCls] at h; subst h; rw [r.nil']; exact ⟨.nil, fun b hb => nomatch hb⟩
  | d :: ds, bs, vs, h, r => by
    unfold tysOfCls at h
    split at h
    · rename_i b bs' hb hbs
      cases h
      obtain ⟨v, vs', rfl, rv, rs⟩ := r.head
      obtain ⟨h1, h2⟩ := tys_rep hbs rs
      unfold tyOfCls at hb
      split at hb
      · rename_i b'
        split at hb
        · rename_i hm
          cases hb
          rw [raw_rep rv]
          refine ⟨.cons (.ty _) h1, fun c hc => ?_⟩
          rcases List.mem_cons.mp hc with rfl | hc
          · exact hm
          · exact h2 c hc
        · cases hb
      · cases hb
    · cases h
theorem kitAny_tab {K : PySem.W.Frag} {a : String} (ha : a ∈ tyAs) : ∀ bs : List String, (∀ b ∈ bs, b ∈ tyBs) → PySem.W.kitAny K (.type a) (bs.map Value.type) = some (bs.any (isSub a))
  | [], _ => rfl
  | b :: bs, h => by
    have q : PySem.W.kitOne K (.type a) (.type b) = some (isSub a b) := kit_ty (kit_tab a ha b (h b List.mem_cons_self))
    have ih := kitAny_tab (K := K) ha bs fun c hc => h c (List.mem_cons_of_mem _ hc)
    rw [List.map_cons, List.any_cons]
    refine kitAny_cons q (fun e => ?_) (fun e => ?_)
    · rw [ih, e]; rfl
    · rw [e]; rfl
theorem o_isi : OpC X E (.builtin "isinstance") pIsI := CallR.any fun xs H Q h => by
  obtain ⟨P, M, τ, ds, S, r, p⟩ := h
  match ds, p with
  | [d, c], p =>
    obtain ⟨v, u, rfl, rv, ru⟩ := r.two
    unfold pIsI at p
    simp only at p
    split at p
    · rename_i a b ha
      split at p
      · rename_i hz
        rw [raw_rep ru]
        exact ⟨_, call_isi, v, .ty b, .type a, .type b, isSub a b, rfl, .ty b, .base (ty_rep rv S ha), kit_ty (kit_tab a hz.1 b hz.2), Post.here p S _ (.bl _)⟩
      · exact p.elim
    · rename_i a cs ha
      split at p
      · rename_i bs hbs
        split at p
        · rename_i hz
          obtain ⟨tp, us, rfl, ht, rt⟩ := rep_tup ru S rfl
          obtain ⟨h1, h2⟩ := tys_rep hbs rt
          exact ⟨_, call_isiT, v, tp, us, .type a, bs.map Value.type, _, rfl, ht, h1, .base (ty_rep rv S ha), kitAny_tab hz bs h2, Post.here p S _ (.bl _)⟩
        · exact p.elim
      · exact p.elim
    · exact p.elim
  | [], p => exact p.elim
  | [_], p => exact p.elim
  | _ :: _ :: _ :: _, p => exact p.elim
theorem de_bltn {x : Str} {w : V} {u : Value} {pos : Pos} (hm : X.mg x = none) (hv : bootBuiltins x = some u) (r : RelV w u) (hg : Gl X x := by rfl) (hn : x ≠ "__name__" := by decide) (hd : (x == ("__debug__" : Str)) = false := by decide) : PE X (.Name x pos) (tE X.K E (dC (.raw w))) :=
  de_c (pe_bltn hg hm hv r hn hd) fun _ _ _ => .raw w

/-! ### all, sum -/
def blsOf (τ : List D) : List D → Option (List Bool)
  | [] => some []
  | d :: ds => match der τ d, blsOf τ ds with
    | .bl i, some r => some (i :: r)
    | _, _ => none
theorem blsOf_rep {K : KP} {H : Hp} {M : List Addr} {τ : List D} (S : Sto K H M τ) : ∀ {ds : List D} {ns : List Bool} {vs : List V}, blsOf τ ds = some ns → RepL K H M vs ds → vs = ns.map V.bl
  | [], ns, vs, h, r => by simp [blsOf] at h; subst h; exact r.nil'
  | d :: ds, ns, vs, h, r => by
    obtain ⟨v, vs', rfl, rv, rs⟩ := r.head
    unfold blsOf at h
    split at h
    · rename_i i ns' hi hs
      cases h
      rw [rep_bl rv S hi, blsOf_rep S hs rs]; rfl
    · cases h
def pAll : Pr
  | [d], τ => match der τ d with
    | .lst xs => (match blsOf τ xs with
      | some bs => .ok (.bl (bs.all id)) τ
      | none => .bad)
    | _ => .bad
  | _, _ => .bad
theorem o_all (hc : X.calm = true) : OpC X E (.builtin "all") pAll := CallR.any fun xs H Q h => by
  obtain ⟨P, M, τ, ds, S, r, p⟩ := h
  match ds, p with
  | [d], p =>
    obtain ⟨v, rfl, rv⟩ := r.one
    unfold pAll at p
    simp only at p
    split at p
    · rename_i ys hx
      split at p
      · rename_i bs hb
        obtain ⟨a, vs, rfl, ha, ra⟩ := rep_lst rv S hx
        have ev := blsOf_rep S hb ra
        exact ⟨_, cr_all hc, a, bs, rfl, by rw [← ev]; exact SqL.of ha, Post.here p S _ (.bl _)⟩
      · exact p.elim
    · exact p.elim
  | [], p => exact p.elim
  | _ :: _ :: _, p => exact p.elim
def pSum : Pr
  | [d], τ => match der τ d with
    | .lst xs => (match intsOf τ xs with
      | some ns => .ok (.int ns.sum) τ
      | none => .bad)
    | _ => .bad
  | _, _ => .bad
theorem o_sum (hc : X.calm = true) : OpC X E (.builtin "sum") pSum := CallR.any fun xs H Q h => by
  obtain ⟨P, M, τ, ds, S, r, p⟩ := h
  match ds, p with
  | [d], p =>
    obtain ⟨v, rfl, rv⟩ := r.one
    unfold pSum at p
    simp only at p
    split at p
    · rename_i ys hx
      split at p
      · rename_i ns hb
        obtain ⟨a, vs, rfl, ha, ra⟩ := rep_lst rv S hx
        have ev := intsOf_rep S hb ra
        exact ⟨_, cr_sum hc, a, ns, rfl, by rw [← ev]; exact SqL.of ha, Post.here p S _ (.int _)⟩
      · exact p.elim
    · exact p.elim
  | [], p => exact p.elim
  | _ :: _ :: _, p => exact p.elim
/-- repr of an int -/
def pRepr : Pr
  | [d], τ => match der τ d with
    | .int i => if i.natAbs.log2 < 1920 then .ok (.str (toString i : String)) τ else .bad
    | _ => .bad
  | _, _ => .bad

/-! ### == -/
def pEq (neg : Bool) : Pr
  | [d, e], τ => match der τ d, der τ e with
    | .int i, .int j => .ok (.bl (if neg then !decide (i = j) else decide (i = j))) τ
    | .str i, .str j => .ok (.bl (if neg then !decide (i = j) else decide (i = j))) τ
    | .bl i, .bl j => .ok (.bl (if neg then !decide (i = j) else decide (i = j))) τ
    | .non, .non => .ok (.bl (!neg)) τ
    | _, _ => (match toPC τ d, toPC τ e with
      | some p, some q => if SeqAt.shaped p = true ∧ SeqAt.shaped q = true then .ok (.bl (if neg then !PyData.eqv p q else PyData.eqv p q)) τ else .bad
      | _, _ => .bad)
  | _, _ => .bad
theorem o_eq (hu : X.A.units + 64 < cLine) : Op2 X E (compareOp .Eq) (pEq false) := OpR.any fun x y H Q h => by
  obtain ⟨P, M, τ, d, e, S, rx, ry, p⟩ := rp2 h
  unfold pEq at p
  simp only at p
  split at p
  · rename_i i j hi hj
    rw [rep_int rx S hi, rep_int ry S hj]
    exact ⟨_, op_eq, rfl, by have := Post.here p S _ (.bl _); simpa using this⟩
  · rename_i i j hi hj
    rw [rep_str rx S hi, rep_str ry S hj]
    exact ⟨_, op_eq, rfl, by have := Post.here p S _ (.bl _); simpa using this⟩
  · rename_i i j hi hj
    rw [rep_bl rx S hi, rep_bl ry S hj]
    exact ⟨_, op_eq, rfl, by have := Post.here p S _ (.bl _); simpa using this⟩
  · rename_i hi hj
    rw [rep_non rx S hi, rep_non ry S hj]
    exact ⟨_, op_eq, rfl, by have := Post.here p S _ (.bl _); simpa using this⟩
  · split at p
    · rename_i a b ha hb
      split at p
      · rename_i hz
        exact ⟨_, op_eqD hu, a, b, rx.dpC S ha, ry.dpC S hb, hz.1, hz.2, by have := Post.here p S _ (.bl _); simpa using this⟩
      · exact p.elim
    · exact p.elim
theorem o_ne (hu : X.A.units + 64 < cLine) : Op2 X E (compareOp .NotEq) (pEq true) := OpR.any fun x y H Q h => by
  obtain ⟨P, M, τ, d, e, S, rx, ry, p⟩ := rp2 h
  unfold pEq at p
  simp only at p
  split at p
  · rename_i i j hi hj
    rw [rep_int rx S hi, rep_int ry S hj]
    exact ⟨_, op_ne, rfl, by have := Post.here p S _ (.bl _); simpa using this⟩
  · rename_i i j hi hj
    rw [rep_str rx S hi, rep_str ry S hj]
    exact ⟨_, op_ne, rfl, by have := Post.here p S _ (.bl _); simpa using this⟩
  · rename_i i j hi hj
    rw [rep_bl rx S hi, rep_bl ry S hj]
    exact ⟨_, op_ne, rfl, by have := Post.here p S _ (.bl _); simpa using this⟩
  · rename_i hi hj
    rw [rep_non rx S hi, rep_non ry S hj]
    exact ⟨_, op_ne, rfl, by have := Post.here p S _ (.bl _); simpa using this⟩
  · split at p
    · rename_i a b ha hb
      split at p
      · rename_i hz
        exact ⟨_, op_neD hu, a, b, rx.dpC S ha, ry.dpC S hb, hz.1, hz.2, by have := Post.here p S _ (.bl _); simpa using this⟩
      · exact p.elim
    · exact p.elim
end
end DL

namespace DL
open PySem L2
open PySem.W (dataLe AllAlike Sortable)

section
variable {X : Cx} {E : XK} {K : KP} {H : Hp} {M : List Addr}
theorem RepL.of_mem {α : Type} {f : α → V} {g : α → D} : ∀ {l : List α}, (∀ a ∈ l, Rep K H M (f a) (g a)) → RepL K H M (l.map f) (l.map g)
  | [], _ => .nil
  | a :: l, h => .cons (h a List.mem_cons_self) (RepL.of_mem fun b hb => h b (List.mem_cons_of_mem _ hb))
/-! ### sorted of a list of data -/
def sortD (xs : List D) (ps : List PyData) : List D := ((xs.zip ps).mergeSort (dataLe false (·.2))).map (·.1)
open Classical in
noncomputable def pSorted (c : Bool) : Pr
  | [d], τ => match der τ d with
    | .lst xs => (match toPs xs with
      | some ps => if xs.length ≤ cap ∧ AllAlike ps ∧ Sortable ps ∧ PyData.depthAll ps ≤ 60 then newL c (sortD xs ps) τ else .bad
      | none => .bad)
    | _ => .bad
  | _, _ => .bad
theorem depth_le : ∀ {ps : List PyData} {p : PyData}, p ∈ ps → p.depth ≤ PyData.depthAll ps
  | [], _, h => nomatch h
  | q :: ps, p, h => by
    simp only [PyData.depthAll]
    rcases List.mem_cons.mp h with rfl | h
    · exact Nat.le_max_left _ _
    · exact Nat.le_trans (depth_le h) (Nat.le_max_right _ _)
theorem dps_each {pins : List (Addr × Obj)} {s : Shared} {σ : St} (I : Inv X pins σ H s) : ∀ {vs : List V} {ps : List PyData} {us : List Value}, DpAll X.K H vs ps → Vals vs us → PySem.W.EachIs (fun (u : Value) (b : V × PyData) => RelV b.1 u ∧ ∃ as, Reads s.heap u b.2 as) us (vs.zip ps)
  | _, _, _, .nil, .nil => .nil
  | _, _, _, .cons d ds, .cons r rs => .cons ⟨r, Dp.reads I _ _ _ d r⟩ (dps_each I ds rs)
theorem each_vals {Rr : Value → V × PyData → Prop} (h : ∀ u b, Rr u b → RelV b.1 u) : ∀ {us : List Value} {bs : List (V × PyData)}, PySem.W.EachIs Rr us bs → Vals (bs.map (·.1)) us
  | _, _, .nil => .nil
  | _, _, .cons r rs => .cons (h _ _ r) (each_vals h rs)
/-- sorted(l) of data that are alike -/
def rSortD (K : PySem.W.Frag) : List V → Hp → VK → Prop := fun xs H Q => ∃ (a : Addr) (vs : List V) (ps : List PyData), xs = [.ref a] ∧ H a = some (.lst vs) ∧ DpAll K H vs ps ∧ vs.length ≤ cap ∧ AllAlike ps ∧ Sortable ps ∧ PyData.depthAll ps ≤ 60 ∧
  ∀ l, H l = none → Q (.ref l) (upd H l (.lst (((vs.zip ps).mergeSort (dataLe false (·.2))).map (·.1))))
theorem dps_len {K : PySem.W.Frag} : ∀ {vs : List V} {ps : List PyData}, DpAll K H vs ps → vs.length = ps.length
  | _, _, .nil => rfl
  | _, _, .cons _ h => by simp [dps_len h]
theorem cr_sortD (hu : X.A.units + 64 < cLine) : CallR X (.builtin "sorted") (rSortD X.K) := by
  intro pins s σ H xs us Q I r h
  obtain ⟨a, vs, ps, rfl, ha, hd, hz, hal, hso, hde, q⟩ := h
  obtain rfl := Vals.ref1 r
  obtain ⟨hlen, its, n, rv, hlen2, hob⟩ := I.lstM ha
  have hl : s.heap.IsList a its.toArray := ⟨_, hob, rfl, n, rfl⟩
  have he := dps_each I hd rv
  have eps : (vs.zip ps).map (·.2) = ps := List.map_snd_zip (by rw [dps_len hd]; exact Nat.le_refl _)
  have lz : (vs.zip ps).length = vs.length := by rw [List.length_zip, ← dps_len hd, Nat.min_self]
  refine PySem.W.sorted_data (β := V × PyData) (R := fun u b => RelV b.1 u ∧ ∃ as, Reads s.heap u b.2 as) (enc := (·.2)) hl he (he.mono fun _ _ z => z.2) (by rw [eps]; exact hal) (by rw [eps]; exact hso) (by rw [lz]; exact cap_line hz)
    (fun b hb => ?_) fun out ho1 ho2 => ?_
  · have : b.2 ∈ ps := by rw [← eps]; exact List.mem_map.mpr ⟨b, hb, rfl⟩
    have := depth_le this
    omega
  · obtain ⟨ep, he'⟩ := PyProof.Rows.sortedAll_at s.heap its out.toArray
    have rv2 := each_vals (fun _ _ z => z.1) ho2
    have hl2 : (((vs.zip ps).mergeSort (dataLe false (·.2))).map (·.1)).length ≤ sizeLine := by rw [List.length_map, List.length_mergeSort, lz]; exact cap_line hz
    exact ⟨.ref (s.heap.objs.size + 1), upd H (s.heap.objs.size + 1) (.lst _), I.laid (t' := s.toks) (fun _ _ => PyProof.Rows.sortedAll_old) (Nat.le_succ _) ⟨hl2, out, ep, rv2, he'⟩, rfl, q _ (I.hok.fresh (Nat.le_succ _))⟩
theorem sort_snd {α β γ : Type} {le : γ → γ → Bool} {l : List (α × β)} {f : β → γ} {g : α × β → γ} (h : ∀ x, g x = f x.2) : (l.mergeSort fun a b => le (g a) (g b)).map (·.2) = (l.map (·.2)).mergeSort fun a b => le (f a) (f b) :=
  PySem.W.sort_maps (r := fun a b => le (g a) (g b)) (s := fun a b => le (f a) (f b)) (·.2) fun a _ b _ => by simp only [h]
theorem zip3 {α β γ : Type} : ∀ (xs : List α) (ys : List β) (zs : List γ), (xs.zip (ys.zip zs)).map (fun t => (t.1, t.2.2)) = if xs.length = ys.length then xs.zip zs else (xs.zip (ys.zip zs)).map (fun t => (t.1, t.2.2)) := by
  intro xs
  induction xs with
  | nil => intro ys zs; cases ys <;> simp
  | cons x xs ih =>
    intro ys zs
    cases ys with
    | nil => simp
    | cons y ys =>
      cases zs with
      | nil => simp
      | cons z zs =>
        have := ih ys zs
        by_cases e : xs.length = ys.length
        · rw [if_pos e] at this; simp [e, this]
        · simp [e]
theorem o_sorted {c : Bool} (hu : X.A.units + 64 < cLine) : OpC X E (.builtin "sorted") (pSorted c) := CallR.any fun xs H Q h => by
  obtain ⟨P, M, τ, ds, S, r, p⟩ := h
  match ds, p with
  | [d], p =>
    obtain ⟨v, rfl, rv⟩ := r.one
    unfold pSorted at p
    simp only at p
    split at p
    · rename_i ys hx
      split at p
      · rename_i ps hps
        split at p
        · rename_i hz
          obtain ⟨a, vs, rfl, ha, ra⟩ := rep_lst rv S hx
          have hd := ra.dps hps
          refine ⟨_, cr_sortD hu, a, vs, ps, rfl, ha, hd, by rw [ra.1]; exact hz.1, hz.2.1, hz.2.2.1, hz.2.2.2, ?_⟩
          have l1 := ra.1
          have l2 := (toPs_get hps).1
          -- all three together
          have e1 : (vs.zip ps).mergeSort (dataLe false (·.2)) = ((vs.zip (ys.zip ps)).mergeSort (dataLe false (·.2.2))).map fun t => (t.1, t.2.2) := by
            have z := zip3 vs ys ps
            rw [if_pos l1] at z
            rw [← z]
            exact (PySem.W.sort_maps (r := dataLe false (fun t : V × D × PyData => t.2.2)) (s := dataLe false (fun t : V × PyData => t.2)) (fun t : V × D × PyData => (t.1, t.2.2)) (fun a _ b _ => rfl)).symm
          have e2 : (ys.zip ps).mergeSort (dataLe false (·.2)) = ((vs.zip (ys.zip ps)).mergeSort (dataLe false (·.2.2))).map fun t => t.2 := by
            have z : (vs.zip (ys.zip ps)).map (fun t => t.2) = ys.zip ps := List.map_snd_zip (by rw [List.length_zip]; omega)
            conv => lhs; rw [← z]
            exact (PySem.W.sort_maps (r := dataLe false (fun t : V × D × PyData => t.2.2)) (s := dataLe false (fun t : D × PyData => t.2)) (fun t : V × D × PyData => t.2) (fun a _ b _ => rfl)).symm
          have rr : RepL ⟨X.K, P⟩ H M (((vs.zip ps).mergeSort (dataLe false (·.2))).map (·.1)) (sortD ys ps) := by
            unfold sortD
            rw [e1, e2, List.map_map, List.map_map]
            refine RepL.of_mem (f := (fun t : V × PyData => t.1) ∘ fun t : V × D × PyData => (t.1, t.2.2)) (g := (fun t : D × PyData => t.1) ∘ fun t : V × D × PyData => t.2) fun t ht => ?_
            have ht := List.mem_mergeSort.mp ht
            obtain ⟨i, hi⟩ := List.mem_iff_getElem?.mp ht
            obtain ⟨h1, h2⟩ := List.getElem?_zip_eq_some.mp hi
            obtain ⟨h3, h4⟩ := List.getElem?_zip_eq_some.mp h2
            exact ra.2 i t.1 t.2.1 h1 h3
          exact p.newL S rr
        · exact p.elim
      · exact p.elim
    · exact p.elim
  | [], p => exact p.elim
  | _ :: _ :: _, p => exact p.elim

/-! ### sorted(d.items()), keys and values ints -/
def intPairs : List (Key × D) → Option (List (Int × Int))
  | [] => some []
  | (.inl k, .int v) :: r => (intPairs r).map ((k, v) :: ·)
  | _ => none
def leII (p q : Int × Int) : Bool := decide (p.1 < q.1 ∨ (p.1 = q.1 ∧ p.2 ≤ q.2))
def pairD (p : Int × Int) : D := .tup [.int p.1, .int p.2]
/-- the sorted pairs of a dict -/
def pSortIt : Pr
  | [d], τ => match der τ d with
    | .dic kds => (match intPairs kds with
      | some ks => if ks.length ≤ cap then .ok (.lst ((ks.mergeSort leII).map pairD)) τ else .bad
      | none => .bad)
    | _ => .bad
  | _, _ => .bad
theorem intPairs_rep : ∀ {kds : List (Key × D)} {ks : List (Int × Int)} {kvs : List (Key × V)}, intPairs kds = some ks → RepP K H M kvs kds → kvs = ks.map fun q => (Sum.inl q.1, V.int q.2)
  | [], ks, kvs, h, r => by simp [intPairs] at h; subst h; exact r.nil'
  | (.inl k, .int v) :: kds, ks, kvs, h, r => by
    unfold intPairs at h
    cases q : intPairs kds with
    | none => rw [q] at h; cases h
    | some ks' =>
      rw [q] at h
      cases h
      obtain ⟨v', r', rfl, rv, rr⟩ := r.inv
      cases rv
      rw [intPairs_rep q rr]; rfl
  | (.inr k, _) :: kds, ks, kvs, h, r => by simp [intPairs] at h
  | (.inl k, .non) :: kds, ks, kvs, h, r => by simp [intPairs] at h
  | (.inl k, .bl _) :: kds, ks, kvs, h, r => by simp [intPairs] at h
  | (.inl k, .str _) :: kds, ks, kvs, h, r => by simp [intPairs] at h
  | (.inl k, .lst _) :: kds, ks, kvs, h, r => by simp [intPairs] at h
  | (.inl k, .frl _) :: kds, ks, kvs, h, r => by simp [intPairs] at h
  | (.inl k, .tup _) :: kds, ks, kvs, h, r => by simp [intPairs] at h
  | (.inl k, .frt _) :: kds, ks, kvs, h, r => by simp [intPairs] at h
  | (.inl k, .dic _) :: kds, ks, kvs, h, r => by simp [intPairs] at h
  | (.inl k, .dit _) :: kds, ks, kvs, h, r => by simp [intPairs] at h
  | (.inl k, .obj _ _) :: kds, ks, kvs, h, r => by simp [intPairs] at h
  | (.inl k, .cell _) :: kds, ks, kvs, h, r => by simp [intPairs] at h
  | (.inl k, .raw _) :: kds, ks, kvs, h, r => by simp [intPairs] at h
def rItems : V → List V → Hp → VK → Prop := fun x xs H Q => ∃ (a : Addr) (kvs : List (Key × V)), x = .ref a ∧ xs = [] ∧ H a = some (.dK kvs) ∧ ∀ p, H p = none → Q (.ref p) (upd H p (DX.itemsO p a))
def rSortI : List V → Hp → VK → Prop := fun vs H Q => ∃ (p a : Addr) (ks : List (Int × Int)), vs = [.ref p] ∧ H p = some (DX.itemsO p a) ∧ H a = some (.dK (ks.map fun q => (Sum.inl q.1, V.int q.2))) ∧ ks.length ≤ cap ∧
  ∀ (H' : Hp) (l : Addr) (ps : List (Addr × Int × Int)), Same H H' → H l = none → H' l = some (.lst (ps.map fun z => V.ref z.1)) → ps.map (·.2) = ks.mergeSort leII → (∀ z ∈ ps, H z.1 = none ∧ H' z.1 = some (.tup [.int z.2.1, .int z.2.2])) → Q (.ref l) H'

theorem mt_itemsI : MtR X "dict.items" rItems := by
  intro pins s σ H x xs v us Q I rx rxs h
  obtain ⟨a, kvs, rfl, rfl, ha, q⟩ := h
  cases rx
  cases rxs
  obtain ⟨_, hd, vs, rel, dd⟩ := dk_of I.hok ha
  obtain ⟨o, es, ep, ho, hx, hdat, _⟩ := dd
  refine DT.callItems (es := es) (ep := ep) hd ⟨o, ho, hx, hdat⟩ ?_
  have hf : H s.heap.objs.size = none := I.hok.fresh (Nat.le_refl _)
  exact ⟨.ref s.heap.objs.size, upd H s.heap.objs.size (DX.itemsO s.heap.objs.size a), I.laid (t' := s.toks) (fun b u e => Heap.get?_push_of_some _ e) (Nat.le_refl _) (DX.itemsO_ok (Heap.get?_push_size _ rfl)), rfl, q _ hf⟩
abbrev encII (z : Addr × Int × Int) : PyData := .tuple [.int z.2.1, .int z.2.2]
theorem each_of {α β : Type} {Rr : α → β → Prop} {f : β → α} : ∀ {l : List β}, (∀ b ∈ l, Rr (f b) b) → PySem.W.EachIs Rr (l.map f) l
  | [], _ => .nil
  | b :: l, h => .cons (h b List.mem_cons_self) (each_of fun c hc => h c (List.mem_cons_of_mem _ hc))
theorem each_eq {α β : Type} {Rr : α → β → Prop} {f : β → α} (h : ∀ a b, Rr a b → a = f b) : ∀ {as : List α} {bs : List β}, PySem.W.EachIs Rr as bs → as = bs.map f
  | _, _, .nil => rfl
  | _, _, .cons r rs => by rw [List.map_cons, h _ _ r, each_eq h rs]
theorem alike_ii (ds : List PyData) (h : ∀ d ∈ ds, ∃ x y : Int, d = .tuple [.int x, .int y]) : AllAlike ds ∧ Sortable ds := by
  refine ⟨fun d hd e he => ?_, .inl fun d hd => ?_⟩
  · obtain ⟨x, y, rfl⟩ := h d hd
    obtain ⟨z, w, rfl⟩ := h e he
    rfl
  · obtain ⟨x, y, rfl⟩ := h d hd
    exact ⟨_, _, rfl⟩
theorem cr_sortII (hc : X.calm = true) (hu : X.A.units + 64 < cLine) : CallR X (.builtin "sorted") rSortI := by
  intro pins s σ H xs us Q I r h
  obtain ⟨p, a, ks, rfl, hp, ha, hz, q⟩ := h
  obtain rfl := Vals.ref1 r
  have view : s.heap.IsItemsView p a := (show ObjOk X.prog X.w H s.heap p (DX.itemsO p a) from I.hok p _ hp).1
  obtain ⟨_, hd, vs, rel, dd⟩ := dk_of I.hok ha
  obtain ⟨o, es, ep, ho, hx, hdat, _, hpp, _⟩ := dd
  have hsz : es.size = vs.length := by rw [← hpp.length]; simp
  have hen : ∀ i (hi : i < es.size) k v, vs[i]? = some (k, v) → (mixKind X.prog X.w).is k es[i].key = true ∧ es[i].val = v := fun i hi k v hk => hpp.get? (e := es[i]) (by simp [hi]) hk
  have l1 : ks.length = vs.length := by have := Paired.length rel; simpa using this
  have hh : X.A.handled = none := I.ok.hd hc
  refine DT.sortedI (es := es) (ep := ep) hh view ⟨o, ho, hx, hdat⟩ (by rw [hsz, ← l1]; exact cap_line hz) fun h' tk as hk hlt hl hG => ?_
  have lak : as.length = ks.length := by omega
  have nd : as.Nodup := List.Pairwise.imp (fun h => Nat.ne_of_lt h) hG.rise
  have pr : ∀ (j : Nat) (b : Addr), as[j]? = some b → ∃ (e : Int × Int) (t u : Tok), ks[j]? = some e ∧ h'.get? b = some { cls := .type "tuple", data := .seq #[Value.int e.1 t, Value.int e.2 u] } := by
    intro j b hj
    obtain ⟨en, he, hg⟩ := hG.pairs j b hj
    obtain ⟨hjs, ee⟩ := Array.getElem?_eq_some_iff.mp he
    have hjv : j < vs.length := by rw [← hsz]; exact hjs
    obtain ⟨e0, he0, r1, r2⟩ := DX.pget rel (j := j) (x := vs[j]) (by simp [hjv])
    rw [List.getElem?_map] at he0
    cases hkj : ks[j]? with
    | none => rw [hkj] at he0; cases he0
    | some e =>
      rw [hkj] at he0
      have e1 := Option.some.inj he0
      rw [← e1] at r1 r2
      obtain ⟨k1, k2⟩ := hen j hjs (vs[j]).1 (vs[j]).2 (by simp [hjv])
      rw [← r1] at k1
      rcases keyIs_shape (show keyIs (Sum.inl e.1) es[j].key = true from k1) with ⟨i, t, hi, hv⟩ | ⟨x, t, hi, _⟩
      · have hi' : e.1 = i := Sum.inl.inj hi
        obtain ⟨u, hu⟩ := r2
        refine ⟨e, t, u, rfl, ?_⟩
        rw [hg, ← ee, hv, k2, hu, hi']
      · exact nomatch hi
  have hob : (h'.push { cls := .type "list", data := .seq (as.map Value.ref).toArray }).get? h'.objs.size = some (PyProof.Rows.seqObj "list" (as.map Value.ref).toArray 0) := Heap.get?_push_size _ rfl
  have kb : ∀ b o, s.heap.get? b = some o → (h'.push { cls := .type "list", data := .seq (as.map Value.ref).toArray }).get? b = some o := fun b o e => Heap.get?_push_of_some _ (hk b o e)
  have ne0 : ∀ b o, h'.get? b = some o → b ≠ h'.objs.size := fun b o e => Nat.ne_of_lt (Heap.lt_size e)
  have ka : ∀ b o, h'.get? b = some o → (h'.push { cls := .type "list", data := .seq (as.map Value.ref).toArray }).get? b = some o := fun b o e => Heap.get?_push_of_some _ e
  generalize hh2 : h'.push { cls := .type "list", data := .seq (as.map Value.ref).toArray } = h2 at hob kb ka ⊢
  have zal : (as.zip ks).map (fun z => Value.ref z.1) = as.map Value.ref := by
    have m1 : (as.zip ks).map (·.1) = as := List.map_fst_zip (by rw [lak]; exact Nat.le_refl _)
    conv => rhs; rw [← m1, List.map_map]
    rfl
  have zk : (as.zip ks).map (·.2) = ks := List.map_snd_zip (by rw [lak]; exact Nat.le_refl _)
  have zin : ∀ z ∈ as.zip ks, ∃ t u, h'.get? z.1 = some { cls := .type "tuple", data := .seq #[Value.int z.2.1 t, Value.int z.2.2 u] } := by
    intro z hz'
    obtain ⟨j, hj⟩ := List.mem_iff_getElem?.mp hz'
    obtain ⟨j1, j2⟩ := List.getElem?_zip_eq_some.mp hj
    obtain ⟨e, t, u, he, hg⟩ := pr j z.1 j1
    have : e = z.2 := Option.some.inj (he.symm.trans j2)
    subst this
    exact ⟨t, u, hg⟩
  have E1 : PySem.W.EachIs (fun (v : Value) (z : Addr × Int × Int) => v = Value.ref z.1) (as.map Value.ref) (as.zip ks) := by rw [← zal]; exact each_of fun _ _ => rfl
  have E2 : PySem.W.EachIs (fun (v : Value) (z : Addr × Int × Int) => ∃ bs, Reads h2 v (encII z) bs ∧ h'.objs.size ∉ bs) (as.map Value.ref) (as.zip ks) := by
    rw [← zal]
    refine each_of fun z hz' => ?_
    obtain ⟨t, u, hg⟩ := zin z hz'
    exact ⟨[], .tuple (ka _ _ hg) rfl rfl (.cons (.int _ _) (.cons (.int _ _) .nil)), by simp⟩
  obtain ⟨al, so⟩ := alike_ii ((as.zip ks).map encII) fun d hd => by
    obtain ⟨z, _, rfl⟩ := List.mem_map.mp hd
    exact ⟨_, _, rfl⟩
  refine PySem.W.list_sort_data (s := { s with heap := h2, toks := tk }) (enc := encII) hob E1 E2 al so (by rw [List.length_zip, lak, Nat.min_self]; exact cap_line hz) (fun b hb => ?_) fun out o1 o2 => ?_
  · have e : (encII b).depth ≤ 3 := by simp [PyData.depth, PyData.depthAll]
    have e2 : X.A.in1.units ≤ X.A.units + 1 := Nat.le_refl _
    omega
  · have hout := each_eq (f := fun z : Addr × Int × Int => Value.ref z.1) (fun _ _ h => h) o2
    have hm : (((as.zip ks).mergeSort (dataLe false encII)).map (·.2)) = ks.mergeSort leII := by
      rw [PySem.W.sort_maps (s := leII) (fun z : Addr × Int × Int => z.2) fun x _ y _ => by rw [PySem.W.dataLe_ii (fun z : Addr × Int × Int => z.2.1) (fun z => z.2.2)]; rfl, zk]
    generalize hps : (as.zip ks).mergeSort (dataLe false encII) = ps at hout hm
    have hin : ∀ z ∈ ps, z ∈ as.zip ks := fun z hz' => by rw [← hps] at hz'; exact List.mem_mergeSort.mp hz'
    show EP X pins σ Q (.ref h'.objs.size) { s with heap := PyProof.Rows.sortedHeap h2 h'.objs.size (as.map Value.ref) (List.toArray out), toks := tk }
    have kF : ∀ b o, b ≠ h'.objs.size → h2.get? b = some o → (PyProof.Rows.sortedHeap h2 h'.objs.size (as.map Value.ref) (List.toArray out)).get? b = some o := fun b o hb e => (PyProof.Rows.sortedHeap_old hb (Heap.lt_size e)).trans e
    have kS : ∀ b o, s.heap.get? b = some o → (PyProof.Rows.sortedHeap h2 h'.objs.size (as.map Value.ref) (List.toArray out)).get? b = some o := fun b o e => kF b o (ne0 _ _ (hk b o e)) (kb b o e)
    obtain ⟨eF, heF⟩ := PyProof.Rows.sortedHeap_at (vs := as.map Value.ref) (out := List.toArray out) hob
    have I1 : Inv X pins σ H { s with heap := PyProof.Rows.sortedHeap h2 h'.objs.size (as.map Value.ref) (List.toArray out), toks := tk } := I.kept (t' := tk) kS
    have hn0 : H h'.objs.size = none := I.hok.fresh (Nat.le_of_lt hlt)
    have hlen : (ps.map fun z => V.ref z.1).length ≤ sizeLine := by
      have e := congrArg List.length hm
      rw [List.length_map, List.length_mergeSort] at e
      rw [List.length_map, e]; exact cap_line hz
    have rv : Vals (ps.map fun z => V.ref z.1) (List.toArray out).toList := by
      show Vals _ out
      rw [hout]
      exact vals_maps (fun z : Addr × Int × Int => V.ref z.1) (fun z => Value.ref z.1) ps fun _ _ => rfl
    have I2 : Inv X pins σ (upd H h'.objs.size (.lst (ps.map fun z => V.ref z.1))) { s with heap := PyProof.Rows.sortedHeap h2 h'.objs.size (as.map Value.ref) (List.toArray out), toks := tk } :=
      I1.take (h' := PyProof.Rows.sortedHeap h2 h'.objs.size (as.map Value.ref) (List.toArray out)) (t' := tk) (fun b ob _ e => e) (I.fpOk (Nat.le_of_lt hlt) hn0) ⟨hlen, out, eF, rv, heF⟩
    obtain ⟨H2, I3, g, qt⟩ := DX.takeT (P := fun b vs => ∃ (j : Nat) (e : Int × Int), as[j]? = some b ∧ ks[j]? = some e ∧ vs = [.int e.1, .int e.2]) I as _ I2 nd fun b hb => by
      obtain ⟨j, hj⟩ := List.mem_iff_getElem?.mp hb
      obtain ⟨e, t, u, he, hg⟩ := pr j b hj
      have hbl : s.heap.objs.size ≤ b := Nat.le_of_lt (hG.above b hb)
      refine ⟨hbl, ?_, [.int e.1, .int e.2], ⟨j, e, hj, he, rfl⟩, fun H3 => ⟨(by rw [sizeLine_eq]; show 2 ≤ 16777216; omega), [Value.int e.1 t, Value.int e.2 u], .cons ⟨t, rfl⟩ (.cons ⟨u, rfl⟩ .nil), ⟨_, kF _ _ (ne0 _ _ hg) (ka _ _ hg), rfl, 0, rfl⟩⟩⟩
      rw [upd_ne (ne0 _ _ hg)]
      exact I.hok.fresh hbl
    have gr : ∀ b o, H b = some o → H2 b = some o := fun b o e => g b o (by rw [upd_ne (ne_of_none e hn0)]; exact e)
    refine ⟨.ref h'.objs.size, H2, I3, rfl, q H2 h'.objs.size ps gr hn0 (g _ _ upd_same) hm fun z hz' => ?_⟩
    obtain ⟨i, hi⟩ := List.mem_iff_getElem?.mp (hin z hz')
    obtain ⟨i1, i2⟩ := List.getElem?_zip_eq_some.mp hi
    obtain ⟨vs', ⟨j, e, j1, j2, ev⟩, hH⟩ := qt z.1 (List.mem_of_getElem? i1)
    have eij : i = j := (List.getElem?_inj (List.getElem?_eq_some_iff.mp i1).1 nd).mp (i1.trans j1.symm)
    subst eij
    have ee : e = z.2 := Option.some.inj (j2.symm.trans i2)
    rw [ev, ee] at hH
    exact ⟨I.hok.fresh (Nat.le_of_lt (hG.above _ (List.mem_of_getElem? i1))), hH⟩
/-- sorted(o.items()), keys and values ints -/
def dSortIt (fo : DE) : DE := fun δ τ => (fo δ τ).bind fun d τ' => pSortIt [d] τ'
theorem de_sortIt {o : Expr} {fo : DE} {apos p1 p2 pos : Pos} (hc : X.calm = true) (hu : X.A.units + 64 < cLine) (hm : X.mg "sorted" = none) (ho : PE X o (tE X.K E fo)) (hg : Gl X "sorted" := by rfl)
    (hbase : attributeBase o "items" X.env (eval o X.env) = eval o X.env := by rfl) (hline : (apos.endLine == p1.line) = true := by rfl)
    (he : starEach [.Call (.Attribute o "items" apos) [] [] p1] X.env = (false, eval (.Call (.Attribute o "items" apos) [] [] p1) X.env) :: starEach [] X.env := by rfl) :
    PE X (.Call (.Name "sorted" p2) [.Call (.Attribute o "items" apos) [] [] p1] [] pos) (tE X.K E (dSortIt fo)) := by
  have h1 : PE X (.Call (.Attribute o "items" apos) [] [] p1) (tBM0 X.K "dict" rItems (tE X.K E fo)) := pe_bm0 PySem.F.plainAttrs_dict PySem.F.slot_dict_items (by rfl) mt_itemsI ho hbase hline
  refine (pe_callB (cr_sortII hc hu) hg hm rfl (pa_cons h1 pa_nil he)).imp fun σ H Q ⟨P, M, δ, τ, n, S, p⟩ => ?_
  refine ⟨P, M, δ, τ, n, S, (Post.bind p).mono fun H1 M1 τ1 d _ e1 S1 p1 v rv => ?_⟩
  unfold pSortIt at p1
  simp only at p1
  split at p1
  · rename_i kds hd
    split at p1
    · rename_i ks hks
      split at p1
      · rename_i hz
        obtain ⟨a, kvs, rfl, ha, rk⟩ := rep_dic rv S1 hd
        have ek := intPairs_rep hks (show RepP _ H1 M1 kvs kds from rk)
        refine ⟨?_, a, kvs, rfl, rfl, ha, fun q hq => ?_⟩
        · exact .inr (.inr (.inl ⟨rfl, .inl ⟨_, ha⟩⟩))
        · have ne : a ≠ q := fun z => by rw [z, hq] at ha; cases ha
          refine ⟨q, a, ks, rfl, upd_same, by rw [upd_ne ne, ha, ek], hz, fun H' l ps sm hl0 hl hps hz' => ?_⟩
          have S2 : Sto ⟨X.K, P⟩ (upd H1 q (DX.itemsO q a)) M1 τ1 := S1.same (Same.new hq)
          have S3 : Sto ⟨X.K, P⟩ H' M1 τ1 := S2.same sm
          have nl := S2.new hl0
          have rr : RepL ⟨X.K, P⟩ H' M1 (ps.map fun z => V.ref z.1) ((ks.mergeSort leII).map pairD) := by
            rw [← hps, List.map_map]
            refine RepL.of_mem fun z hz2 => ?_
            obtain ⟨h0, h1⟩ := hz' z hz2
            exact .tup h1 (S2.new h0) rfl (RepL.cons (.int _) (RepL.cons (.int _) .nil)).2
          have e3 : Ext H1 M1 H' M1 := (Ext.new hq).trans (Ext.same sm)
          exact p1 H' M1 e3 S3 _ (.lst hl nl rr.1 rr.2)
      · exact p1.elim
    · exact p1.elim
  · exact p1.elim
end
end DL

namespace DL
open PySem L2
section
variable {X : Cx} {E : XK} {CX : CXT} {k j n : Nat} {e fe : Expr} {es : List Expr} {fs : List DE} {fo : DE} {pos : Pos}
/-- fe(e, ..), fe any expression: the defs that it may give -/
def dCallV (tbl : List (Addr × Pr)) (fo : DE) (fs : List DE) : DE := fun δ τ => (fo δ τ).bind fun d τ1 => match d with
  | .raw (.ref f) => (match tbl.find? fun p => p.1 == f with
    | some p => (dArgs fs δ τ1).bind fun ds τ2 => p.2 ds τ2
    | none => .bad)
  | _ => .bad
theorem de_callV {tbl : List (Addr × Pr)} (A : ∀ p ∈ tbl, DAt X.prog X.w X.K X.mg X.base CX k p.1 n p.2) (hr : Room j X.A) (hk : k ≤ j) (ga : GA X.A) (hx : Passes CX X E) (hf : PE X fe (tE X.K E fo)) (ha : PA X (e :: es) (tA X.K E fs)) (hn : fs.length = n := by rfl)
    (he0 : eval (.Call fe (e :: es) [] pos) X.env = (do callWith pos (← eval fe X.env) [] (backTo pos (starEach (e :: es) X.env)) (backToKw pos (keywordEach [] X.env))) := by rfl)
    (he : starEach (e :: es) X.env = (false, eval e X.env) :: starEach es X.env := by rfl) (hpl : (backTo pos (starEach es X.env)).any (·.1) = false := by rfl) :
    PE X (.Call fe (e :: es) [] pos) (tE X.K E (dCallV tbl fo fs)) := by
  refine ⟨fun pins s σ H Q I h => ?_⟩
  obtain ⟨P, M, δ, τ, nn, S, p⟩ := h
  have hq : tE X.K E fo σ H fun v H1 => ∃ f g, v = .ref f ∧ DAt X.prog X.w X.K X.mg X.base CX k f n g ∧ tA X.K E fs σ H1 fun vs H2 => rP X.K E g vs H2 Q ∧ vs.length = n := by
    refine ⟨P, M, δ, τ, nn, S, (Post.bind p).mono fun H1 M1 τ1 d _ e1 S1 p1 v rv => ?_⟩
    split at p1
    · rename_i f
      split at p1
      · rename_i q hq
        cases rv
        have hm := List.mem_of_find?_eq_some hq
        have he := List.find?_some hq
        simp at he
        subst he
        refine ⟨q.1, q.2, rfl, A q hm, P, M1, δ, τ1, nn.ext e1, S1, ?_⟩
        exact (Post.bind p1).mono fun H2 M2 τ2 ds hds e2 S2 p2 vs rs => ⟨⟨P, M2, τ2, ds, S2, rs, p2⟩, by rw [rs.1, dArgs_len hds, hn]⟩
      · exact p1.elim
    · exact p1.elim
  refine PyProof.Rows.Call_ (thn (hf.run pins s σ H _ I hq) fun u s1 ⟨v, H1, I1, r1, f, g, ev, D, ht⟩ => ?_) he0
  subst ev
  cases r1
  obtain ⟨fd, ps, F, kp, b⟩ := D.ex
  exact PySem.W.callWith_K (h₀ := X.base) I1.ok.mod.kin kp (thn (ha.run pos pins s1 σ H1 _ I1 ht) fun us s2 ⟨vs, H2, I2, r, q⟩ => ⟨I2.kIn, runG F (hr.mono hk) ga b .nil hx I2 r ⟨by simpa using q.2, by simpa using q.1⟩⟩) he hpl
/-- a def as a value -/
theorem de_fnV {x : Str} {f : Addr} (hm : X.mg x = some (.ref f)) (hg : Gl X x := by rfl) (hd : (x == ("__debug__" : Str)) = false := by decide) : PE X (.Name x pos) (tE X.K E (dC (.raw (.ref f)))) :=
  de_glob (v := .ref f) hm rfl (fun _ _ _ => .raw _) hg hd
end
end DL

namespace DL
open PySem L2
def FUEL : Nat := 10 ^ 40
theorem hu64_of {A : Around} {k : Nat} (hr : Room k A) : A.units + 64 < cLine := hr.units
abbrev FD (K : PySem.W.Frag) (x qual : Str) (st : Stmt) (dvs : List V) (f : Addr) (fd : FuncData) : Prop := FunD K x qual (defArgs st) (defBody st) (defScope st) dvs [] f fd
section
variable {P : Program} {w : World} {K : PySem.W.Frag} {mg : Str → Option Value} {base : Heap}
theorem fnDD {x qual : Str} {st : Stmt} {f : Addr} {fd : FuncData} {N ps : List Str} {k : Nat} {body : DS} {dvs : List V} (F : FD K x qual st dvs f fd) (S : FnScope N ps (defScope st))
    (hb : ∀ (cdv : Value) (A : Around) (outer : List Env) (s : Shared) (H : Hp) (E : XK), Room k (A.deeper (PyProof.Rows.envOfC qual (defScope st) s.heap.objs.size f cdv)) → GA (A.deeper (PyProof.Rows.envOfC qual (defScope st) s.heap.objs.size f cdv)) → PSs (cxOf CX0 P w K mg base N qual (defScope st) f cdv A outer s H E).nox (defBody st) (tS K E body)) :
    FnG P w K mg base CX0 (k + 1) f fd ps (spD K ps.length (dDef N.length body)) := by
  obtain ⟨oc, od, dV, kV, doc, pm, an, cdv, ct, osl, rfl, lk, hcd, _, _⟩ := F.ex
  refine fnG_of lk hcd S (fun vs H Q E h => h.1) fun A outer s H vs Q E hr ga h => ?_
  obtain ⟨hl, P', M, τ, ds, S', r, p⟩ := h
  exact ⟨_, (hb cdv A outer s H E hr (ga.deeper _)).nox, P', M, _, τ, start_env r N, S', dDef_of p⟩
theorem DAt.of_ok {f : Addr} {fd : FuncData} {ps : List Str} {n k : Nat} {g : Pr} (F : FnG P w K mg base CX0 k f fd ps (spD K n g)) (kp : PySem.W.keepIn K (.ref f) = true) (b : Binds K fd ps []) : DAt P w K mg base CX0 k f n g := ⟨_, _, F, kp, b⟩
theorem tbl_nil {k n : Nat} : ∀ p ∈ ([] : List (Addr × Pr)), DAt P w K mg base CX0 k p.1 n p.2 := fun p h => nomatch h
theorem tbl_cons {k n : Nat} {a : Addr} {g : Pr} {l : List (Addr × Pr)} (h : DAt P w K mg base CX0 k a n g) (t : ∀ p ∈ l, DAt P w K mg base CX0 k p.1 n p.2) : ∀ p ∈ (a, g) :: l, DAt P w K mg base CX0 k p.1 n p.2 := fun p hp => by
  rcases List.mem_cons.mp hp with rfl | hp
  · exact h
  · exact t p hp
end
section
variable {X : Cx} {E : XK} {pos : Pos}
theorem pps_nilD : PPs X pos [] [] ((([] : List (DE × DE))).map fun p => (tE X.K E p.1, tE X.K E p.2)) := pps_nil
theorem pps_consD {k v : Expr} {ks : List (Option Expr)} {vs : List Expr} {fk fv : DE} {fs : List (DE × DE)} (hk : PE X k (tE X.K E fk)) (hv : PE X v (tE X.K E fv)) (hr : PPs X pos ks vs (fs.map fun p => (tE X.K E p.1, tE X.K E p.2))) :
    PPs X pos (some k :: ks) (v :: vs) (((fk, fv) :: fs).map fun p => (tE X.K E p.1, tE X.K E p.2)) := pps_cons hk hv hr
end
/-- the law's promise -/
def spLaw (K : PySem.W.Frag) : Sp := fun vs H Q _ => ∃ (a : Addr) (ns : List Int), vs = [.ref a] ∧ SqL K H a (ns.map V.int) ∧ ns.length ≤ 63 ∧ ∀ H', Q (.bl true) H'
theorem spLaw_of {K : PySem.W.Frag} {g : Pr} (h : ∀ ns : List Int, ns.length ≤ 63 → ∃ τ, g [.frl (ns.map D.int)] [] = .ok (.bl true) τ) : ∀ vs H Q E, spLaw K vs H Q E → spD K 1 g vs H Q E := by
  rintro vs H Q E ⟨a, ns, rfl, hS, hl, q⟩
  obtain ⟨τ, e⟩ := h ns hl
  have S0 : Sto ⟨K, []⟩ H [] [] := ⟨rfl, List.nodup_nil, (fun a h => nomatch h), (fun k a d h => by cases h)⟩
  refine ⟨rfl, [], [], [], [.frl (ns.map D.int)], S0, .cons (.frl (vs := ns.map V.int) ?_ (by simp) fun i v d h1 h2 => ?_) .nil, ?_⟩
  · rcases hS with h | h
    · exact .inl ⟨h, by simp, by simp⟩
    · exact .inr h
  · rw [List.getElem?_map] at h1 h2
    cases z : ns[i]? with
    | none => rw [z] at h1; cases h1
    | some j => rw [z] at h1 h2; cases h1; cases h2; exact .int _
  · rw [e]
    intro H' M' _ _ v rv
    cases rv
    exact q H'
theorem walkX {l : PySem.W.OpenLaw} {k : Nat} {q : Program} {loose : List Str} {XP : (Str → Option Value) → Heap → Prop} {YP : World → Heap → Prop} {d : DefRec} {K : Params → PySem.W.Frag} (hn : l.most = some 63) (hdf : d.params.defaults = []) (hr : Room k PySem.callerA)
    (hY : ∀ (w : World) (h : Heap), YP w h → (K w.params).In h)
    (F : ∀ (w : World) (mg : Str → Option Value) (fa : Addr) (h : Heap), XP mg h → (K w.params).In h → h.Ns mainGlobals mg → mg d.name = some (.ref fa) →
      ∃ fd : FuncData, (∀ (s : Shared) (u : Value), BindsTo s fd ⟨[u], []⟩ [("script", u)]) ∧ ∀ base : Heap, (K w.params).In base → base.Ns mainGlobals mg → FnG l.prog w (K w.params) mg base CX0 k fa fd ["script"] (spLaw (K w.params))) :
    PySem.W.WalkO q loose XP YP l.row.toRowW d [] (fun f vs => PySem.call f vs) := by
  refine Att.attach_call hn hdf fun w s₀ s₁ mg mb fa o pm cd doc a vs ns G Y ho hd hcd hmg hobj hints hlen hg => ?_
  have KX := hY w _ Y
  obtain ⟨fd, hb, hF⟩ := F w mg fa _ G.X KX G.T.g hmg
  exact lawG KX G.T.g G.T.b G.T.builtins G.T.nolimit hg hobj hints (Nat.le_trans hlen (by decide)) hr hF hb (fun H hS => ⟨a, ns, rfl, hS, hlen, fun _ => rfl⟩) fun H e s' z => z
theorem loose_int {p : Program} {lv : List (Str × PySem.W.WData)} {mg : Str → Option Value} {h : Heap} {x : Str} {i : Int} (X : PySem.W.XL p lv mg h) (m : (x, PySem.W.WData.int i) ∈ lv) : ∃ t, mg x = some (.int i t) := by
  obtain ⟨v, h1, h2⟩ := X.2.val _ m
  cases h2
  exact ⟨_, h1⟩
end DL

namespace DL
open PySem L2
/-! ### what a mirror answers -/
def WR0 {α : Type} (r : R α) (Φ : α → List D → Prop) : Prop := match r with
  | .ok a τ => Φ a τ
  | _ => False
structure Out where
  nx : DEnv → List D → Prop
  rt : D → List D → Prop
  bk : DEnv → List D → Prop
  ct : DEnv → List D → Prop
def WS0 (r : RS) (O : Out) : Prop := match r with
  | .nx δ τ => O.nx δ τ
  | .rt d τ => O.rt d τ
  | .bk δ τ => O.bk δ τ
  | .ct δ τ => O.ct δ τ
  | _ => False
section
variable {α β : Type} {τ : List D} {δ : DEnv} {Φ Ψ : α → List D → Prop} {O : Out}
theorem WR0.mono {r : R α} (h : WR0 r Φ) (k : ∀ a τ, Φ a τ → Ψ a τ) : WR0 r Ψ := by
  cases r with
  | ok a τ => exact k a τ h
  | exn _ _ _ => exact h
  | bad => exact h
theorem WR0.ex {r : R α} (h : WR0 r Φ) : ∃ a τ, r = .ok a τ ∧ Φ a τ := by
  cases r with
  | ok a τ => exact ⟨a, τ, rfl, h⟩
  | exn _ _ _ => exact h.elim
  | bad => exact h.elim
theorem WS0.mono {r : RS} {O O' : Out} (h : WS0 r O) (k1 : ∀ δ τ, O.nx δ τ → O'.nx δ τ) (k2 : ∀ d τ, O.rt d τ → O'.rt d τ) (k3 : ∀ δ τ, O.bk δ τ → O'.bk δ τ) (k4 : ∀ δ τ, O.ct δ τ → O'.ct δ τ) : WS0 r O' := by
  cases r with
  | nx δ τ => exact k1 _ _ h
  | rt d τ => exact k2 _ _ h
  | bk δ τ => exact k3 _ _ h
  | ct δ τ => exact k4 _ _ h
  | exn _ _ _ => exact h
  | bad => exact h
theorem wr_ok0 {a : α} : WR0 (.ok a τ) Φ = Φ a τ := (rfl)
theorem wr_bind0 {r : R β} {f : β → List D → R α} : WR0 (r.bind f) Φ = WR0 r (fun a τ => WR0 (f a τ) Φ) := by cases r <;> rfl
theorem wr_noexn0 {r : R α} : WR0 r.noexn Φ = WR0 r Φ := by cases r <;> rfl
theorem ws_nx0 : WS0 (.nx δ τ) O = O.nx δ τ := (rfl)
theorem ws_rt0 {d : D} : WS0 (.rt d τ) O = O.rt d τ := (rfl)
theorem ws_toS0 {r : R β} {f : β → List D → RS} : WS0 (r.toS f) O = WR0 r (fun a τ => WS0 (f a τ) O) := by cases r <;> rfl
theorem ws_seq0 {r : RS} {k : DS} : WS0 (r.seq k) O = WS0 r ⟨fun δ τ => WS0 (k δ τ) O, O.rt, O.bk, O.ct⟩ := by cases r <;> rfl
theorem ws_loop0 {r : RS} {k : DS} : WS0 (r.loop k) O = WS0 r ⟨fun δ τ => WS0 (k δ τ) O, O.rt, O.nx, fun δ τ => WS0 (k δ τ) O⟩ := by cases r <;> rfl
/-! expressions -/
theorem w_var0 {i : Nat} {Φ : D → List D → Prop} : WR0 (dVar i δ τ) Φ = (match δ[i]? with | some (some d) => Φ d τ | _ => False) := by
  unfold dVar
  cases δ[i]? with
  | none => rfl
  | some o => cases o <;> rfl
theorem w_c0 {d : D} {Φ : D → List D → Prop} : WR0 (dC d δ τ) Φ = Φ d τ := (rfl)
theorem w_p0 {g : Pr} {fs : List DE} {Φ : D → List D → Prop} : WR0 (dP g fs δ τ) Φ = WR0 (dArgs fs δ τ) (fun ds τ => WR0 (g ds τ) Φ) := wr_bind0
theorem w_nil0 {Φ : List D → List D → Prop} : WR0 (dArgs [] δ τ) Φ = Φ [] τ := (rfl)
theorem w_cons0 {f : DE} {fs : List DE} {Φ : List D → List D → Prop} : WR0 (dArgs (f :: fs) δ τ) Φ = WR0 (f δ τ) (fun d τ1 => WR0 (dArgs fs δ τ1) fun ds τ2 => Φ (d :: ds) τ2) := by
  show WR0 ((f δ τ).bind fun d τ1 => (dArgs fs δ τ1).bind fun ds τ2 => .ok (d :: ds) τ2) Φ = _
  rw [wr_bind0]; congr 1; funext d τ1; rw [wr_bind0]; rfl
theorem w_call0 {g : Pr} {dvs : List V} {fs : List DE} {Φ : D → List D → Prop} : WR0 (dCall g dvs fs δ τ) Φ = WR0 (dArgs fs δ τ) (fun ds τ => WR0 (g (ds ++ dvs.map vD) τ) Φ) := wr_bind0
theorem w_tup0 {fs : List DE} {Φ : D → List D → Prop} : WR0 (dTup fs δ τ) Φ = WR0 (dArgs fs δ τ) (fun ds τ => ds.length ≤ 1000 ∧ Φ (.tup ds) τ) := by
  unfold dTup; rw [wr_bind0]; congr 1; funext ds τ; split <;> simp [WR0, *]
theorem w_lst0 {fs : List DE} {Φ : D → List D → Prop} : WR0 (dLst fs δ τ) Φ = WR0 (dArgs fs δ τ) (fun ds τ => ds.length ≤ 1000 ∧ Φ (.lst ds) τ) := by
  unfold dLst; rw [wr_bind0]; congr 1; funext ds τ; split <;> simp [WR0, *]
theorem w_lstC0 {fs : List DE} {Φ : D → List D → Prop} : WR0 (dLstC fs δ τ) Φ = WR0 (dArgs fs δ τ) (fun ds τ => ds.length ≤ 1000 ∧ Φ (.cell τ.length) (τ ++ [.lst ds])) := by
  unfold dLstC; rw [wr_bind0]; congr 1; funext ds τ; split <;> simp [WR0, *]
theorem w_dicC0 {Φ : D → List D → Prop} : WR0 (dDicC δ τ) Φ = Φ (.cell τ.length) (τ ++ [.dic []]) := (rfl)
theorem w_B0 {f : DE} {Φ : Bool → List D → Prop} : WR0 (dB f δ τ) Φ = WR0 (f δ τ) (fun d τ => match der τ d with | .bl b => Φ b τ | _ => False) := by
  unfold dB; rw [wr_bind0]; congr 1; funext d τ; split <;> simp [WR0, *]
theorem w_and0 {f g : DT} {Φ : Bool → List D → Prop} : WR0 (dAnd f g δ τ) Φ = WR0 (f δ τ) (fun b τ => if b = true then WR0 (g δ τ) Φ else Φ false τ) := by
  unfold dAnd; rw [wr_bind0]; congr 1; funext b τ; split <;> simp [WR0, *]
theorem w_or0 {f g : DT} {Φ : Bool → List D → Prop} : WR0 (dOr f g δ τ) Φ = WR0 (f δ τ) (fun b τ => if b = true then Φ true τ else WR0 (g δ τ) Φ) := by
  unfold dOr; rw [wr_bind0]; congr 1; funext b τ; split <;> simp [WR0, *]
theorem w_not0 {f : DT} {Φ : Bool → List D → Prop} : WR0 (dNot f δ τ) Φ = WR0 (f δ τ) (fun b τ => Φ (!b) τ) := by
  unfold dNot; rw [wr_bind0]; rfl
theorem w_andV0 {f g : DE} {Φ : D → List D → Prop} : WR0 (dAndV f g δ τ) Φ = WR0 (f δ τ) (fun d τ => match der τ d with | .bl b => if b = true then WR0 (g δ τ) Φ else Φ (.bl false) τ | _ => False) := by
  unfold dAndV; rw [wr_bind0]; congr 1; funext d τ; split
  · split <;> simp [WR0, *]
  · simp [WR0, *]
theorem w_orV0 {f g : DE} {Φ : D → List D → Prop} : WR0 (dOrV f g δ τ) Φ = WR0 (f δ τ) (fun d τ => match der τ d with | .bl b => if b = true then Φ (.bl true) τ else WR0 (g δ τ) Φ | _ => False) := by
  unfold dOrV; rw [wr_bind0]; congr 1; funext d τ; split
  · split <;> simp [WR0, *]
  · simp [WR0, *]
theorem w_if0 {t : DT} {f g : DE} {Φ : D → List D → Prop} : WR0 (dIf t f g δ τ) Φ = WR0 (t δ τ) (fun b τ => if b = true then WR0 (f δ τ) Φ else WR0 (g δ τ) Φ) := by
  unfold dIf; rw [wr_bind0]; congr 1; funext b τ; split <;> simp [*]
theorem w_chain0 {g g' : Pr} {fa fb fc : DE} {Φ : D → List D → Prop} : WR0 (dChain g g' fa fb fc δ τ) Φ = WR0 (fa δ τ) (fun x τ => WR0 (fb δ τ) fun y τ => WR0 (g [x, y] τ) fun z τ => match der τ z with
    | .bl k => if k = true then WR0 (fc δ τ) (fun w τ => WR0 (g' [y, w] τ) Φ) else Φ (.bl false) τ
    | _ => False) := by
  unfold dChain; rw [wr_bind0]; congr 1; funext x τ; rw [wr_bind0]; congr 1; funext y τ; rw [wr_bind0]; congr 1; funext z τ
  cases der τ z with
  | bl k =>
    cases k with
    | true =>
      show WR0 ((fc δ τ).bind fun w τ4 => g' [y, w] τ4) Φ = WR0 (fc δ τ) (fun w τ => WR0 (g' [y, w] τ) Φ)
      exact wr_bind0
    | false => rfl
  | _ => rfl
theorem w_fld0 {C : Addr} {f : Str} {fo : DE} {Φ : D → List D → Prop} : WR0 (dFld C f fo δ τ) Φ = WR0 (fo δ τ) (fun d τ => match der τ d with
    | .obj C' fs => C' = C ∧ (match lookF f fs with | some r => Φ r τ | none => False)
    | _ => False) := by
  unfold dFld; rw [wr_bind0]; congr 1; funext d τ
  split
  · split
    · split <;> simp [WR0, *]
    · simp [WR0, *]
  · simp [WR0, *]
theorem w_meth0 {C : Addr} {m : Str} {g : Pr} {dvs : List V} {fo : DE} {fs : List DE} {Φ : D → List D → Prop} : WR0 (dMeth C m g dvs fo fs δ τ) Φ = WR0 (fo δ τ) (fun d τ => match der τ d with
    | .obj C' fds => (C' = C ∧ lookF m fds = none) ∧ WR0 (dArgs fs δ τ) fun ds τ => WR0 (g (d :: (ds ++ dvs.map vD)) τ) Φ
    | _ => False) := by
  unfold dMeth; rw [wr_bind0]; congr 1; funext d τ
  cases der τ d with
  | obj C' fds =>
    show WR0 (if C' = C ∧ lookF m fds = none then (dArgs fs δ τ).bind fun ds τ2 => g (d :: (ds ++ dvs.map vD)) τ2 else .bad) Φ = ((C' = C ∧ lookF m fds = none) ∧ WR0 (dArgs fs δ τ) fun ds τ => WR0 (g (d :: (ds ++ dvs.map vD)) τ) Φ)
    by_cases h : C' = C ∧ lookF m fds = none
    · rw [if_pos h, wr_bind0, eq_true h, true_and]
    · rw [if_neg h, eq_false h, false_and]; rfl
  | _ => rfl
theorem w_make0 {C : Addr} {g : Pr} {dvs : List V} {fs : List DE} {Φ : D → List D → Prop} : WR0 (dMake C g dvs fs δ τ) Φ = WR0 (dArgs fs δ τ) (fun ds τ1 => WR0 (g (.cell τ1.length :: (ds ++ dvs.map vD)) (τ1 ++ [.obj C []])) fun r τ2 => match r with
    | .non => Φ (.cell τ1.length) τ2
    | _ => False) := by
  unfold dMake; rw [wr_bind0]; congr 1; funext ds τ1; rw [wr_bind0]; congr 1; funext r τ2; cases r <;> rfl
theorem w_bm0 {T : String} {g : Pr} {fo : DE} {fs : List DE} {Φ : D → List D → Prop} : WR0 (dBM T g fo fs δ τ) Φ = WR0 (fo δ τ) (fun d τ => isT T (der τ d) = true ∧ WR0 (dArgs fs δ τ) fun ds τ => WR0 (g (d :: ds) τ) Φ) := by
  unfold dBM; rw [wr_bind0]; congr 1; funext d τ; split
  · rw [wr_bind0]; simp [*]
  · simp [WR0, *]
theorem w_rev0 {c : Bool} {fo : DE} {Φ : D → List D → Prop} : WR0 (dRev c fo δ τ) Φ = WR0 (fo δ τ) (fun d τ => match der τ d with | .lst xs => WR0 (newL c xs.reverse τ) Φ | _ => False) := by
  unfold dRev; rw [wr_bind0]; congr 1; funext d τ; split <;> simp [WR0, *]
theorem w_sortIt0 {fo : DE} {Φ : D → List D → Prop} : WR0 (dSortIt fo δ τ) Φ = WR0 (fo δ τ) (fun d τ => WR0 (pSortIt [d] τ) Φ) := wr_bind0
theorem w_get20 {fo fa fb : DE} {Φ : D → List D → Prop} : WR0 (dGet2 fo fa fb δ τ) Φ = WR0 (fo δ τ) (fun o τ1 => match der τ1 o with
    | .dic _ => WR0 (fa δ τ1) fun k τ2 => WR0 (fb δ τ2) fun z τ3 => (match lookD (der τ3 o) k with | some r => Φ (r.getD z) τ3 | none => False)
    | .dit _ => WR0 (fa δ τ1) fun k τ2 => WR0 (fb δ τ2) fun z τ3 => (match lookD (der τ3 o) k with | some r => Φ (r.getD z) τ3 | none => False)
    | _ => False) := by
  unfold dGet2; rw [wr_bind0]; congr 1; funext o τ1
  have e : ∀ k z τ3, WR0 (match lookD (der τ3 o) k with | some r => R.ok (r.getD z) τ3 | none => R.bad) Φ = (match lookD (der τ3 o) k with | some r => Φ (r.getD z) τ3 | none => False) := fun k z τ3 => by
    cases lookD (der τ3 o) k <;> rfl
  cases der τ1 o with
  | dic kds =>
    show WR0 ((fa δ τ1).bind fun k τ2 => (fb δ τ2).bind fun z τ3 => (match lookD (der τ3 o) k with | some r => R.ok (r.getD z) τ3 | none => R.bad)) Φ = _
    rw [wr_bind0]; congr 1; funext k τ2; rw [wr_bind0]; congr 1; funext z τ3; exact e _ _ _
  | dit kds =>
    show WR0 ((fa δ τ1).bind fun k τ2 => (fb δ τ2).bind fun z τ3 => (match lookD (der τ3 o) k with | some r => R.ok (r.getD z) τ3 | none => R.bad)) Φ = _
    rw [wr_bind0]; congr 1; funext k τ2; rw [wr_bind0]; congr 1; funext z τ3; exact e _ _ _
  | _ => rfl
theorem w_frz0 {f : DE} {Φ : D → List D → Prop} : WR0 (dFrz f δ τ) Φ = WR0 (exitD τ (f δ τ)) Φ := (rfl)
theorem w_callV0 {tbl : List (Addr × Pr)} {fo : DE} {fs : List DE} {Φ : D → List D → Prop} : WR0 (dCallV tbl fo fs δ τ) Φ = WR0 (fo δ τ) (fun d τ1 => match d with
    | .raw (.ref f) => (match tbl.find? fun p => p.1 == f with
      | some p => WR0 (dArgs fs δ τ1) fun ds τ2 => WR0 (p.2 ds τ2) Φ
      | none => False)
    | _ => False) := by
  unfold dCallV; rw [wr_bind0]; congr 1; funext d τ1
  cases d with
  | raw v =>
    cases v with
    | ref f =>
      show WR0 (match tbl.find? fun p => p.1 == f with | some p => (dArgs fs δ τ1).bind fun ds τ2 => p.2 ds τ2 | none => .bad) Φ = (match tbl.find? fun p => p.1 == f with | some p => WR0 (dArgs fs δ τ1) fun ds τ2 => WR0 (p.2 ds τ2) Φ | none => False)
      cases tbl.find? fun p => p.1 == f with
      | none => rfl
      | some p => exact wr_bind0
    | _ => rfl
  | _ => rfl
/-! statements -/
theorem w_next0 : WS0 (dNext δ τ) O = O.nx δ τ := (rfl)
theorem w_seq0 {s t : DS} : WS0 (dSeq s t δ τ) O = WS0 (s δ τ) ⟨fun δ τ => WS0 (t δ τ) O, O.rt, O.bk, O.ct⟩ := ws_seq0
theorem w_drop0 {f : DE} : WS0 (dDrop f δ τ) O = WR0 (f δ τ) (fun _ τ => O.nx δ τ) := ws_toS0
theorem w_ret0 {f : DE} : WS0 (dRet f δ τ) O = WR0 (f δ τ) O.rt := ws_toS0
theorem w_retN0 : WS0 (dRetN δ τ) O = O.rt .non τ := (rfl)
theorem w_break0 : WS0 (dBreak δ τ) O = O.bk δ τ := (rfl)
theorem w_cont0 : WS0 (dCont δ τ) O = O.ct δ τ := (rfl)
theorem w_ifS0 {c : DT} {s t : DS} : WS0 (dIfS c s t δ τ) O = WR0 (c δ τ) (fun b τ => if b = true then WS0 (s δ τ) O else WS0 (t δ τ) O) := by
  unfold dIfS; rw [ws_toS0]; congr 1; funext b τ; split <;> simp [*]
theorem w_asg0 {f : DE} {g : DG} : WS0 (dAsg f g δ τ) O = WR0 (f δ τ) (fun d τ => WR0 (g d δ τ) O.nx) := by
  unfold dAsg; rw [ws_toS0]; congr 1; funext d τ; rw [ws_toS0]; rfl
theorem w_gname0 {i : Nat} {d : D} {Φ : DEnv → List D → Prop} : WR0 (dgName i d δ τ) Φ = Φ (δ.set i (some d)) τ := (rfl)
theorem w_gsub0 {g : Pr} {fo fi : DE} {d : D} {Φ : DEnv → List D → Prop} : WR0 (dgSub g fo fi d δ τ) Φ = WR0 (fo δ τ) (fun o τ => WR0 (fi δ τ) fun i τ => WR0 (g [o, i, d] τ) fun _ τ => Φ δ τ) := by
  unfold dgSub; rw [wr_bind0]; congr 1; funext o τ; rw [wr_bind0]; congr 1; funext i τ; rw [wr_bind0]; rfl
theorem w_gtup0 {gs : List DG} {d : D} {Φ : DEnv → List D → Prop} : WR0 (dgTup gs d δ τ) Φ = (match der τ d with
    | .tup ds => ds.length = gs.length ∧ WR0 (dgL gs ds δ τ) Φ
    | .lst ds => ds.length = gs.length ∧ WR0 (dgL gs ds δ τ) Φ
    | _ => False) := by
  unfold dgTup; split
  · split <;> simp [WR0, *]
  · split <;> simp [WR0, *]
  · simp [WR0]
theorem w_gnil0 {Φ : DEnv → List D → Prop} : WR0 (dgL [] [] δ τ) Φ = Φ δ τ := (rfl)
theorem w_gcons0 {g : DG} {gs : List DG} {d : D} {ds : List D} {Φ : DEnv → List D → Prop} : WR0 (dgL (g :: gs) (d :: ds) δ τ) Φ = WR0 (g d δ τ) (fun δ τ => WR0 (dgL gs ds δ τ) Φ) := wr_bind0
theorem w_par0 {is : List Nat} {fs : List DE} : WS0 (dPar is fs δ τ) O = WR0 (dArgs fs δ τ) (fun ds τ => O.nx ((is.zip ds).foldl (fun δ p => δ.set p.1 (some p.2)) δ) τ) := by
  unfold dPar; rw [ws_toS0]; rfl
theorem w_setFld0 {C : Addr} {f : Str} {fo fv : DE} : WS0 (dSetFld C f fo fv δ τ) O = WR0 (fv δ τ) (fun v τ1 => WR0 (fo δ τ1) fun d τ2 => match d with
    | .cell k => (match τ2[k]? with
      | some (.obj C' fs) => (C' = C ∧ fs.length < 1000) ∧ O.nx δ (τ2.set k (.obj C (putD f v fs)))
      | _ => False)
    | _ => False) := by
  unfold dSetFld; rw [ws_toS0]; congr 1; funext v τ1; rw [ws_toS0]; congr 1; funext d τ2; split
  · split
    · split <;> simp [WS0, *]
    · simp [WS0]
  · simp [WS0]
theorem w_while0 {fuel : DEnv → List D → Nat} {c : DT} {b : DS} : WS0 (dWhile fuel c b δ τ) O = WS0 (whileL c b (fuel δ τ) δ τ) O := (rfl)
theorem w_for0 {it : DI} {g : DG} {b : DS} : WS0 (dFor it g b δ τ) O = WR0 (it δ τ) (fun xs τ => WS0 (forL g b xs δ τ) O) := by unfold dFor; rw [ws_toS0]
theorem w_items0 {f : DE} {Φ : List D → List D → Prop} : WR0 (dItems f δ τ) Φ = WR0 (f δ τ) (fun d τ => match d with
    | .lst ds => Φ ds τ
    | .tup ds => Φ ds τ
    | .frt ds => Φ ds τ
    | _ => False) := by
  unfold dItems; rw [wr_bind0]; congr 1; funext d τ; cases d <;> rfl
theorem w_range10 {f : DE} {Φ : List D → List D → Prop} : WR0 (dRange1 f δ τ) Φ = WR0 (f δ τ) (fun d τ => match der τ d with
    | .int j => (-(2 ^ 62) ≤ j ∧ j < 2 ^ 62) ∧ Φ ((List.range j.toNat).map fun (i : Nat) => D.int (i : Int)) τ
    | _ => False) := by
  unfold dRange1; rw [wr_bind0]; congr 1; funext d τ
  cases der τ d with
  | int j =>
    show WR0 (if -(2 ^ 62) ≤ j ∧ j < 2 ^ 62 then R.ok ((List.range j.toNat).map fun (i : Nat) => D.int (i : Int)) τ else .bad) Φ = ((-(2 ^ 62) ≤ j ∧ j < 2 ^ 62) ∧ Φ ((List.range j.toNat).map fun (i : Nat) => D.int (i : Int)) τ)
    by_cases h : -(2 ^ 62) ≤ j ∧ j < 2 ^ 62
    · rw [if_pos h, eq_true h, true_and]; rfl
    · rw [if_neg h, eq_false h, false_and]; rfl
  | _ => rfl
/-- for, by an invariant over the number of items done -/
theorem w_forI0 {g : DG} {b : DS} {xs : List D} (Inv : Nat → DEnv → List D → Prop) (h0 : Inv 0 δ τ)
    (hs : ∀ (i : Nat) (x : D) (δ : DEnv) (τ : List D), xs[i]? = some x → Inv i δ τ → WR0 (g x δ τ) fun δ τ => WS0 (b δ τ) ⟨Inv (i + 1), O.rt, O.nx, Inv (i + 1)⟩)
    (he : ∀ δ τ, Inv xs.length δ τ → O.nx δ τ) : WS0 (forL g b xs δ τ) O := by
  suffices H : ∀ (n i : Nat) (δ : DEnv) (τ : List D), n = xs.length - i → i ≤ xs.length → Inv i δ τ → WS0 (forL g b (xs.drop i) δ τ) O from by simpa using H xs.length 0 δ τ (by simp) (Nat.zero_le _) h0
  intro n
  induction n with
  | zero =>
    intro i δ τ hn hi h
    have e : i = xs.length := by omega
    subst e
    rw [List.drop_length]
    exact he δ τ h
  | succ n ih =>
    intro i δ τ hn hi h
    have hlt : i < xs.length := by omega
    rw [List.drop_eq_getElem_cons hlt]
    show WS0 ((g xs[i] δ τ).toS fun δ1 τ1 => (b δ1 τ1).loop (forL g b (xs.drop (i + 1)))) O
    rw [ws_toS0]
    refine (hs i xs[i] δ τ (by simp [hlt]) h).mono fun δ1 τ1 z => ?_
    rw [ws_loop0]
    exact z.mono (fun δ τ z => ih (i + 1) δ τ (by omega) (by omega) z) (fun _ _ z => z) (fun _ _ z => z) (fun δ τ z => ih (i + 1) δ τ (by omega) (by omega) z)
/-- while, by a measure -/
theorem w_whileI0 {c : DT} {b : DS} {N : Nat} (Inv : Nat → DEnv → List D → Prop) (m : Nat) (hm : m < N) (h0 : Inv m δ τ)
    (hs : ∀ (m : Nat) (δ : DEnv) (τ : List D), Inv m δ τ → WR0 (c δ τ) fun k τ => if k = true then WS0 (b δ τ) ⟨fun δ τ => ∃ m', m' < m ∧ Inv m' δ τ, O.rt, O.nx, fun δ τ => ∃ m', m' < m ∧ Inv m' δ τ⟩ else O.nx δ τ) : WS0 (whileL c b N δ τ) O := by
  induction N generalizing m δ τ with
  | zero => omega
  | succ N ih =>
    show WS0 ((c δ τ).toS fun k τ' => if k = true then (b δ τ').loop (whileL c b N) else .nx δ τ') O
    rw [ws_toS0]
    refine (hs m δ τ h0).mono fun k τ1 z => ?_
    split at z
    · rename_i hk
      rw [if_pos hk, ws_loop0]
      exact z.mono (fun δ τ ⟨m', h1, h2⟩ => ih m' (by omega) h2) (fun _ _ z => z) (fun _ _ z => z) (fun δ τ ⟨m', h1, h2⟩ => ih m' (by omega) h2)
    · rename_i hk
      rw [if_neg hk]; exact z
/-- a comprehension, item by item -/
theorem w_lc0 {own : List Nat} {it : DI} {g : DG} {ts : DT} {f : DE} {Φ : D → List D → Prop} : WR0 (dLC own it g ts f δ τ) Φ = WR0 (it δ τ) (fun xs τ => xs.length ≤ cap ∧ WR0 (lcL g ts f (wipeD δ own) xs τ) fun ys τ => Φ (.lst ys) τ) := by
  unfold dLC; rw [wr_bind0]; congr 1; funext xs τ; split
  · rw [wr_bind0]; simp [*, WR0]
  · simp [WR0, *]
theorem w_lcnil0 {g : DG} {ts : DT} {f : DE} {Φ : List D → List D → Prop} : WR0 (lcL g ts f δ [] τ) Φ = Φ [] τ := (rfl)
theorem w_lccons0 {g : DG} {ts : DT} {f : DE} {x : D} {xs : List D} {Φ : List D → List D → Prop} : WR0 (lcL g ts f δ (x :: xs) τ) Φ = WR0 (g x δ τ) (fun δ1 τ1 => WR0 (ts δ1 τ1) fun b τ2 => if b = true then WR0 (f δ1 τ2) (fun y τ3 => WR0 (lcL g ts f δ xs τ3) fun ys τ4 => Φ (y :: ys) τ4) else WR0 (lcL g ts f δ xs τ2) Φ) := by
  show WR0 ((g x δ τ).noexn.bind _) Φ = _
  rw [wr_bind0, wr_noexn0]; congr 1; funext δ1 τ1
  rw [wr_bind0, wr_noexn0]; congr 1; funext b τ2
  split
  · rw [wr_bind0, wr_noexn0]; congr 1; funext y τ3; rw [wr_bind0]; rfl
  · rfl
/-- all items alike, the store as it was -/
theorem w_lcmap0 {g : DG} {ts : DT} {f : DE} {xs : List D} {F : D → D} {Φ : List D → List D → Prop} (h : ∀ x ∈ xs, WR0 (g x δ τ) fun δ1 τ1 => WR0 (ts δ1 τ1) fun b τ2 => b = true ∧ WR0 (f δ1 τ2) fun y τ3 => y = F x ∧ τ3 = τ) (q : Φ (xs.map F) τ) : WR0 (lcL g ts f δ xs τ) Φ := by
  induction xs generalizing Φ with
  | nil => exact q
  | cons x xs ih =>
    rw [w_lccons0]
    refine (h x List.mem_cons_self).mono fun δ1 τ1 z => z.mono fun b τ2 ⟨e, z⟩ => ?_
    rw [if_pos e]
    refine z.mono fun y τ3 ⟨e1, e2⟩ => ?_
    subst e1 e2
    exact ih (fun y hy => h y (List.mem_cons_of_mem _ hy)) q
theorem w_def0 {m : Nat} {body : DS} {ds : List D} {Φ : D → List D → Prop} : WR0 (dDef m body ds τ) Φ = WS0 (body (ds.map some ++ List.replicate (m - ds.length) none) τ) ⟨fun _ τ => Φ .non τ, Φ, fun _ _ => False, fun _ _ => False⟩ := by
  unfold dDef
  cases body (ds.map some ++ List.replicate (m - ds.length) none) τ <;> rfl
/-- data that hold no cell -/
def Pla (d : D) : Prop := ∀ c, frzD c d = some d
theorem w_exitP0 {g : Pr} {ds : List D} {Φ : D → List D → Prop} (h : WR0 (g ds τ) fun d τ' => Pla d ∧ Older τ τ' ∧ Φ d (τ'.take τ.length)) : WR0 (exitP g ds τ) Φ := by
  obtain ⟨d, τ', e, h1, h2, h3⟩ := h.ex
  unfold exitP
  rw [e]
  unfold exitD
  simp only [h1 _, if_pos h2]
  exact h3
theorem w_exitD0 {r : R D} {Φ : D → List D → Prop} (h : WR0 r fun d τ' => ∃ e, frzD (celF τ.length τ' 6) d = some e ∧ Older τ τ' ∧ Φ e (τ'.take τ.length)) : WR0 (exitD τ r) Φ := by
  obtain ⟨d, τ', e, e', h1, h2, h3⟩ := h.ex
  rw [e]
  unfold exitD
  simp only [h1, if_pos h2]
  exact h3
theorem older_self (l : List D) : Older τ (τ ++ l) := fun k hk => .inl (List.getElem?_append_left hk)
theorem older_pen {p p' : D} {rest l : List D} (h : Pla p') : Older (p :: rest) (p' :: (rest ++ l)) := fun k hk => by
  cases k with
  | zero => exact .inr ⟨p', rfl, h _⟩
  | succ k =>
    refine .inl ?_
    rw [List.getElem?_cons_succ, List.getElem?_cons_succ, List.getElem?_append_left (by simpa using hk)]
theorem pla_int (i : Int) : Pla (.int i) := fun _ => by simp [frzD]
theorem pla_str (i : Str) : Pla (.str i) := fun _ => by simp [frzD]
theorem pla_bl (i : Bool) : Pla (.bl i) := fun _ => by simp [frzD]
theorem pla_frzL {ds : List D} (h : ∀ d ∈ ds, Pla d) (c : Nat → Option D) : frzL c ds = some ds := by
  induction ds with
  | nil => simp [frzL]
  | cons d ds ih => simp [frzL, h d List.mem_cons_self c, ih fun e he => h e (List.mem_cons_of_mem _ he)]
theorem pla_lst {ds : List D} (h : ∀ d ∈ ds, Pla d) : Pla (.lst ds) := fun c => by simp [frzD, pla_frzL h c]
theorem pla_tup {ds : List D} (h : ∀ d ∈ ds, Pla d) : Pla (.tup ds) := fun c => by simp [frzD, pla_frzL h c]
theorem frzK_pla {kds : List (Key × D)} (h : ∀ d ∈ kds, Pla d.2) (c : Nat → Option D) : frzK c kds = some kds := by
  induction kds with
  | nil => simp [frzK]
  | cons d ds ih => obtain ⟨k, d⟩ := d; simp [frzK, h (k, d) List.mem_cons_self c, ih fun e he => h e (List.mem_cons_of_mem _ he)]
theorem pla_dic {kds : List (Key × D)} (h : ∀ d ∈ kds, Pla d.2) : Pla (.dic kds) := fun c => by simp [frzD, frzK_pla h c]
theorem frzF_pla {kds : List (Str × D)} (h : ∀ d ∈ kds, Pla d.2) (c : Nat → Option D) : frzF c kds = some kds := by
  induction kds with
  | nil => simp [frzF]
  | cons d ds ih => obtain ⟨k, d⟩ := d; simp [frzF, h (k, d) List.mem_cons_self c, ih fun e he => h e (List.mem_cons_of_mem _ he)]
theorem pla_obj {C : Addr} {kds : List (Str × D)} (h : ∀ d ∈ kds, Pla d.2) : Pla (.obj C kds) := fun c => by simp [frzD, frzF_pla h c]
/-! the store -/
theorem gx0 {l : List D} : (τ ++ l)[τ.length]? = l[0]? := by rw [List.getElem?_append_right (Nat.le_refl _), Nat.sub_self]
theorem gx1 {l : List D} : (τ ++ l)[τ.length + 1]? = l[1]? := by rw [List.getElem?_append_right (by omega)]; congr 1; omega
theorem sx0 {l : List D} {x : D} : (τ ++ l).set τ.length x = τ ++ l.set 0 x := by rw [List.set_append_right _ _ (Nat.le_refl _), Nat.sub_self]
theorem sx1 {l : List D} {x : D} : (τ ++ l).set (τ.length + 1) x = τ ++ l.set 1 x := by rw [List.set_append_right _ _ (by omega)]; congr 2; omega
theorem der_int {i : Int} : der τ (.int i) = .int i := (rfl)
theorem der_bl {i : Bool} : der τ (.bl i) = .bl i := (rfl)
theorem der_str {i : Str} : der τ (.str i) = .str i := (rfl)
theorem der_lst {i : List D} : der τ (.lst i) = .lst i := (rfl)
theorem der_frl {i : List D} : der τ (.frl i) = .frl i := (rfl)
theorem der_tup {i : List D} : der τ (.tup i) = .tup i := (rfl)
theorem der_dic {i : List (Key × D)} : der τ (.dic i) = .dic i := (rfl)
theorem der_non : der τ .non = .non := (rfl)
theorem der_obj {C : Addr} {i : List (Str × D)} : der τ (.obj C i) = .obj C i := (rfl)
theorem der_raw {v : V} : der τ (.raw v) = .raw v := (rfl)
theorem der_cell {k : Nat} : der τ (.cell k) = (τ[k]?).getD .non := (rfl)
/-! primitives -/
variable {c : Bool} {i j : Int} {Φd : D → List D → Prop}
theorem p_add0 : WR0 (pAdd c [.int i, .int j] τ) Φd = Φd (.int (i + j)) τ := (rfl)
theorem p_sub0 : WR0 (pSub [.int i, .int j] τ) Φd = Φd (.int (i - j)) τ := (rfl)
theorem p_mul0 : WR0 (pMul c [.int i, .int j] τ) Φd = ((i.natAbs < BIG ∧ j.natAbs < BIG) ∧ Φd (.int (i * j)) τ) := by
  show WR0 (if i.natAbs < BIG ∧ j.natAbs < BIG then R.ok (.int (i * j)) τ else .bad) Φd = _
  split <;> simp [WR0, *]
theorem p_fdiv0 : WR0 (pFdiv [.int i, .int j] τ) Φd = ((0 < j ∧ j.natAbs < BIGD) ∧ Φd (.int (i / j)) τ) := by
  show WR0 (if 0 < j ∧ j.natAbs < BIGD then R.ok (.int (i / j)) τ else .bad) Φd = _
  split <;> simp [WR0, *]
theorem p_mod0 : WR0 (pMod [.int i, .int j] τ) Φd = (0 < j ∧ Φd (.int (i % j)) τ) := by
  show WR0 (if 0 < j then R.ok (.int (i % j)) τ else .bad) Φd = _
  split <;> simp [WR0, *]
theorem p_pow0 : WR0 (pPow [.int i, .int j] τ) Φd = ((0 ≤ j ∧ j ≤ 1000 ∧ i.natAbs ≤ 1000000) ∧ Φd (.int (i ^ j.toNat)) τ) := by
  show WR0 (if 0 ≤ j ∧ j ≤ 1000 ∧ i.natAbs ≤ 1000000 then R.ok (.int (i ^ j.toNat)) τ else .bad) Φd = _
  split <;> simp [WR0, *]
theorem p_neg0 : WR0 (pNeg [.int i] τ) Φd = Φd (.int (-i)) τ := (rfl)
theorem p_cmp0 {f : Int → Int → Bool} : WR0 (pCmp f [.int i, .int j] τ) Φd = Φd (.bl (f i j)) τ := (rfl)
theorem p_abs0 : WR0 (pAbs [.int i] τ) Φd = Φd (.int (if i < 0 then -i else i)) τ := (rfl)
theorem p_min20 : WR0 (pMin [.int i, .int j] τ) Φd = Φd (.int (if j < i then j else i)) τ := (rfl)
theorem p_max20 : WR0 (pMax [.int i, .int j] τ) Φd = Φd (.int (if j > i then j else i)) τ := (rfl)
theorem p_eqI0 {n : Bool} : WR0 (pEq n [.int i, .int j] τ) Φd = Φd (.bl (if n then !decide (i = j) else decide (i = j))) τ := (rfl)
theorem p_notB0 {b : Bool} : WR0 (pNot [.bl b] τ) Φd = Φd (.bl (!b)) τ := (rfl)
theorem p_lenL0 {xs : List D} : WR0 (pLen [.lst xs] τ) Φd = Φd (.int xs.length) τ := (rfl)
theorem p_lenT0 {xs : List D} : WR0 (pLen [.tup xs] τ) Φd = Φd (.int xs.length) τ := (rfl)
theorem p_listL0 {xs : List D} : WR0 (pList false [.lst xs] τ) Φd = Φd (.lst xs) τ := (rfl)
theorem newL_w0 {xs : List D} : WR0 (newL false xs τ) Φd = Φd (.lst xs) τ := (rfl)
theorem newLC_w0 {xs : List D} : WR0 (newL true xs τ) Φd = Φd (.cell τ.length) (τ ++ [.lst xs]) := (rfl)
theorem p_ixL0 {xs : List D} : WR0 (pIx [.lst xs, .int j] τ) Φd = (match atI xs j with | some d => Φd d τ | none => False) := by
  show WR0 (match atI xs j with | some d => R.ok d τ | none => .bad) Φd = _
  cases atI xs j <;> rfl
theorem p_ixT0 {xs : List D} : WR0 (pIx [.tup xs, .int j] τ) Φd = (match atI xs j with | some d => Φd d τ | none => False) := by
  show WR0 (match atI xs j with | some d => R.ok d τ | none => .bad) Φd = _
  cases atI xs j <;> rfl
end
end DL

namespace DL
open PySem L2
/-! the same, where nothing is computed by unfolding -/
@[irreducible] def WR {α : Type} (r : R α) (Φ : α → List D → Prop) : Prop := WR0 r Φ
@[irreducible] def WS (r : RS) (O : Out) : Prop := WS0 r O
theorem wr_def {α : Type} {r : R α} {Φ : α → List D → Prop} : WR r Φ = WR0 r Φ := by with_unfolding_all rfl
theorem ws_def {r : RS} {O : Out} : WS r O = WS0 r O := by with_unfolding_all rfl
section
variable {α β : Type} {τ : List D} {δ : DEnv} {Φ Ψ : α → List D → Prop} {O : Out}
theorem WR.mono {r : R α} (h : WR r Φ) (k : ∀ a τ, Φ a τ → Ψ a τ) : WR r Ψ := by
  simp only [wr_def, ws_def] at *
  exact WR0.mono h k
theorem WR.ex {r : R α} (h : WR r Φ) : ∃ a τ, r = .ok a τ ∧ Φ a τ := by
  simp only [wr_def, ws_def] at *
  exact WR0.ex h
theorem WS.mono {r : RS} {O O' : Out} (h : WS r O) (k1 : ∀ δ τ, O.nx δ τ → O'.nx δ τ) (k2 : ∀ d τ, O.rt d τ → O'.rt d τ) (k3 : ∀ δ τ, O.bk δ τ → O'.bk δ τ) (k4 : ∀ δ τ, O.ct δ τ → O'.ct δ τ) : WS r O' := by
  simp only [wr_def, ws_def] at *
  exact WS0.mono h k1 k2 k3 k4
theorem wr_ok {a : α} : WR (.ok a τ) Φ = Φ a τ := by
  simp only [wr_def, ws_def]
  exact wr_ok0
theorem wr_bind {r : R β} {f : β → List D → R α} : WR (r.bind f) Φ = WR r (fun a τ => WR (f a τ) Φ) := by
  simp only [wr_def, ws_def]
  exact wr_bind0
theorem wr_noexn {r : R α} : WR r.noexn Φ = WR r Φ := by
  simp only [wr_def, ws_def]
  exact wr_noexn0
theorem ws_nx : WS (.nx δ τ) O = O.nx δ τ := by
  simp only [wr_def, ws_def]
  exact ws_nx0
theorem ws_rt {d : D} : WS (.rt d τ) O = O.rt d τ := by
  simp only [wr_def, ws_def]
  exact ws_rt0
theorem ws_toS {r : R β} {f : β → List D → RS} : WS (r.toS f) O = WR r (fun a τ => WS (f a τ) O) := by
  simp only [wr_def, ws_def]
  exact ws_toS0
theorem ws_seq {r : RS} {k : DS} : WS (r.seq k) O = WS r ⟨fun δ τ => WS (k δ τ) O, O.rt, O.bk, O.ct⟩ := by
  simp only [wr_def, ws_def]
  exact ws_seq0
theorem ws_loop {r : RS} {k : DS} : WS (r.loop k) O = WS r ⟨fun δ τ => WS (k δ τ) O, O.rt, O.nx, fun δ τ => WS (k δ τ) O⟩ := by
  simp only [wr_def, ws_def]
  exact ws_loop0
theorem w_var {i : Nat} {Φ : D → List D → Prop} : WR (dVar i δ τ) Φ = (match δ[i]? with | some (some d) => Φ d τ | _ => False) := by
  simp only [wr_def, ws_def]
  exact w_var0
theorem w_c {d : D} {Φ : D → List D → Prop} : WR (dC d δ τ) Φ = Φ d τ := by
  simp only [wr_def, ws_def]
  exact w_c0
theorem w_p {g : Pr} {fs : List DE} {Φ : D → List D → Prop} : WR (dP g fs δ τ) Φ = WR (dArgs fs δ τ) (fun ds τ => WR (g ds τ) Φ) := by
  simp only [wr_def, ws_def]
  exact w_p0
theorem w_nil {Φ : List D → List D → Prop} : WR (dArgs [] δ τ) Φ = Φ [] τ := by
  simp only [wr_def, ws_def]
  exact w_nil0
theorem w_cons {f : DE} {fs : List DE} {Φ : List D → List D → Prop} : WR (dArgs (f :: fs) δ τ) Φ = WR (f δ τ) (fun d τ1 => WR (dArgs fs δ τ1) fun ds τ2 => Φ (d :: ds) τ2) := by
  simp only [wr_def, ws_def]
  exact w_cons0
theorem w_call {g : Pr} {dvs : List V} {fs : List DE} {Φ : D → List D → Prop} : WR (dCall g dvs fs δ τ) Φ = WR (dArgs fs δ τ) (fun ds τ => WR (g (ds ++ dvs.map vD) τ) Φ) := by
  simp only [wr_def, ws_def]
  exact w_call0
theorem w_tup {fs : List DE} {Φ : D → List D → Prop} : WR (dTup fs δ τ) Φ = WR (dArgs fs δ τ) (fun ds τ => ds.length ≤ 1000 ∧ Φ (.tup ds) τ) := by
  simp only [wr_def, ws_def]
  exact w_tup0
theorem w_lst {fs : List DE} {Φ : D → List D → Prop} : WR (dLst fs δ τ) Φ = WR (dArgs fs δ τ) (fun ds τ => ds.length ≤ 1000 ∧ Φ (.lst ds) τ) := by
  simp only [wr_def, ws_def]
  exact w_lst0
theorem w_lstC {fs : List DE} {Φ : D → List D → Prop} : WR (dLstC fs δ τ) Φ = WR (dArgs fs δ τ) (fun ds τ => ds.length ≤ 1000 ∧ Φ (.cell τ.length) (τ ++ [.lst ds])) := by
  simp only [wr_def, ws_def]
  exact w_lstC0
theorem w_dicC {Φ : D → List D → Prop} : WR (dDicC δ τ) Φ = Φ (.cell τ.length) (τ ++ [.dic []]) := by
  simp only [wr_def, ws_def]
  exact w_dicC0
theorem w_B {f : DE} {Φ : Bool → List D → Prop} : WR (dB f δ τ) Φ = WR (f δ τ) (fun d τ => match der τ d with | .bl b => Φ b τ | _ => False) := by
  simp only [wr_def, ws_def]
  exact w_B0
theorem w_and {f g : DT} {Φ : Bool → List D → Prop} : WR (dAnd f g δ τ) Φ = WR (f δ τ) (fun b τ => if b = true then WR (g δ τ) Φ else Φ false τ) := by
  simp only [wr_def, ws_def]
  exact w_and0
theorem w_or {f g : DT} {Φ : Bool → List D → Prop} : WR (dOr f g δ τ) Φ = WR (f δ τ) (fun b τ => if b = true then Φ true τ else WR (g δ τ) Φ) := by
  simp only [wr_def, ws_def]
  exact w_or0
theorem w_not {f : DT} {Φ : Bool → List D → Prop} : WR (dNot f δ τ) Φ = WR (f δ τ) (fun b τ => Φ (!b) τ) := by
  simp only [wr_def, ws_def]
  exact w_not0
theorem w_andV {f g : DE} {Φ : D → List D → Prop} : WR (dAndV f g δ τ) Φ = WR (f δ τ) (fun d τ => match der τ d with | .bl b => if b = true then WR (g δ τ) Φ else Φ (.bl false) τ | _ => False) := by
  simp only [wr_def, ws_def]
  exact w_andV0
theorem w_orV {f g : DE} {Φ : D → List D → Prop} : WR (dOrV f g δ τ) Φ = WR (f δ τ) (fun d τ => match der τ d with | .bl b => if b = true then Φ (.bl true) τ else WR (g δ τ) Φ | _ => False) := by
  simp only [wr_def, ws_def]
  exact w_orV0
theorem w_if {t : DT} {f g : DE} {Φ : D → List D → Prop} : WR (dIf t f g δ τ) Φ = WR (t δ τ) (fun b τ => if b = true then WR (f δ τ) Φ else WR (g δ τ) Φ) := by
  simp only [wr_def, ws_def]
  exact w_if0
theorem w_chain {g g' : Pr} {fa fb fc : DE} {Φ : D → List D → Prop} : WR (dChain g g' fa fb fc δ τ) Φ = WR (fa δ τ) (fun x τ => WR (fb δ τ) fun y τ => WR (g [x, y] τ) fun z τ => match der τ z with
    | .bl k => if k = true then WR (fc δ τ) (fun w τ => WR (g' [y, w] τ) Φ) else Φ (.bl false) τ
    | _ => False) := by
  simp only [wr_def, ws_def]
  exact w_chain0
theorem w_fld {C : Addr} {f : Str} {fo : DE} {Φ : D → List D → Prop} : WR (dFld C f fo δ τ) Φ = WR (fo δ τ) (fun d τ => match der τ d with
    | .obj C' fs => C' = C ∧ (match lookF f fs with | some r => Φ r τ | none => False)
    | _ => False) := by
  simp only [wr_def, ws_def]
  exact w_fld0
theorem w_meth {C : Addr} {m : Str} {g : Pr} {dvs : List V} {fo : DE} {fs : List DE} {Φ : D → List D → Prop} : WR (dMeth C m g dvs fo fs δ τ) Φ = WR (fo δ τ) (fun d τ => match der τ d with
    | .obj C' fds => (C' = C ∧ lookF m fds = none) ∧ WR (dArgs fs δ τ) fun ds τ => WR (g (d :: (ds ++ dvs.map vD)) τ) Φ
    | _ => False) := by
  simp only [wr_def, ws_def]
  exact w_meth0
theorem w_make {C : Addr} {g : Pr} {dvs : List V} {fs : List DE} {Φ : D → List D → Prop} : WR (dMake C g dvs fs δ τ) Φ = WR (dArgs fs δ τ) (fun ds τ1 => WR (g (.cell τ1.length :: (ds ++ dvs.map vD)) (τ1 ++ [.obj C []])) fun r τ2 => match r with
    | .non => Φ (.cell τ1.length) τ2
    | _ => False) := by
  simp only [wr_def, ws_def]
  exact w_make0
theorem w_bm {T : String} {g : Pr} {fo : DE} {fs : List DE} {Φ : D → List D → Prop} : WR (dBM T g fo fs δ τ) Φ = WR (fo δ τ) (fun d τ => isT T (der τ d) = true ∧ WR (dArgs fs δ τ) fun ds τ => WR (g (d :: ds) τ) Φ) := by
  simp only [wr_def, ws_def]
  exact w_bm0
theorem w_rev {c : Bool} {fo : DE} {Φ : D → List D → Prop} : WR (dRev c fo δ τ) Φ = WR (fo δ τ) (fun d τ => match der τ d with | .lst xs => WR (newL c xs.reverse τ) Φ | _ => False) := by
  simp only [wr_def, ws_def]
  exact w_rev0
theorem w_sortIt {fo : DE} {Φ : D → List D → Prop} : WR (dSortIt fo δ τ) Φ = WR (fo δ τ) (fun d τ => WR (pSortIt [d] τ) Φ) := by
  simp only [wr_def, ws_def]
  exact w_sortIt0
theorem w_get2 {fo fa fb : DE} {Φ : D → List D → Prop} : WR (dGet2 fo fa fb δ τ) Φ = WR (fo δ τ) (fun o τ1 => match der τ1 o with
    | .dic _ => WR (fa δ τ1) fun k τ2 => WR (fb δ τ2) fun z τ3 => (match lookD (der τ3 o) k with | some r => Φ (r.getD z) τ3 | none => False)
    | .dit _ => WR (fa δ τ1) fun k τ2 => WR (fb δ τ2) fun z τ3 => (match lookD (der τ3 o) k with | some r => Φ (r.getD z) τ3 | none => False)
    | _ => False) := by
  simp only [wr_def, ws_def]
  exact w_get20
theorem w_frz {f : DE} {Φ : D → List D → Prop} : WR (dFrz f δ τ) Φ = WR (exitD τ (f δ τ)) Φ := by
  simp only [wr_def, ws_def]
  exact w_frz0
theorem w_callV {tbl : List (Addr × Pr)} {fo : DE} {fs : List DE} {Φ : D → List D → Prop} : WR (dCallV tbl fo fs δ τ) Φ = WR (fo δ τ) (fun d τ1 => match d with
    | .raw (.ref f) => (match tbl.find? fun p => p.1 == f with
      | some p => WR (dArgs fs δ τ1) fun ds τ2 => WR (p.2 ds τ2) Φ
      | none => False)
    | _ => False) := by
  simp only [wr_def, ws_def]
  exact w_callV0
theorem w_next : WS (dNext δ τ) O = O.nx δ τ := by
  simp only [wr_def, ws_def]
  exact w_next0
theorem w_seq {s t : DS} : WS (dSeq s t δ τ) O = WS (s δ τ) ⟨fun δ τ => WS (t δ τ) O, O.rt, O.bk, O.ct⟩ := by
  simp only [wr_def, ws_def]
  exact w_seq0
theorem w_drop {f : DE} : WS (dDrop f δ τ) O = WR (f δ τ) (fun _ τ => O.nx δ τ) := by
  simp only [wr_def, ws_def]
  exact w_drop0
theorem w_ret {f : DE} : WS (dRet f δ τ) O = WR (f δ τ) O.rt := by
  simp only [wr_def, ws_def]
  exact w_ret0
theorem w_retN : WS (dRetN δ τ) O = O.rt .non τ := by
  simp only [wr_def, ws_def]
  exact w_retN0
theorem w_break : WS (dBreak δ τ) O = O.bk δ τ := by
  simp only [wr_def, ws_def]
  exact w_break0
theorem w_cont : WS (dCont δ τ) O = O.ct δ τ := by
  simp only [wr_def, ws_def]
  exact w_cont0
theorem w_ifS {c : DT} {s t : DS} : WS (dIfS c s t δ τ) O = WR (c δ τ) (fun b τ => if b = true then WS (s δ τ) O else WS (t δ τ) O) := by
  simp only [wr_def, ws_def]
  exact w_ifS0
theorem w_asg {f : DE} {g : DG} : WS (dAsg f g δ τ) O = WR (f δ τ) (fun d τ => WR (g d δ τ) O.nx) := by
  simp only [wr_def, ws_def]
  exact w_asg0
theorem w_gname {i : Nat} {d : D} {Φ : DEnv → List D → Prop} : WR (dgName i d δ τ) Φ = Φ (δ.set i (some d)) τ := by
  simp only [wr_def, ws_def]
  exact w_gname0
theorem w_gsub {g : Pr} {fo fi : DE} {d : D} {Φ : DEnv → List D → Prop} : WR (dgSub g fo fi d δ τ) Φ = WR (fo δ τ) (fun o τ => WR (fi δ τ) fun i τ => WR (g [o, i, d] τ) fun _ τ => Φ δ τ) := by
  simp only [wr_def, ws_def]
  exact w_gsub0
theorem w_gtup {gs : List DG} {d : D} {Φ : DEnv → List D → Prop} : WR (dgTup gs d δ τ) Φ = (match der τ d with
    | .tup ds => ds.length = gs.length ∧ WR (dgL gs ds δ τ) Φ
    | .lst ds => ds.length = gs.length ∧ WR (dgL gs ds δ τ) Φ
    | _ => False) := by
  simp only [wr_def, ws_def]
  exact w_gtup0
theorem w_gnil {Φ : DEnv → List D → Prop} : WR (dgL [] [] δ τ) Φ = Φ δ τ := by
  simp only [wr_def, ws_def]
  exact w_gnil0
theorem w_gcons {g : DG} {gs : List DG} {d : D} {ds : List D} {Φ : DEnv → List D → Prop} : WR (dgL (g :: gs) (d :: ds) δ τ) Φ = WR (g d δ τ) (fun δ τ => WR (dgL gs ds δ τ) Φ) := by
  simp only [wr_def, ws_def]
  exact w_gcons0
theorem w_par {is : List Nat} {fs : List DE} : WS (dPar is fs δ τ) O = WR (dArgs fs δ τ) (fun ds τ => O.nx ((is.zip ds).foldl (fun δ p => δ.set p.1 (some p.2)) δ) τ) := by
  simp only [wr_def, ws_def]
  exact w_par0
theorem w_setFld {C : Addr} {f : Str} {fo fv : DE} : WS (dSetFld C f fo fv δ τ) O = WR (fv δ τ) (fun v τ1 => WR (fo δ τ1) fun d τ2 => match d with
    | .cell k => (match τ2[k]? with
      | some (.obj C' fs) => (C' = C ∧ fs.length < 1000) ∧ O.nx δ (τ2.set k (.obj C (putD f v fs)))
      | _ => False)
    | _ => False) := by
  simp only [wr_def, ws_def]
  exact w_setFld0
theorem w_while {fuel : DEnv → List D → Nat} {c : DT} {b : DS} : WS (dWhile fuel c b δ τ) O = WS (whileL c b (fuel δ τ) δ τ) O := by
  simp only [wr_def, ws_def]
  exact w_while0
theorem w_for {it : DI} {g : DG} {b : DS} : WS (dFor it g b δ τ) O = WR (it δ τ) (fun xs τ => WS (forL g b xs δ τ) O) := by
  simp only [wr_def, ws_def]
  exact w_for0
theorem w_items {f : DE} {Φ : List D → List D → Prop} : WR (dItems f δ τ) Φ = WR (f δ τ) (fun d τ => match d with
    | .lst ds => Φ ds τ
    | .tup ds => Φ ds τ
    | .frt ds => Φ ds τ
    | _ => False) := by
  simp only [wr_def, ws_def]
  exact w_items0
theorem w_range1 {f : DE} {Φ : List D → List D → Prop} : WR (dRange1 f δ τ) Φ = WR (f δ τ) (fun d τ => match der τ d with
    | .int j => (-(2 ^ 62) ≤ j ∧ j < 2 ^ 62) ∧ Φ ((List.range j.toNat).map fun (i : Nat) => D.int (i : Int)) τ
    | _ => False) := by
  simp only [wr_def, ws_def]
  exact w_range10
theorem w_forI {g : DG} {b : DS} {xs : List D} (Inv : Nat → DEnv → List D → Prop) (h0 : Inv 0 δ τ)
    (hs : ∀ (i : Nat) (x : D) (δ : DEnv) (τ : List D), xs[i]? = some x → Inv i δ τ → WR (g x δ τ) fun δ τ => WS (b δ τ) ⟨Inv (i + 1), O.rt, O.nx, Inv (i + 1)⟩)
    (he : ∀ δ τ, Inv xs.length δ τ → O.nx δ τ) : WS (forL g b xs δ τ) O := by
  simp only [wr_def, ws_def] at *
  exact w_forI0 Inv h0 hs he
theorem w_whileI {c : DT} {b : DS} {N : Nat} (Inv : Nat → DEnv → List D → Prop) (m : Nat) (hm : m < N) (h0 : Inv m δ τ)
    (hs : ∀ (m : Nat) (δ : DEnv) (τ : List D), Inv m δ τ → WR (c δ τ) fun k τ => if k = true then WS (b δ τ) ⟨fun δ τ => ∃ m', m' < m ∧ Inv m' δ τ, O.rt, O.nx, fun δ τ => ∃ m', m' < m ∧ Inv m' δ τ⟩ else O.nx δ τ) : WS (whileL c b N δ τ) O := by
  simp only [wr_def, ws_def] at *
  exact w_whileI0 Inv m hm h0 hs
theorem w_lc {own : List Nat} {it : DI} {g : DG} {ts : DT} {f : DE} {Φ : D → List D → Prop} : WR (dLC own it g ts f δ τ) Φ = WR (it δ τ) (fun xs τ => xs.length ≤ cap ∧ WR (lcL g ts f (wipeD δ own) xs τ) fun ys τ => Φ (.lst ys) τ) := by
  simp only [wr_def, ws_def]
  exact w_lc0
theorem w_lcnil {g : DG} {ts : DT} {f : DE} {Φ : List D → List D → Prop} : WR (lcL g ts f δ [] τ) Φ = Φ [] τ := by
  simp only [wr_def, ws_def]
  exact w_lcnil0
theorem w_lccons {g : DG} {ts : DT} {f : DE} {x : D} {xs : List D} {Φ : List D → List D → Prop} : WR (lcL g ts f δ (x :: xs) τ) Φ = WR (g x δ τ) (fun δ1 τ1 => WR (ts δ1 τ1) fun b τ2 => if b = true then WR (f δ1 τ2) (fun y τ3 => WR (lcL g ts f δ xs τ3) fun ys τ4 => Φ (y :: ys) τ4) else WR (lcL g ts f δ xs τ2) Φ) := by
  simp only [wr_def, ws_def]
  exact w_lccons0
theorem w_lcmap {g : DG} {ts : DT} {f : DE} {xs : List D} {F : D → D} {Φ : List D → List D → Prop} (h : ∀ x ∈ xs, WR (g x δ τ) fun δ1 τ1 => WR (ts δ1 τ1) fun b τ2 => b = true ∧ WR (f δ1 τ2) fun y τ3 => y = F x ∧ τ3 = τ) (q : Φ (xs.map F) τ) : WR (lcL g ts f δ xs τ) Φ := by
  simp only [wr_def, ws_def] at *
  exact w_lcmap0 h q
theorem w_def {m : Nat} {body : DS} {ds : List D} {Φ : D → List D → Prop} : WR (dDef m body ds τ) Φ = WS (body (ds.map some ++ List.replicate (m - ds.length) none) τ) ⟨fun _ τ => Φ .non τ, Φ, fun _ _ => False, fun _ _ => False⟩ := by
  simp only [wr_def, ws_def]
  exact w_def0
theorem w_exitP {g : Pr} {ds : List D} {Φ : D → List D → Prop} (h : WR (g ds τ) fun d τ' => Pla d ∧ Older τ τ' ∧ Φ d (τ'.take τ.length)) : WR (exitP g ds τ) Φ := by
  simp only [wr_def, ws_def] at *
  exact w_exitP0 h
theorem w_exitD {r : R D} {Φ : D → List D → Prop} (h : WR r fun d τ' => ∃ e, frzD (celF τ.length τ' 6) d = some e ∧ Older τ τ' ∧ Φ e (τ'.take τ.length)) : WR (exitD τ r) Φ := by
  simp only [wr_def, ws_def] at *
  exact w_exitD0 h
variable {c : Bool} {i j : Int} {Φd : D → List D → Prop}
theorem p_add : WR (pAdd c [.int i, .int j] τ) Φd = Φd (.int (i + j)) τ := by
  simp only [wr_def, ws_def]
  exact p_add0
theorem p_sub : WR (pSub [.int i, .int j] τ) Φd = Φd (.int (i - j)) τ := by
  simp only [wr_def, ws_def]
  exact p_sub0
theorem p_mul : WR (pMul c [.int i, .int j] τ) Φd = ((i.natAbs < BIG ∧ j.natAbs < BIG) ∧ Φd (.int (i * j)) τ) := by
  simp only [wr_def, ws_def]
  exact p_mul0
theorem p_fdiv : WR (pFdiv [.int i, .int j] τ) Φd = ((0 < j ∧ j.natAbs < BIGD) ∧ Φd (.int (i / j)) τ) := by
  simp only [wr_def, ws_def]
  exact p_fdiv0
theorem p_mod : WR (pMod [.int i, .int j] τ) Φd = (0 < j ∧ Φd (.int (i % j)) τ) := by
  simp only [wr_def, ws_def]
  exact p_mod0
theorem p_pow : WR (pPow [.int i, .int j] τ) Φd = ((0 ≤ j ∧ j ≤ 1000 ∧ i.natAbs ≤ 1000000) ∧ Φd (.int (i ^ j.toNat)) τ) := by
  simp only [wr_def, ws_def]
  exact p_pow0
theorem p_neg : WR (pNeg [.int i] τ) Φd = Φd (.int (-i)) τ := by
  simp only [wr_def, ws_def]
  exact p_neg0
theorem p_cmp {f : Int → Int → Bool} : WR (pCmp f [.int i, .int j] τ) Φd = Φd (.bl (f i j)) τ := by
  simp only [wr_def, ws_def]
  exact p_cmp0
theorem p_abs : WR (pAbs [.int i] τ) Φd = Φd (.int (if i < 0 then -i else i)) τ := by
  simp only [wr_def, ws_def]
  exact p_abs0
theorem p_min2 : WR (pMin [.int i, .int j] τ) Φd = Φd (.int (if j < i then j else i)) τ := by
  simp only [wr_def, ws_def]
  exact p_min20
theorem p_max2 : WR (pMax [.int i, .int j] τ) Φd = Φd (.int (if j > i then j else i)) τ := by
  simp only [wr_def, ws_def]
  exact p_max20
theorem p_eqI {n : Bool} : WR (pEq n [.int i, .int j] τ) Φd = Φd (.bl (if n then !decide (i = j) else decide (i = j))) τ := by
  simp only [wr_def, ws_def]
  exact p_eqI0
theorem p_notB {b : Bool} : WR (pNot [.bl b] τ) Φd = Φd (.bl (!b)) τ := by
  simp only [wr_def, ws_def]
  exact p_notB0
theorem p_lenL {xs : List D} : WR (pLen [.lst xs] τ) Φd = Φd (.int xs.length) τ := by
  simp only [wr_def, ws_def]
  exact p_lenL0
theorem p_lenT {xs : List D} : WR (pLen [.tup xs] τ) Φd = Φd (.int xs.length) τ := by
  simp only [wr_def, ws_def]
  exact p_lenT0
theorem p_listL {xs : List D} : WR (pList false [.lst xs] τ) Φd = Φd (.lst xs) τ := by
  simp only [wr_def, ws_def]
  exact p_listL0
theorem newL_w {xs : List D} : WR (newL false xs τ) Φd = Φd (.lst xs) τ := by
  simp only [wr_def, ws_def]
  exact newL_w0
theorem newLC_w {xs : List D} : WR (newL true xs τ) Φd = Φd (.cell τ.length) (τ ++ [.lst xs]) := by
  simp only [wr_def, ws_def]
  exact newLC_w0
theorem p_ixL {xs : List D} : WR (pIx [.lst xs, .int j] τ) Φd = (match atI xs j with | some d => Φd d τ | none => False) := by
  simp only [wr_def, ws_def]
  exact p_ixL0
theorem p_ixT {xs : List D} : WR (pIx [.tup xs, .int j] τ) Φd = (match atI xs j with | some d => Φd d τ | none => False) := by
  simp only [wr_def, ws_def]
  exact p_ixT0
end
theorem w_yes {δ : DEnv} {τ : List D} {Φ : Bool → List D → Prop} : WR (dYes δ τ) Φ = Φ true τ := by with_unfolding_all rfl
end DL

namespace DL
open PySem L2
theorem big_of {x : Int} (h : x.natAbs < 10 ^ 120) : x.natAbs < BIG := by
  unfold BIG
  exact Nat.lt_trans h (by decide +kernel)
theorem bigd_of {x : Int} (h : x.natAbs < 10 ^ 120) : x.natAbs < BIGD := by
  unfold BIGD
  exact Nat.lt_trans h (by decide +kernel)
def penD (c : List Int) (t l : Int) : D := .dic [(.inr "cells", .lst (c.map .int)), (.inr "turn", .int t), (.inr "left", .int l)]
def PenOk (B : Int) (d : D) : Prop := ∃ c t l, d = penD c t l ∧ 0 ≤ t ∧ t ≤ B ∧ 0 ≤ l
theorem k1 : ¬ ((Sum.inr ("cells" : Str) : Sum Int Str) = Sum.inr ("turn" : Str)) := by decide +kernel
theorem k2 : ¬ ((Sum.inr ("cells" : Str) : Sum Int Str) = Sum.inr ("left" : Str)) := by decide +kernel
theorem k3 : ¬ ((Sum.inr ("turn" : Str) : Sum Int Str) = Sum.inr ("left" : Str)) := by decide +kernel
section
variable {c : List Int} {t l x : Int} {r : List D} {Φ : D → List D → Prop}
theorem ix_cells : WR (pIx [.cell 0, .str "cells"] (penD c t l :: r)) Φ = Φ (.lst (c.map .int)) (penD c t l :: r) := by
  have e : lookD (der (penD c t l :: r) (.cell 0)) (.str "cells") = some (some (.lst (c.map .int))) := by
    show some (valD _ (Sum.inr ("cells" : Str) : Sum Int Str)) = _
    simp [valD]
  show WR (match lookD (der (penD c t l :: r) (.cell 0)) (.str "cells") with | some (some d) => R.ok d (penD c t l :: r) | _ => .bad) Φ = _
  rw [e]; with_unfolding_all rfl
theorem ix_turn : WR (pIx [.cell 0, .str "turn"] (penD c t l :: r)) Φ = Φ (.int t) (penD c t l :: r) := by
  have e : lookD (der (penD c t l :: r) (.cell 0)) (.str "turn") = some (some (.int t)) := by
    show some (valD _ (Sum.inr ("turn" : Str) : Sum Int Str)) = _
    simp only [valD, if_neg k1, if_true]
  show WR (match lookD (der (penD c t l :: r) (.cell 0)) (.str "turn") with | some (some d) => R.ok d (penD c t l :: r) | _ => .bad) Φ = _
  rw [e]; with_unfolding_all rfl
theorem ix_left : WR (pIx [.cell 0, .str "left"] (penD c t l :: r)) Φ = Φ (.int l) (penD c t l :: r) := by
  have e : lookD (der (penD c t l :: r) (.cell 0)) (.str "left") = some (some (.int l)) := by
    show some (valD _ (Sum.inr ("left" : Str) : Sum Int Str)) = _
    simp only [valD, if_neg k2, if_neg k3, if_true]
  show WR (match lookD (der (penD c t l :: r) (.cell 0)) (.str "left") with | some (some d) => R.ok d (penD c t l :: r) | _ => .bad) Φ = _
  rw [e]; with_unfolding_all rfl
theorem set_turn : WR (pSet [.cell 0, .str "turn", .int x] (penD c t l :: r)) Φ = Φ .non (penD c x l :: r) := by
  have e : putKD (Sum.inr ("turn" : Str) : Sum Int Str) (.int x) [(.inr "cells", .lst (c.map .int)), (.inr "turn", .int t), (.inr "left", .int l)] = [(.inr "cells", .lst (c.map .int)), (.inr "turn", .int x), (.inr "left", .int l)] := by
    simp only [putKD, if_neg k1, if_true]
  show WR (if 3 < cap then R.ok .non ((penD c t l :: r).set 0 (.dic (putKD (Sum.inr ("turn" : Str) : Sum Int Str) (.int x) [(.inr "cells", .lst (c.map .int)), (.inr "turn", .int t), (.inr "left", .int l)]))) else .bad) Φ = _
  rw [e, if_pos (by decide)]; with_unfolding_all rfl
theorem set_left : WR (pSet [.cell 0, .str "left", .int x] (penD c t l :: r)) Φ = Φ .non (penD c t x :: r) := by
  have e : putKD (Sum.inr ("left" : Str) : Sum Int Str) (.int x) [(.inr "cells", .lst (c.map .int)), (.inr "turn", .int t), (.inr "left", .int l)] = [(.inr "cells", .lst (c.map .int)), (.inr "turn", .int t), (.inr "left", .int x)] := by
    simp only [putKD, if_neg k2, if_neg k3, if_true]
  show WR (if 3 < cap then R.ok .non ((penD c t l :: r).set 0 (.dic (putKD (Sum.inr ("left" : Str) : Sum Int Str) (.int x) [(.inr "cells", .lst (c.map .int)), (.inr "turn", .int t), (.inr "left", .int l)]))) else .bad) Φ = _
  rw [e, if_pos (by decide)]; with_unfolding_all rfl
end
theorem toPs_ints : ∀ c : List Int, toPs (c.map D.int) = some (c.map PyData.int)
  | [] => rfl
  | i :: c => by simp [toPs, toP, toPs_ints c]
theorem depth_ints : ∀ c : List Int, PyData.depthAll (c.map PyData.int) ≤ 1
  | [] => by simp [PyData.depthAll]
  | i :: c => by
    have := depth_ints c
    simp only [List.map_cons, PyData.depthAll, PyData.depth]
    omega
theorem canLay_ints : ∀ c : List Int, PyData.canLayAll0 (c.map PyData.int) = true
  | [] => rfl
  | i :: c => by simp [PyData.canLayAll0, PyData.canLay0, canLay_ints c]
theorem shaped_ints (c : List Int) : SeqAt.shaped (.list (c.map PyData.int)) = true := by
  unfold SeqAt.shaped
  have := depth_ints c
  simp only [PyData.canLay0, canLay_ints, PyData.depth, Bool.true_and]
  exact decide_eq_true (by omega)
theorem p_neNil {c : List Int} {τ : List D} {Φ : D → List D → Prop} : WR (pEq true [.lst (c.map .int), .lst []] τ) Φ = Φ (.bl (decide (c ≠ []))) τ := by
  have e1 : toPC τ (.lst (c.map .int)) = some (.list (c.map .int)) := by
    show (toPs (c.map .int)).map PyData.list = _
    rw [toPs_ints]; rfl
  have e2 : toPC τ (.lst []) = some (.list []) := rfl
  show WR (match toPC τ (.lst (c.map .int)), toPC τ (.lst []) with
      | some p, some q => if SeqAt.shaped p = true ∧ SeqAt.shaped q = true then R.ok (.bl (if true then !PyData.eqv p q else PyData.eqv p q)) τ else .bad
      | _, _ => .bad) Φ = _
  rw [e1, e2]
  show WR (if SeqAt.shaped (.list (c.map .int)) = true ∧ SeqAt.shaped (.list []) = true then R.ok (.bl (!PyData.eqv (.list (c.map .int)) (.list []))) τ else .bad) Φ = _
  rw [if_pos ⟨shaped_ints c, shaped_ints []⟩]
  cases c <;> with_unfolding_all rfl
theorem w_cut {s t : DS} {δ : DEnv} {τ : List D} {O : Out} (Mid : DEnv → List D → Prop) (h : WS (s δ τ) ⟨Mid, O.rt, O.bk, O.ct⟩) (k : ∀ δ τ, Mid δ τ → WS (t δ τ) O) : WS (dSeq s t δ τ) O := by
  rw [w_seq]; exact h.mono k (fun _ _ z => z) (fun _ _ z => z) (fun _ _ z => z)
/-- the names and the store are these -/
structure At (δ : DEnv) (τ : List D) (δ0 : DEnv) (τ0 : List D) : Prop where
  e : δ = δ0
  t : τ = τ0
structure IntIn (lo hi B : Int) (r : List D) (d : D) (τ : List D) : Prop where
  ex : ∃ i p', d = .int i ∧ τ = p' :: r ∧ PenOk B p' ∧ lo ≤ i ∧ i < hi
theorem PenOk.mono {B B' : Int} {p : D} (h : PenOk B p) (k : B ≤ B') : PenOk B' p := by
  obtain ⟨c, t, l, h1, h2, h3, h4⟩ := h
  exact ⟨c, t, l, h1, h2, Int.le_trans h3 k, h4⟩
theorem PenOk.pla {B : Int} {p : D} (h : PenOk B p) : Pla p := by
  obtain ⟨c, t, l, rfl, _⟩ := h
  refine pla_dic fun d hd => ?_
  simp only [List.mem_cons, List.not_mem_nil, or_false] at hd
  rcases hd with rfl | rfl | rfl
  · exact pla_lst fun d hd => by obtain ⟨i, _, rfl⟩ := List.mem_map.mp hd; exact pla_int i
  · exact pla_int _
  · exact pla_int _
theorem atI_nat {xs : List D} {j : Int} (h0 : 0 ≤ j) (h1 : j < xs.length) : ∃ d, atI xs j = some d ∧ xs[j.toNat]? = some d := by
  have hl : j.toNat < xs.length := by omega
  refine ⟨xs[j.toNat], ?_, by simp [hl]⟩
  unfold atI ixN
  simp [h0, h1, hl]
end DL

namespace DL
open PySem L2
/-! ### repr of data -/
def pReprD : Pr
  | [d], τ => match der τ d with
    | .int i => if i.natAbs.log2 < 1920 then .ok (.str (toString i : String)) τ else .bad
    | .lst xs => (match toPs xs with
      | some ps => if PyData.showable (.list ps) = true ∧ PyData.hasDict (.list ps) = false ∧ PyData.depth (.list ps) ≤ 60 ∧ (PyData.shown (.list ps)).length ≤ cap then .ok (.str (PyData.shown (.list ps))) τ else .bad
      | none => .bad)
    | .tup xs => (match toPs xs with
      | some ps => if PyData.showable (.tuple ps) = true ∧ PyData.hasDict (.tuple ps) = false ∧ PyData.depth (.tuple ps) ≤ 60 ∧ (PyData.shown (.tuple ps)).length ≤ cap then .ok (.str (PyData.shown (.tuple ps))) τ else .bad
      | none => .bad)
    | _ => .bad
  | _, _ => .bad
/-- repr(x), x a list or a tuple of data -/
def rReprD (K : PySem.W.Frag) : List V → Hp → VK → Prop := fun xs H Q => ∃ (a : Addr) (p : PyData), xs = [.ref a] ∧ Dp K H (.ref a) p ∧ PyData.showable p = true ∧ PyData.hasDict p = false ∧ p.depth ≤ 60 ∧ p.shown.length ≤ cap ∧ Q (.str p.shown) H
section
variable {X : Cx} {E : XK}
theorem cr_reprD (hu : X.A.units + 64 < cLine) (ga : GA X.A) : CallR X (.builtin "repr") (rReprD X.K) := by
  intro pins s σ H xs us Q I r h
  obtain ⟨a, p, rfl, hd, h1, h2, h3, h4, q⟩ := h
  obtain rfl := Vals.ref1 r
  obtain ⟨as, hr⟩ := Dp.reads I _ _ _ hd (show RelV (.ref a) (.ref a) from rfl)
  exact repr_of_reads' hr h1 (fun z => by rw [h2] at z; cases z) ga (by omega) (fun _ _ z => z) (fun h' u tk hk => ⟨.str p.shown, H, I.kept (t' := tk) hk, ⟨u, rfl⟩, q⟩) (cap_line h4)
theorem o_repr (hu : X.A.units + 64 < cLine) (ga : GA X.A) : OpC X E (.builtin "repr") pReprD := CallR.any fun xs H Q h => by
  obtain ⟨P, M, τ, ds, S, r, p⟩ := h
  match ds, p with
  | [d], p =>
    obtain ⟨v, rfl, rv⟩ := r.one
    unfold pReprD at p
    simp only at p
    split at p
    · rename_i i hi
      split at p
      · rename_i hz
        exact ⟨_, SkE.call_repr_int, i, by rw [rep_int rv S hi], hz, Post.here p S _ (.str _)⟩
      · exact p.elim
    · rename_i xs hx
      split at p
      · rename_i ps hps
        split at p
        · rename_i hz
          obtain ⟨a, vs, rfl, ha, ra⟩ := rep_lst rv S hx
          have hd : Dp X.K H (.ref a) (.list ps) := rv.dpC S (by unfold toPC; rw [hx]; show (toPs xs).map PyData.list = _; rw [hps]; rfl)
          exact ⟨_, cr_reprD hu ga, a, .list ps, rfl, hd, hz.1, hz.2.1, hz.2.2.1, hz.2.2.2, Post.here p S _ (.str _)⟩
        · exact p.elim
      · exact p.elim
    · rename_i xs hx
      split at p
      · rename_i ps hps
        split at p
        · rename_i hz
          obtain ⟨a, vs, rfl, ha, ra⟩ := rep_tup rv S hx
          have hd : Dp X.K H (.ref a) (.tuple ps) := rv.dpC S (by unfold toPC; rw [hx]; show (toPs xs).map PyData.tuple = _; rw [hps]; rfl)
          exact ⟨_, cr_reprD hu ga, a, .tuple ps, rfl, hd, hz.1, hz.2.1, hz.2.2.1, hz.2.2.2, Post.here p S _ (.str _)⟩
        · exact p.elim
      · exact p.elim
    · exact p.elim
  | [], p => exact p.elim
  | _ :: _ :: _, p => exact p.elim

/-! ### == and != and len by a class's own methods -/
/-- what a class must have for its own == -/
structure DEq (P : Program) (w : World) (K : PySem.W.Frag) (mg : Str → Option Value) (base : Heap) (CX : CXT) (k : Nat) (C : Addr) (g : Pr) : Prop where
  ex : ∃ (f : Addr) (fd : FuncData) (ps : List Str), FnG P w K mg base CX k f fd ps (spD K 2 g) ∧ Binds K fd ps [] ∧ PySem.W.findIn K (.ref C) "__eq__" = some (some (.ref f)) ∧ PySem.W.isFn K (.ref f) = true ∧
    PySem.W.findIn K (.ref C) "__ne__" = some (some (.builtin "object.__ne__")) ∧ PySem.W.mroIn K C (.type "object") = some true
/-- the two objects compared; the answer of the own == -/
def pEqO (neg : Bool) (C : Addr) (g : Pr) : Pr
  | [d, e], τ => match der τ d, der τ e with
    | .obj C1 _, .obj C2 _ => if C1 = C ∧ C2 = C then (g [d, e] τ).bind fun r τ' => (match r with
      | .bl b => .ok (.bl (if neg then !b else b)) τ'
      | _ => .bad) else .bad
    | _, _ => .bad
  | _, _ => .bad
theorem eq_run {CX : CXT} {A : Around} {k : Nat} {f : Addr} {fd : FuncData} {ps : List Str} {g : Pr} {pins : List (Addr × Obj)} {σ : St} {H : Hp} {s : Shared} {Q : VK} {vs : List V} {us : List Value} {n : Nat} (F : FnG X.prog X.w X.K X.mg X.base CX k f fd ps (spD X.K n g)) (rm : Room k A) (ga : GA A) (fr : A.frames = X.A.frames)
    (bi : Binds X.K fd ps []) (ex : Passes CX X E) (I : Inv X pins σ H s) (rv : Vals vs us) (h : spD X.K n g vs H Q E) : wpAny (model X.prog X.w) A (call (.ref f) us) (EP X pins σ Q) X.xe s := by
  have hl := F.len _ _ _ _ h
  have e := I.env0
  have e0 : Env0 X.prog X.w X.K X.mg X.base A X.stack s H := ⟨fr.trans e.frames, e.mod, e.bs, e.bsz, e.funs, e.frf, e.hok, e.bare⟩
  have bb := bi s us I.kIn (by rw [List.append_nil, ← rv.length]; exact hl)
  rw [List.append_nil] at bb
  refine wpAny_call (codeAny_mono (F.run A X.stack s H ⟨us, []⟩ us vs Q E rm ga e0 bb rv h) ?_)
  intro r s' z
  rcases r with y | fl
  · exact ex pins σ H s y s' I z
  · rcases fl with u | _ | _ | _
    · first | exact I.after z | exact z.elim
    · first | exact I.after z | exact z.elim
    · first | exact I.after z | exact z.elim
    · first | exact I.after z | exact z.elim
section
variable {prog : Program} {w : World} {A : Around} {E : Value → Shared → Prop} {s : Shared} {K : PySem.W.Frag} {x C f : Addr} {b : Value} {ox : Obj} {od : Option Obj}
theorem ne_bound {Q : Option Value → Shared → Prop} {args : List Value} (X : K.In s.heap) (I : PySem.W.InstAt s.heap x ox C od) (hs : PySem.W.findIn K (.ref C) "__ne__" = some (some (.builtin "object.__ne__")))
    (h : wpAny (model prog w) A (call (.builtin "object.__ne__") (.ref x :: args)) (fun v => Q (some v)) E s) : wpAny (model prog w) A (callSpecialIfBound? (.ref x) "__ne__" args) Q E s := by
  have out : wpAny (model prog w) A (call (.builtin "object.__ne__") ([.ref x] ++ args) >>= fun v => pure (some v)) Q E s := wpAny_bind (wpAny_mono h (fun _ _ z => wpAny_pure z) fun _ _ z => z)
  simp only [callSpecialIfBound?, bindSpecialIfBound?]
  refine wpAny_holding (wpAny_bind (wpAny_bind (wpAny_bind (I.type.here ((PySem.W.looks_findIn X hs).here (wpAny_bind (wpAny_askSetting (wpAny_ite ?_))))))))
  split
  · exact wpAny_bind (wpAny_of_eq (F.cmp_object.ne.bind _) (wpAny_pure (by exact out)))
  · exact wpAny_tryCatch (wpAny_bind (wpAny_of_eq (F.cmp_object.ne.bind _) (wpAny_pure (by exact out))))
theorem ne_entry {Q : Fin → Shared → Prop} (hu : A.units < cLine) (X : K.In s.heap) (I : PySem.W.InstAt s.heap x ox C od) (hs : PySem.W.findIn K (.ref C) "__eq__" = some (some (.ref f))) (hf : PySem.W.isFn K (.ref f) = true)
    (h : wpAny (model prog w) A (call (.ref f) [.ref x, b]) (fun v s' => ∃ c, v = .bool c ∧ Q (.done (.ret (.bool (!c)))) s') E s) : wpAny (model prog w) A (Builtin.«object.__ne__» ⟨[.ref x, b], []⟩) Q E s := by
  unfold Builtin.«object.__ne__»
  repeat (first
    | with_reducible refine wpAny_cRoomFor hu ?_
    | (refine wpAny_bind (m := callSpecialIfBound? (.ref x) (Str.ofString "__eq__") [b]) (PySem.W.ifBound_K X I hs hf (wpAny_mono h (fun r s' hr => by
          obtain ⟨c, rfl, hq⟩ := hr
          repeat (first | exact hq | exact wpAny_pure hq | exact wpAny_truthy_bool hq | (refine wpAny_bind (m := truthy (.bool _)) (wpAny_truthy_bool ?_)) | wp_step)) fun _ _ e => e)))
    | wp_step)
theorem cmp_ne {Q : Value → Shared → Prop} (hu : A.units + 1 < cLine) (X : K.In s.heap) (I : PySem.W.InstAt s.heap x ox C od) (hb : PySem.W.Looks (model prog w) s.heap (typeOf b) (.ref C)) (hm : PySem.W.mroIn K C (.type "object") = some true)
    (hn : PySem.W.findIn K (.ref C) "__ne__" = some (some (.builtin "object.__ne__"))) (hs : PySem.W.findIn K (.ref C) "__eq__" = some (some (.ref f))) (hf : PySem.W.isFn K (.ref f) = true)
    (h : wpAny (model prog w) A.in1 (call (.ref f) [.ref x, b]) (fun v s' => ∃ c, v = .bool c ∧ Q (.bool (!c)) s') E s) : wpAny (model prog w) A (richCompare .NotEq (.ref x) b) Q E s := by
  have one : wpAny (model prog w) A (tryCompare (.ref x) "__ne__" b) (fun r s' => ∃ v, r = some v ∧ Q v s') E s := by
    unfold tryCompare
    refine wpAny_bind (ne_bound X I hn (wpAny_call (codeAny_call_builtin F.cmp_object.ne.plain F.cmpEntry_ne (PySem.W.check_slot F.cmpKind_ne F.cmpSplit_ne (I.type.andThen (PySem.W.looks_mroIn X hm)) (F.cmpArgs_ne _ _) (ne_entry (A := A.in1) hu X I hs hf (wpAny_mono h (fun v s' z => ?_) fun _ _ z => z))))))
    obtain ⟨c, rfl, hq⟩ := z
    exact ⟨c, rfl, wpAny_pure ⟨_, rfl, hq⟩⟩
  unfold richCompare
  simp only [oneThing_ref]
  refine wpAny_holding (wpAny_bind (wpAny_cRoomFor (by omega) (wpAny_bind (I.type.here (wpAny_bind (hb.here ?_))))))
  split
  · rename_i q
    simp at q
  · refine wpAny_bind (wpAny_pure ?_)
    simp only [Bool.false_eq_true, if_false]
    refine wpAny_bind (wpAny_mono one (fun r s' z => ?_) fun _ _ z => z)
    obtain ⟨v, rfl, hq⟩ := z
    exact wpAny_pure hq
end
theorem o_eqO {CX : CXT} {k j : Nat} {C : Addr} {g : Pr} (c : DEq X.prog X.w X.K X.mg X.base CX k C g) (hr : Room j X.A) (hk : k ≤ j) (ga : GA X.A) (ex : Passes CX X E) : Op2 X E (compareOp .Eq) (pEqO false C g) := by
  intro pins s σ H x y v u Q I rx ry h
  obtain ⟨P, M, τ, d, e, S, r1, r2, p⟩ := rp2 h
  unfold pEqO at p
  simp only at p
  split at p
  · rename_i C1 fs C2 gs hd he
    split at p
    · rename_i hC
      obtain ⟨rfl, rfl⟩ := hC
      obtain ⟨f, fd, ps, F, bi, hs, hf, hn, hm⟩ := c.ex
      obtain ⟨a, dx, fvs, rfl, ha, _⟩ := rep_obj r1 S hd
      obtain ⟨b, dy, gvs, rfl, hb, _⟩ := rep_obj r2 S he
      cases rx
      cases ry
      obtain ⟨_, J, _⟩ := ins_get I.hok ha
      obtain ⟨_, J', _⟩ := ins_get I.hok hb
      obtain ⟨od, J, _⟩ := J.look
      obtain ⟨od', J', _⟩ := J'.look
      obtain ⟨m, hF⟩ := I.fr
      have hsp : spD X.K 2 g [.ref a, .ref b] H (fun v H' => ∃ c, v = .bl c ∧ Q (.bl c) H') E := by
        refine ⟨rfl, P, M, τ, [d, e], S, .cons r1 (.cons r2 .nil), (Post.bind p).mono fun H1 M1 τ1 r _ e1 S1 p1 v rv => ?_⟩
        split at p1
        · cases rv
          exact ⟨_, rfl, Post.here p1 S1 _ (.bl _)⟩
        · exact p1.elim
      show wpAny _ X.A (richCompare .Eq (.ref a) (.ref b)) _ _ s
      refine PySem.W.cmp_K (op := .Eq) (tb := _) hr.units0 hF I.ok.mod.kin J J'.type (by simp [PySem.W.notFirst]) hs hf (wpAny_mono (eq_run F (hr.mono hk) ga rfl bi ex I (.cons (show RelV (.ref a) (.ref a) from rfl) (.cons (show RelV (.ref b) (.ref b) from rfl) .nil)) hsp) (fun u s' z => ?_) fun _ _ z => z)
      obtain ⟨v, H', I', rv, c, rfl, q⟩ := z
      cases rv
      exact ⟨.bl c, H', I', rfl, q⟩
    · exact p.elim
  · exact p.elim
theorem o_neO {CX : CXT} {k j : Nat} {C : Addr} {g : Pr} (c : DEq X.prog X.w X.K X.mg X.base CX k C g) (hr : Room j X.A) (hk : k + 1 ≤ j) (ga : GA X.A) (ex : Passes CX X E) : Op2 X E (compareOp .NotEq) (pEqO true C g) := by
  intro pins s σ H x y v u Q I rx ry h
  obtain ⟨P, M, τ, d, e, S, r1, r2, p⟩ := rp2 h
  unfold pEqO at p
  simp only at p
  split at p
  · rename_i C1 fs C2 gs hd he
    split at p
    · rename_i hC
      obtain ⟨rfl, rfl⟩ := hC
      obtain ⟨f, fd, ps, F, bi, hs, hf, hn, hm⟩ := c.ex
      obtain ⟨a, dx, fvs, rfl, ha, _⟩ := rep_obj r1 S hd
      obtain ⟨b, dy, gvs, rfl, hb, _⟩ := rep_obj r2 S he
      cases rx
      cases ry
      obtain ⟨_, J, _⟩ := ins_get I.hok ha
      obtain ⟨_, J', _⟩ := ins_get I.hok hb
      obtain ⟨od, J, _⟩ := J.look
      obtain ⟨od', J', _⟩ := J'.look
      have hsp : spD X.K 2 g [.ref a, .ref b] H (fun v H' => ∃ c, v = .bl c ∧ Q (.bl (!c)) H') E := by
        refine ⟨rfl, P, M, τ, [d, e], S, .cons r1 (.cons r2 .nil), (Post.bind p).mono fun H1 M1 τ1 r _ e1 S1 p1 v rv => ?_⟩
        split at p1
        · cases rv
          exact ⟨_, rfl, Post.here p1 S1 _ (.bl _)⟩
        · exact p1.elim
      show wpAny _ X.A (richCompare .NotEq (.ref a) (.ref b)) _ _ s
      have u1 := hr.units
      refine cmp_ne (by omega) I.kIn J J'.type hm hn hs hf (wpAny_mono (eq_run (A := X.A.in1) F ((hr.mono hk).in1) ga rfl bi ex I (.cons (show RelV (.ref a) (.ref a) from rfl) (.cons (show RelV (.ref b) (.ref b) from rfl) .nil)) hsp) (fun u s' z => ?_) fun _ _ z => z)
      obtain ⟨v, H', I', rv, c, rfl, q⟩ := z
      cases rv
      exact ⟨c, rfl, .bl (!c), H', I', rfl, q⟩
    · exact p.elim
  · exact p.elim
/-- isinstance(x, C), x an instance of C -/
def pIsO (C : Addr) : Pr
  | [d], τ => match der τ d with
    | .obj C1 _ => if C1 = C then .ok (.bl true) τ else .bad
    | _ => .bad
  | _, _ => .bad
structure DIs (K : PySem.W.Frag) (C : Addr) : Prop where
  cl : Cls K C
  ha : PySem.W.findIn K (.ref C) "__class__" = some (some (.builtin "object.__class__"))
  hn : PySem.W.specialIn K (.builtin "object.__class__") "__get__" = some (some (.builtin "getset_descriptor.__get__"))
  ht : PySem.W.takesIn K (.builtin "object.__class__") = some true
  hm : PySem.W.mroIn K C (.type "object") = some true
def pIsOC (C : Addr) : Pr := fun ds τ => match ds with
    | [d, .raw (.ref C')] => if C' = C then pIsO C [d] τ else .bad
    | _ => .bad
theorem o_isO {C : Addr} (c : DIs X.K C) : OpC X E (.builtin "isinstance") (pIsOC C) := CallR.any fun xs H Q h => by
  obtain ⟨P, M, τ, ds, S, r, p⟩ := h
  unfold pIsOC at p
  split at p
  · rename_i d C'
    split at p
    · rename_i hC
      subst hC
      obtain ⟨v, u, rfl, rv, ru⟩ := r.two
      unfold pIsO at p
      simp only at p
      split at p
      · rename_i C1 fs hd
        split at p
        · rename_i hC
          subst hC
          obtain ⟨a, dx, fvs, rfl, ha, _⟩ := rep_obj rv S hd
          rw [raw_rep ru]
          exact ⟨_, call_isi, .ref a, .ref C1, .ref C1, .ref C1, true, rfl, .own C1, .base (.ins ha c.cl c.ha c.hn c.ht c.hm), by unfold PySem.W.kitOne; simp, Post.here p S _ (.bl _)⟩
        · exact p.elim
      · exact p.elim
    · exact p.elim
  · exact p.elim
/-- len(x) by the own __len__ -/
structure DLn (P : Program) (w : World) (K : PySem.W.Frag) (mg : Str → Option Value) (base : Heap) (CX : CXT) (k : Nat) (C : Addr) (g : Pr) : Prop where
  ex : ∃ (f : Addr) (fd : FuncData) (ps : List Str), FnG P w K mg base CX k f fd ps (spD K 1 g) ∧ Binds K fd ps [] ∧ PySem.W.findIn K (.ref C) "__len__" = some (some (.ref f)) ∧ PySem.W.isFn K (.ref f) = true
def pLenO (C : Addr) (g : Pr) : Pr
  | [d], τ => match der τ d with
    | .obj C1 _ => if C1 = C then (g [d] τ).bind fun r τ' => (match r with
      | .int i => if 0 ≤ i ∧ i < 2 ^ 63 then .ok (.int i) τ' else .bad
      | _ => .bad) else .bad
    | _ => .bad
  | _, _ => .bad
theorem o_lenO {CX : CXT} {k j : Nat} {C : Addr} {g : Pr} (c : DLn X.prog X.w X.K X.mg X.base CX k C g) (hr : Room j X.A) (hk : k + 1 ≤ j) (ga : GA X.A) (ex : Passes CX X E) : OpC X E (.builtin "len") (pLenO C g) := by
  intro pins s σ H xs us Q I r h
  obtain ⟨P, M, τ, ds, S, rr, p0⟩ := h
  match ds, p0 with
  | [d], p =>
    clear p0
    obtain ⟨v, rfl, rv⟩ := rr.one
    unfold pLenO at p
    simp only at p
    split at p
    · rename_i C1 fs hd
      split at p
      · rename_i hC
        subst hC
        obtain ⟨f, fd, ps, F, bi, hs, hf⟩ := c.ex
        obtain ⟨a, dx, fvs, rfl, ha, _⟩ := rep_obj rv S hd
        obtain rfl := Vals.ref1 r
        obtain ⟨_, J, _⟩ := ins_get I.hok ha
        obtain ⟨od, J, _⟩ := J.look
        obtain ⟨m, hF⟩ := I.fr
        have hsp : spD X.K 1 g [.ref a] H (fun v H' => ∃ i, v = .int i ∧ (0 ≤ i ∧ i < 2 ^ 63) ∧ Q (.int i) H') E := by
          refine ⟨rfl, P, M, τ, [d], S, .cons rv .nil, (Post.bind p).mono fun H1 M1 τ1 r _ e1 S1 p1 v rv => ?_⟩
          split at p1
          · split at p1
            · rename_i hz
              cases rv
              exact ⟨_, rfl, hz, Post.here p1 S1 _ (.int _)⟩
            · exact p1.elim
          · exact p1.elim
        refine PySem.W.len_K hF I.ok.mod.kin J hs hf (wpAny_mono (eq_run (A := X.A.in1) F ((hr.mono hk).in1) ga rfl bi ex I (.cons (show RelV (.ref a) (.ref a) from rfl) .nil) hsp) (fun u s' z => ?_) fun _ _ z => z)
        obtain ⟨v, H', I', rv, i, rfl, hz, q⟩ := z
        obtain ⟨t, rfl⟩ := rv
        exact ⟨hz, .int i, H', I'.tok _, ⟨_, rfl⟩, q⟩
      · exact p.elim
    · exact p.elim
  | [], p => exact p.elim
  | _ :: _ :: _, p => exact p.elim
end
end DL

namespace DL
open PySem L2
section
variable {X : Cx} {E : XK} {e : Expr} {f : DE} {pos : Pos} {body : List Stmt} {s : DS} {g : DG}
/-- for x in l, l a list that may be changed on the way -/
def forC (k : Nat) (g : DG) (b : DS) : Nat → Nat → DS
  | 0, _, _, _ => .bad
  | n + 1, i, δ, τ => match τ[k]? with
    | some (.lst xs) => (match xs[i]? with
      | some x => (g x δ τ).toS fun δ1 τ1 => (b δ1 τ1).loop (forC k g b n (i + 1))
      | none => .nx δ τ)
    | _ => .bad
def dForC (f : DE) (g : DG) (b : DS) : DS := fun δ τ => (f δ τ).toS fun d τ' => match d with
  | .cell k => forC k g b FUEL 0 δ τ'
  | _ => .bad
theorem ds_forC {tg : Expr} (hp : PassesOwn (model X.prog X.w) X.A X.env X.xe) (hc : X.calm = true) (he : PE X e (tE X.K E f)) (hg : PG X tg (tG X.K E g)) (hb : PSs X body (tS X.K E s))
    (hs : ∀ x, foldedSetIterable e X.env x = pure x := by intro _; rfl) : PS X (.For tg e body [] pos) (tS X.K E (dForC f g s)) := by
  refine (ps_for hp hc (pi_list he) hg hb hs).imp fun Z σ H ⟨P, M, δ, τ, n, S, p⟩ => ⟨P, M, δ, τ, n, S, ?_⟩
  refine (PostS.toS p).mono fun H0 M0 τ0 d _ e0 S0 p0 v rv => ?_
  match d, p0, rv with
  | .cell k, p0, .cell (a := a) hk =>
  have p0 : PostS ⟨X.K, P⟩ E H0 M0 Z (forC k g s FUEL 0 δ τ0) := p0
  have first : ∃ xs, SqL X.K H0 a xs := by
    generalize FUEL = fu at p0
    cases fu with
    | zero => exact p0.elim
    | succ fu =>
      unfold forC at p0
      split at p0
      · rename_i xs hx
        obtain ⟨vs, h1, _⟩ := S0.at_ k a _ hk hx
        exact ⟨vs, SqL.of h1⟩
      · exact p0.elim
  refine ⟨a, rfl, first, ?_⟩
  refine ⟨fun i m σ H => ∃ M δ τ, Ext H0 M0 H M ∧ EnvD ⟨X.K, P⟩ H M σ δ ∧ Sto ⟨X.K, P⟩ H M τ ∧ PostS ⟨X.K, P⟩ E H M Z (forC k g s m i δ τ), ⟨FUEL, M0, δ, τ0, Ext.refl _ _, n.ext e0, S0, p0⟩, ?_⟩
  rintro i m σ H ⟨M, δ, τ, e, n, S, p⟩
  cases m with
  | zero => exact p.elim
  | succ m =>
    have p' := p
    unfold forC at p
    split at p
    case h_2 => exact p.elim
    rename_i xs hx
    have hk' := e.cells hk
    obtain ⟨vs, h1, r1⟩ := S.at_ k a _ hk' hx
    split at p
    · rename_i x hxi
      obtain ⟨u, hu, ru⟩ := r1.get hxi
      refine .inr ⟨⟨vs, u, SqL.of h1, hu⟩, fun σ' H' => ∃ M δ τ, Ext H0 M0 H' M ∧ EnvD ⟨X.K, P⟩ H' M σ' δ ∧ Sto ⟨X.K, P⟩ H' M τ ∧ PostS ⟨X.K, P⟩ E H' M Z (forC k g s m (i + 1) δ τ), fun σ' H' q => ⟨m, Nat.lt_succ_self _, q⟩, fun y H' ⟨e2, q⟩ => ?_⟩
      subst e2
      have ey : u = y := by
        have := q vs (SqL.of h1)
        rw [hu] at this
        exact Option.some.inj this
      subst ey
      refine ⟨P, M, δ, τ, x, n, S, ru, ?_⟩
      refine (PostS.toS p).mono fun H2 M2 τ2 δ2 _ e2 S2 p2 σ2 n2 => ⟨P, M2, δ2, τ2, n2, S2, ?_⟩
      have e02 : Ext H0 M0 H2 M2 := e.trans e2
      revert p2
      cases s δ2 τ2 with
      | nx δ3 τ3 => exact fun p3 H3 M3 σ3 e3 n3 S3 => ⟨M3, δ3, τ3, e02.trans e3, n3, S3, PostS.ext p3 e3⟩
      | ct δ3 τ3 => exact fun p3 H3 M3 σ3 e3 n3 S3 => ⟨M3, δ3, τ3, e02.trans e3, n3, S3, PostS.ext p3 e3⟩
      | bk δ3 τ3 => exact fun p3 => p3
      | rt d τ3 => exact fun p3 => p3
      | exn C fs τ3 => exact fun p3 => p3
      | bad => exact fun p3 => p3
    · rename_i hxi
      have hle : vs.length ≤ i := by rw [r1.1]; exact List.getElem?_eq_none_iff.mp hxi
      exact .inl ⟨⟨vs, SqL.of h1, hle⟩, p H M σ (Ext.refl _ _) n S⟩
end
section
variable {τ : List D} {δ : DEnv} {O : Out} {k : Nat} {g : DG} {b : DS}
theorem w_forC {f : DE} : WS (dForC f g b δ τ) O = WR (f δ τ) (fun d τ => match d with
    | .cell k => WS (forC k g b FUEL 0 δ τ) O
    | _ => False) := by
  unfold dForC; rw [ws_toS]; congr 1; funext d τ; cases d <;> with_unfolding_all rfl
/-- the list stays as it is: xs -/
theorem w_forCI {xs : List D} {n : Nat} (Inv : Nat → DEnv → List D → Prop) (hn : xs.length < n) (h0 : Inv 0 δ τ) (hk : ∀ i δ τ, Inv i δ τ → τ[k]? = some (.lst xs))
    (hs : ∀ (i : Nat) (x : D) (δ : DEnv) (τ : List D), xs[i]? = some x → Inv i δ τ → WR (g x δ τ) fun δ τ => WS (b δ τ) ⟨Inv (i + 1), O.rt, O.nx, Inv (i + 1)⟩)
    (he : ∀ δ τ, Inv xs.length δ τ → O.nx δ τ) : WS (forC k g b n 0 δ τ) O := by
  suffices H : ∀ (m i n : Nat) (δ : DEnv) (τ : List D), m = xs.length - i → i ≤ xs.length → m < n → Inv i δ τ → WS (forC k g b n i δ τ) O from H xs.length 0 n δ τ (by simp) (Nat.zero_le _) hn h0
  intro m
  induction m with
  | zero =>
    intro i n δ τ hm hi hn h
    have e : i = xs.length := by omega
    subst e
    cases n with
    | zero => omega
    | succ n =>
      unfold forC
      simp only [hk _ _ _ h, List.getElem?_eq_none (Nat.le_refl xs.length)]
      rw [ws_nx]; exact he δ τ h
  | succ m ih =>
    intro i n δ τ hm hi hn h
    cases n with
    | zero => omega
    | succ n =>
      have hlt : i < xs.length := by omega
      unfold forC
      simp only [hk _ _ _ h, List.getElem?_eq_getElem hlt]
      rw [ws_toS]
      refine (hs i xs[i] δ τ (by simp [hlt]) h).mono fun δ1 τ1 z => ?_
      rw [ws_loop]
      exact z.mono (fun δ τ z => ih (i + 1) n δ τ (by omega) (by omega) (by omega) z) (fun _ _ z => z) (fun _ _ z => z) (fun δ τ z => ih (i + 1) n δ τ (by omega) (by omega) (by omega) z)
end
end DL

namespace DL
open PySem L2
/-! ### pairs of ints as data: repr, == -/
def pairP (s : Int × Int) : PyData := .tuple [.int s.1, .int s.2]
theorem toPs_pairs : ∀ ss : List (Int × Int), toPs (ss.map pairD) = some (ss.map pairP)
  | [] => rfl
  | s :: ss => by simp [toPs, toP, pairD, pairP, toPs_pairs ss]
def Sml (s : Int × Int) : Prop := s.1.natAbs < 10 ^ 300 ∧ s.2.natAbs < 10 ^ 300
theorem log2_small {n : Nat} (h : n < 10 ^ 300) : n.log2 < 1920 := by
  have : n < 2 ^ 1920 := Nat.lt_trans h (by decide +kernel)
  by_cases h0 : n = 0
  · subst h0; decide
  · exact (Nat.log2_lt h0).mpr this
theorem showable_pairs : ∀ {ss : List (Int × Int)}, (∀ s ∈ ss, Sml s) → PyData.showableAll (ss.map pairP) = true
  | [], _ => rfl
  | s :: ss, h => by
    have hs := h s List.mem_cons_self
    simp only [List.map_cons, PyData.showableAll, pairP, PyData.showable, showable_pairs fun t ht => h t (List.mem_cons_of_mem _ ht), decide_eq_true (log2_small hs.1), decide_eq_true (log2_small hs.2), Bool.and_self]
theorem hasDict_pairs : ∀ ss : List (Int × Int), PyData.hasDictAll (ss.map pairP) = false
  | [] => rfl
  | s :: ss => by simp only [List.map_cons, PyData.hasDictAll, pairP, PyData.hasDict, hasDict_pairs ss, Bool.or_self]
theorem depth_pairs : ∀ ss : List (Int × Int), PyData.depthAll (ss.map pairP) ≤ 2
  | [] => by simp [PyData.depthAll]
  | s :: ss => by
    have := depth_pairs ss
    have e : (pairP s).depth ≤ 2 := by simp [pairP, PyData.depth, PyData.depthAll]
    simp only [List.map_cons, PyData.depthAll]
    omega
theorem bulk_pairs : ∀ ss : List (Int × Int), PyData.bulkAll (ss.map pairP) = 3 * ss.length
  | [] => rfl
  | s :: ss => by
    have := bulk_pairs ss
    simp only [List.map_cons, PyData.bulkAll, pairP, PyData.bulk, List.length_cons, this]
    omega
theorem int_short {i : Int} (h : i.natAbs < 10 ^ 300) : (PyData.shown (.int i)).length ≤ 301 := by
  have e := PySem.int_text_length_le10 (k := 300) (by decide) h
  show (Str.ofString (toString i)).length ≤ 301
  first | (rw [PySem.ofString_length]; exact e) | (rw [PyProof.Rows.ofString_length]; exact e)
theorem short_pairs : ∀ {ss : List (Int × Int)}, (∀ s ∈ ss, Sml s) → PyData.leavesShortAll 301 (ss.map pairP) = true
  | [], _ => rfl
  | s :: ss, h => by
    have hs := h s List.mem_cons_self
    have a1 : (PyData.shown (.int s.1)).length ≤ 301 := int_short hs.1
    have a2 : (PyData.shown (.int s.2)).length ≤ 301 := int_short hs.2
    simp only [List.map_cons, PyData.leavesShortAll, pairP, PyData.leavesShort, short_pairs fun t ht => h t (List.mem_cons_of_mem _ ht), decide_eq_true a1, decide_eq_true a2, Bool.and_self]
theorem canLay_pairs : ∀ ss : List (Int × Int), PyData.canLayAll0 (ss.map pairP) = true
  | [] => rfl
  | s :: ss => by simp only [List.map_cons, PyData.canLayAll0, pairP, PyData.canLay0, canLay_pairs ss, Bool.and_self]
theorem shaped_pairs (ss : List (Int × Int)) : SeqAt.shaped (.list (ss.map pairP)) = true := by
  unfold SeqAt.shaped
  have := depth_pairs ss
  simp only [PyData.canLay0, canLay_pairs, PyData.depth, Bool.true_and]
  exact decide_eq_true (by omega)
theorem eqv_pairs : ∀ (ss rs : List (Int × Int)), PyData.eqvAll (ss.map pairP) (rs.map pairP) = decide (ss = rs)
  | [], [] => rfl
  | [], _ :: _ => rfl
  | _ :: _, [] => rfl
  | s :: ss, r :: rs => by
    have ih := eqv_pairs ss rs
    simp only [List.map_cons, PyData.eqvAll, pairP, PyData.eqv, Bool.and_true] at ih ⊢
    rw [ih]
    by_cases h : s = r
    · subst h; simp
    · have : ¬ (s.1 = r.1 ∧ s.2 = r.2) := fun z => h (Prod.ext z.1 z.2)
      by_cases h1 : s.1 = r.1
      · have h2 : ¬ s.2 = r.2 := fun z => this ⟨h1, z⟩
        simp [h, h2]
      · simp [h, h1]
section
variable {τ : List D} {Φ : D → List D → Prop}
theorem repr_pairs {ss : List (Int × Int)} (h : ∀ s ∈ ss, Sml s) (hl : ss.length ≤ 1000) : WR (pReprD [.lst (ss.map pairD)] τ) Φ = Φ (.str (PyData.shown (.list (ss.map pairP)))) τ := by
  have b := PyData.shown_le_bulk 301 (by decide) (.list (ss.map pairP)) (by simp only [PyData.leavesShort]; exact short_pairs h)
  have b2 : PyData.bulk (.list (ss.map pairP)) = 3 * ss.length := by simp only [PyData.bulk]; exact bulk_pairs ss
  have c1 : PyData.showable (.list (ss.map pairP)) = true := by simp only [PyData.showable]; exact showable_pairs h
  have c2 : PyData.hasDict (.list (ss.map pairP)) = false := by simp only [PyData.hasDict]; exact hasDict_pairs ss
  have c3 : PyData.depth (.list (ss.map pairP)) ≤ 60 := by have := depth_pairs ss; simp only [PyData.depth]; omega
  unfold pReprD
  simp only [der_lst, toPs_pairs]
  rw [if_pos ⟨c1, c2, c3, by unfold cap; omega⟩]; with_unfolding_all rfl
theorem p_eqS {n : Bool} {a b : Str} : WR (pEq n [.str a, .str b] τ) Φ = Φ (.bl (if n then !decide (a = b) else decide (a = b))) τ := (by with_unfolding_all rfl)
theorem p_eqP {n : Bool} {ss rs : List (Int × Int)} : WR (pEq n [.lst (ss.map pairD), .lst (rs.map pairD)] τ) Φ = Φ (.bl (if n then !decide (ss = rs) else decide (ss = rs))) τ := by
  have e1 : ∀ xs : List (Int × Int), toPC τ (.lst (xs.map pairD)) = some (.list (xs.map pairP)) := fun xs => by
    show (toPs (xs.map pairD)).map PyData.list = _
    rw [toPs_pairs]; rfl
  show WR (match toPC τ (.lst (ss.map pairD)), toPC τ (.lst (rs.map pairD)) with
      | some p, some q => if SeqAt.shaped p = true ∧ SeqAt.shaped q = true then R.ok (.bl (if n then !PyData.eqv p q else PyData.eqv p q)) τ else .bad
      | _, _ => .bad) Φ = _
  rw [e1, e1]
  show WR (if SeqAt.shaped (.list (ss.map pairP)) = true ∧ SeqAt.shaped (.list (rs.map pairP)) = true then R.ok (.bl (if n then !PyData.eqvAll (ss.map pairP) (rs.map pairP) else PyData.eqvAll (ss.map pairP) (rs.map pairP))) τ else .bad) Φ = _
  rw [if_pos ⟨shaped_pairs ss, shaped_pairs rs⟩, eqv_pairs]; with_unfolding_all rfl
theorem p_popI {xs : List D} {i : Int} (h0 : 0 ≤ i) (h1 : i < xs.length) (h2 : xs.length ≤ 1000000) : WR (pPop [.cell τ.length, .int i] (τ ++ [.lst xs])) Φ = Φ (xs[i.toNat]'(by omega)) (τ ++ [.lst (xs.eraseIdx i.toNat)]) := by
  have e : (τ ++ [D.lst xs])[τ.length]? = some (.lst xs) := gx0
  unfold pPop
  simp only [e, der_int, sx0, List.set_cons_zero]
  rw [if_pos ⟨h0, by omega⟩, List.getElem?_eq_getElem (by omega)]; with_unfolding_all rfl
theorem w_lcmap2 {α : Type} {g : DG} {ts : DT} {f : DE} {δ : DEnv} {l : List α} {u v : α → D} {Φ : List D → List D → Prop} (h : ∀ a ∈ l, WR (g (u a) δ τ) fun δ1 τ1 => WR (ts δ1 τ1) fun b τ2 => b = true ∧ WR (f δ1 τ2) fun y τ3 => y = v a ∧ τ3 = τ) (q : Φ (l.map v) τ) : WR (lcL g ts f δ (l.map u) τ) Φ := by
  induction l generalizing Φ with
  | nil => rw [List.map_nil, w_lcnil]; exact q
  | cons x xs ih =>
    rw [List.map_cons, w_lccons]
    refine (h x List.mem_cons_self).mono fun δ1 τ1 z => z.mono fun b τ2 ⟨e, z⟩ => ?_
    rw [if_pos e]
    refine z.mono fun y τ3 ⟨e1, e2⟩ => ?_
    subst e1 e2
    exact ih (fun y hy => h y (List.mem_cons_of_mem _ hy)) q
theorem w_slL {δ : DEnv} {fo : DE} {l h : DO} {xs : List D} {a b : Option Int} (e1 : fo δ τ = .ok (.lst xs) τ) (e2 : l δ τ = .ok a τ) (e3 : h δ τ = .ok b τ) (K : Φ (.lst (cutD xs a b)) τ) : WR (dSl false fo l h δ τ) Φ := by
  unfold dSl
  rw [e1, R.bind_ok, e2, R.bind_ok, e3, R.bind_ok]
  show WR (R.ok (.lst (cutD xs a b)) τ) Φ; rw [wr_ok]; exact K
theorem cut_take {xs : List D} {k : Nat} : cutD xs none (some (k : Int)) = xs.take k := by
  unfold cutD
  rw [HT.sIx_none, HT.sIx_nat, Nat.sub_zero, List.drop_zero]
  by_cases h : k ≤ xs.length
  · rw [Nat.min_eq_left h]
  · rw [Nat.min_eq_right (by omega), List.take_of_length_le (Nat.le_refl _), List.take_of_length_le (by omega)]
theorem cut_drop {xs : List D} {k : Nat} : cutD xs (some (k : Int)) none = xs.drop k := by
  unfold cutD
  rw [HT.sIx_none, HT.sIx_nat]
  by_cases h : k ≤ xs.length
  · rw [Nat.min_eq_left h, List.take_of_length_le (by rw [List.length_drop]; omega)]
  · rw [Nat.min_eq_right (by omega), List.drop_of_length_le (by omega), List.drop_of_length_le (by omega)]; simp
end
end DL

namespace DL
open PySem L2
/-! ### x is None -/
def isNonD : D → Option Bool
  | .non => some true
  | .raw _ => none
  | _ => some false
theorem isNonD_rep {K : KP} {H : Hp} {M : List Addr} {v : V} {d : D} {b : Bool} (r : Rep K H M v d) (h : isNonD d = some b) : decide (v = .non) = b := by
  cases r <;> simp [isNonD] at h <;> subst h <;> simp
def pIsN (neg : Bool) : Pr
  | [d, .non], τ => match isNonD d with
    | some b => .ok (.bl (if neg then !b else b)) τ
    | none => .bad
  | _, _ => .bad
section
variable {X : Cx} {E : XK}
theorem o_isN : Op2 X E (compareOp .Is) (pIsN false) := OpR.any fun x y H Q h => by
  obtain ⟨P, M, τ, d, e, S, r1, r2, p⟩ := rp2 h
  unfold pIsN at p
  split at p
  · rename_i d' e'
    cases e'
    cases r2
    split at p
    · rename_i b hb
      refine ⟨_, op_isN, rfl, ?_⟩
      rw [isNonD_rep r1 hb]; exact Post.here p S _ (.bl _)
    · exact p.elim
  · exact p.elim
theorem o_isNn : Op2 X E (compareOp .IsNot) (pIsN true) := OpR.any fun x y H Q h => by
  obtain ⟨P, M, τ, d, e, S, r1, r2, p⟩ := rp2 h
  unfold pIsN at p
  split at p
  · rename_i d' e'
    cases e'
    cases r2
    split at p
    · rename_i b hb
      refine ⟨_, op_notN, rfl, ?_⟩
      rw [isNonD_rep r1 hb]; exact Post.here p S _ (.bl _)
    · exact p.elim
  · exact p.elim
end
section
variable {τ : List D} {Φ : D → List D → Prop}
theorem p_isN {neg : Bool} {d : D} : WR (pIsN neg [d, .non] τ) Φ = (match isNonD d with | some b => Φ (.bl (if neg then !b else b)) τ | none => False) := by
  unfold pIsN
  simp only
  cases isNonD d <;> with_unfolding_all rfl
end
end DL

namespace DL
open PySem L2
/-! ### k in d, k not in d (dicts) -/
section
variable {X : Cx} {E : XK}
theorem op_dIn (hu : X.A.units + 1 < cLine) : OpR X (compareOp .In) (fun x y H Q => ∃ a o, y = .ref a ∧ DGet H a x o ∧ Q (.bl o.isSome) H) := by
  rintro pins s σ H x y v u Q I rx ry ⟨a, o, rfl, g, q⟩
  obtain rfl : u = Value.ref a := ry
  exact d_in hu I g rx fun s' I' => ⟨.bl o.isSome, H, I', rfl, q⟩
theorem op_dNotIn (hu : X.A.units + 1 < cLine) : OpR X (compareOp .NotIn) (fun x y H Q => ∃ a o, y = .ref a ∧ DGet H a x o ∧ Q (.bl (!o.isSome)) H) := by
  rintro pins s σ H x y v u Q I rx ry ⟨a, o, rfl, g, q⟩
  obtain rfl : u = Value.ref a := ry
  exact d_notIn hu I g rx fun s' I' => ⟨.bl (!o.isSome), H, I', rfl, q⟩
def pIn (neg : Bool) : Pr
  | [k, o], τ => match lookD (der τ o) k with
    | some r => .ok (.bl (if neg then !r.isSome else r.isSome)) τ
    | none => .bad
  | _, _ => .bad
theorem o_in (hu : X.A.units + 1 < cLine) : Op2 X E (compareOp .In) (pIn false) := OpR.any fun x y H Q h => by
  obtain ⟨P, M, τ, d, e, S, r1, r2, p⟩ := rp2 h
  unfold pIn at p
  simp only at p
  split at p
  · rename_i r hr
    obtain ⟨a, ov, rfl, g, h1, h2⟩ := lookD_ok S r2 r1 hr
    have e : ov.isSome = r.isSome := by
      cases r with
      | none => rw [h2 rfl]; rfl
      | some d' => obtain ⟨u, hu', _⟩ := h1 d' rfl; rw [hu']; rfl
    refine ⟨_, op_dIn hu, a, ov, rfl, g, ?_⟩
    rw [e]; have := Post.here p S _ (.bl _); simpa using this
  · exact p.elim
theorem o_nin (hu : X.A.units + 1 < cLine) : Op2 X E (compareOp .NotIn) (pIn true) := OpR.any fun x y H Q h => by
  obtain ⟨P, M, τ, d, e, S, r1, r2, p⟩ := rp2 h
  unfold pIn at p
  simp only at p
  split at p
  · rename_i r hr
    obtain ⟨a, ov, rfl, g, h1, h2⟩ := lookD_ok S r2 r1 hr
    have e : ov.isSome = r.isSome := by
      cases r with
      | none => rw [h2 rfl]; rfl
      | some d' => obtain ⟨u, hu', _⟩ := h1 d' rfl; rw [hu']; rfl
    refine ⟨_, op_dNotIn hu, a, ov, rfl, g, ?_⟩
    rw [e]; have := Post.here p S _ (.bl _); simpa using this
  · exact p.elim
end
section
variable {τ : List D} {Φ : D → List D → Prop}
theorem p_in {neg : Bool} {k o : D} : WR (pIn neg [k, o] τ) Φ = (match lookD (der τ o) k with | some r => Φ (.bl (if neg then !r.isSome else r.isSome)) τ | none => False) := by
  unfold pIn
  simp only
  cases lookD (der τ o) k <;> with_unfolding_all rfl
end
end DL

/-! ### sorted(dict(pairs)), the keys pairs of ints -/
namespace DL
open PySem L2 PyProof.Rows
open PySem.W (dataLe AllAlike Sortable)

abbrev kk (e : Int × Int) : List Key := [.inl e.1, .inl e.2]
def unk : List Key → Int × Int
  | [.inl a, .inl b] => (a, b)
  | _ => (0, 0)
theorem unk_kk (e : Int × Int) : unk (kk e) = e := rfl
theorem kk_inj {a b : Int × Int} (h : kk a = kk b) : a = b := by
  have := congrArg unk h
  exact this
/-- each one once, where it came first -/
def firsts {κ : Type} [DecidableEq κ] : List κ → List κ → List κ
  | acc, [] => acc
  | acc, k :: r => firsts (if k ∈ acc then acc else acc ++ [k]) r
theorem firsts_map {α β : Type} [DecidableEq α] [DecidableEq β] {f : α → β} (hf : ∀ a b, f a = f b → a = b) : ∀ (l acc : List α), firsts (acc.map f) (l.map f) = (firsts acc l).map f
  | [], acc => rfl
  | k :: r, acc => by
    have e : (f k ∈ acc.map f) ↔ k ∈ acc := by
      constructor
      · intro h
        obtain ⟨a, h1, h2⟩ := List.mem_map.mp h
        rw [← hf _ _ h2]; exact h1
      · exact fun h => List.mem_map.mpr ⟨k, h, rfl⟩
    show firsts (if f k ∈ acc.map f then acc.map f else acc.map f ++ [f k]) (r.map f) = (firsts (if k ∈ acc then acc else acc ++ [k]) r).map f
    by_cases h : k ∈ acc
    · rw [if_pos h, if_pos (e.mpr h)]; exact firsts_map hf r acc
    · rw [if_neg h, if_neg (fun z => h (e.mp z))]
      have := firsts_map hf r (acc ++ [k])
      rwa [List.map_append] at this
theorem atKey_iff {K : Type} [DecidableEq K] {xs : List (K × Addr × Value)} {k : K} : (atKey xs k).isSome = true ↔ k ∈ xs.map (·.1) := by
  unfold atKey
  rw [Option.isSome_map, List.find?_isSome]
  constructor
  · rintro ⟨x, h1, h2⟩
    exact List.mem_map.mpr ⟨x, h1, by simpa using h2⟩
  · intro h
    obtain ⟨x, h1, h2⟩ := List.mem_map.mp h
    exact ⟨x, h1, by simpa using h2⟩
theorem stored_keys {K : Type} [DecidableEq K] : ∀ (ps xs : List (K × Addr × Value)), (storedAllH xs ps).map (·.1) = firsts (xs.map (·.1)) (ps.map (·.1))
  | [], xs => rfl
  | p :: ps, xs => by
    show (storedAllH (storedH xs p.1 p.2.1 p.2.2) ps).map (·.1) = firsts (if p.1 ∈ xs.map (·.1) then xs.map (·.1) else xs.map (·.1) ++ [p.1]) (ps.map (·.1))
    rw [stored_keys ps]
    congr 1
    unfold storedH
    by_cases h : p.1 ∈ xs.map (·.1)
    · rw [if_pos (atKey_iff.mpr h), if_pos h, List.map_map]
      refine List.map_congr_left fun x _ => ?_
      show (putAt p.1 p.2.2 x).1 = x.1
      unfold putAt
      split <;> rfl
    · rw [if_neg (fun z => h (atKey_iff.mp z)), if_neg h, List.map_append]; rfl

abbrev It4 := Addr × Addr × (Int × Int) × V
/-- the raw dict at p: its keys, one by one -/
def RawAt (φ : Heap → Prop) (p : Addr) (bs : List (Addr × Int × Int)) : Prop :=
  ∀ h, φ h → ∃ (o : Obj) (es : Array DictEntry) (ep : Nat), (p == sysModules) = false ∧ h.get? p = some o ∧ o.ExactDict ∧ o.data = .dict es ep ∧ es.toList.map (fun e => e.key) = bs.map fun b => Value.ref b.1
def rDictT : List V → Hp → VK → Prop := fun xs H Q => ∃ (a : Addr) (L : List It4), xs = [.ref a] ∧ H a = some (.lst (L.map fun z => V.ref z.1)) ∧ L.length ≤ cap ∧
  (∀ z ∈ L, H z.1 = some (.tup [.ref z.2.1, z.2.2.2]) ∧ H z.2.1 = some (.tup [.int z.2.2.1.1, .int z.2.2.1.2])) ∧
  ∀ p φ (bs : List (Addr × Int × Int)), H p = none → RawAt φ p bs → bs.map (·.2) = firsts [] (L.map fun z => z.2.2.1) → (∀ b ∈ bs, ∃ z ∈ L, z.2.1 = b.1 ∧ z.2.2.1 = b.2) → Q (.ref p) (upd H p (.ext φ))
def rSortT : List V → Hp → VK → Prop := fun xs H Q => ∃ (p : Addr) (φ : Heap → Prop) (bs : List (Addr × Int × Int)), xs = [.ref p] ∧ H p = some (.ext φ) ∧ RawAt φ p bs ∧ bs.length ≤ cap ∧
  (∀ b ∈ bs, H b.1 = some (.tup [.int b.2.1, .int b.2.2])) ∧
  ∀ l (zs : List (Addr × Int × Int)), H l = none → zs.map (·.2) = (bs.map (·.2)).mergeSort leII → (∀ z ∈ zs, z ∈ bs) → Q (.ref l) (upd H l (.lst (zs.map fun z => V.ref z.1)))
section
variable {X : Cx}
theorem firsts_len {κ : Type} [DecidableEq κ] : ∀ (l acc : List κ), (firsts acc l).length ≤ acc.length + l.length
  | [], acc => Nat.le_refl _
  | k :: r, acc => by
    show (firsts (if k ∈ acc then acc else acc ++ [k]) r).length ≤ _
    refine Nat.le_trans (firsts_len r _) ?_
    split <;> simp <;> omega
theorem items_of_dict {pins : List (Addr × Obj)} {σ : L2.St} {H : Hp} {s : Shared} (I : Inv X pins σ H s) : ∀ {L : List It4}, (∀ z ∈ L, H z.1 = some (.tup [.ref z.2.1, z.2.2.2]) ∧ H z.2.1 = some (.tup [.int z.2.2.1.1, .int z.2.2.1.2])) →
    ∃ ps : List (List Key × Addr × Value), ps.length = L.length ∧ ps.map (fun x => (x.1, x.2.1)) = L.map (fun z => (kk z.2.2.1, z.2.1)) ∧ ∀ (j : Nat) (x : List Key × Addr × Value), ps[j]? = some x → ∃ z, L[j]? = some z ∧ s.heap.IsTuple z.1 #[.ref x.2.1, x.2.2]
  | [], _ => ⟨[], rfl, rfl, fun j x h => by simp at h⟩
  | z :: L, h => by
    obtain ⟨ps, e1, e2, e3⟩ := items_of_dict I (L := L) fun y hy => h y (List.mem_cons_of_mem _ hy)
    obtain ⟨h1, _⟩ := h z List.mem_cons_self
    obtain ⟨_, its, rv, ht⟩ := (show ObjOk X.prog X.w H s.heap z.1 (.tup [.ref z.2.1, z.2.2.2]) from I.hok z.1 _ h1)
    obtain ⟨u, y, rfl, ru, ry⟩ := vals2 rv
    obtain rfl : u = .ref z.2.1 := ru
    refine ⟨(kk z.2.2.1, z.2.1, y) :: ps, by simp [e1], by simp [e2], fun j x hj => ?_⟩
    cases j with
    | zero =>
      have : (kk z.2.2.1, z.2.1, y) = x := by simpa using hj
      subst this
      exact ⟨z, rfl, ht⟩
    | succ j =>
      obtain ⟨w, w1, w2⟩ := e3 j x (by simpa using hj)
      exact ⟨w, by simpa using w1, w2⟩
theorem cr_dictT (hc : X.calm = true) (hu : X.A.units + 64 < cLine) : CallR X (.type "dict") rDictT := by
  intro pins s σ H xs us Q I r h
  obtain ⟨a, L, rfl, ha, hz, hL, q⟩ := h
  obtain rfl := Vals.ref1 r
  obtain ⟨hlen, its, n, rv, hlen2, hob⟩ := I.lstM ha
  have ei : its = (L.map (·.1)).map Value.ref := refs_at (ps := L.map (·.1)) (by rw [List.map_map]; exact rv)
  obtain ⟨ps, e1, e2, e3⟩ := items_of_dict I hL
  have kin : ∀ x ∈ ps, ∃ z ∈ L, x.1 = kk z.2.2.1 ∧ x.2.1 = z.2.1 := fun x hx => by
    have : (x.1, x.2.1) ∈ L.map (fun z => (kk z.2.2.1, z.2.1)) := by rw [← e2]; exact List.mem_map.mpr ⟨x, hx, rfl⟩
    obtain ⟨z, hz, e⟩ := List.mem_map.mp this
    exact ⟨z, hz, (congrArg Prod.fst e).symm, (congrArg Prod.snd e).symm⟩
  have P := PairArg.list (prog := X.prog) (w := X.w) a its.toArray (fun j => ((L.map (·.1))[j]?).getD 0) (ps.map fun x => (Value.ref x.2.1, x.2.2))
  refine call_dict_pairsH (knd := tupleKind (mixKind X.prog X.w)) (ps := ps) P (I.ok.hd hc) (by show X.A.units + 1 + 1 < cLine; omega) ⟨⟨_, n, hob, rfl, rfl, rfl⟩, ⟨by simp [ei, e1], fun j k v hj => ?_⟩⟩ ⟨by simp, fun i key v hi => ?_⟩ (fun h' hk x hx => ?_) (by rw [List.length_map, e1]; exact cap_line hz) fun h' tk hd hk => ?_
  · rw [List.getElem?_map] at hj
    cases q2 : ps[j]? with
    | none => rw [q2] at hj; cases hj
    | some x =>
      rw [q2] at hj
      cases hj
      obtain ⟨z, z1, z2⟩ := e3 j x q2
      refine ⟨by simp [ei, z1], .inl ?_⟩
      show s.heap.IsTuple (((L.map (·.1))[j]?).getD 0) _
      rw [List.getElem?_map, z1]
      exact z2
  · have hi : (ps.map fun x => (Value.ref x.2.1, x.2.2))[i]? = some (key, v) := hi
    rw [List.getElem?_map] at hi
    cases q2 : ps[i]? with
    | none => rw [q2] at hi; cases hi
    | some x =>
      rw [q2] at hi
      cases hi
      exact ⟨x.1, x.2.1, rfl, rfl⟩
  · obtain ⟨z, hz, k1, k3⟩ := kin x hx
    obtain ⟨o, its2, n2, h1, h2, h3, h4⟩ := (show IsTupleKey (mixKind X.prog X.w) s.heap (kk z.2.2.1) z.2.1 from key_of I.hok (hL z hz).2)
    refine (show IsTupleKey (mixKind X.prog X.w) h' x.1 x.2.1 from ?_)
    rw [k1, k3]
    exact ⟨o, its2, n2, hk _ _ (Nat.ne_of_lt (Heap.lt_size h1)) (by simp) h1, h2, h3, h4⟩
  · obtain ⟨od, es, ep, ho, hx, hdat, hes, his, hn⟩ := hd
    have hm : (s.heap.objs.size == sysModules) = false := beq_eq_false_iff_ne.mpr (Nat.ne_of_gt I.big)
    have hold : ∀ b o, s.heap.get? b = some o → h'.get? b = some o := fun b o e => hk b o (by simp) e
    have from_ : ∀ x ∈ storedAllH [] ps, ∃ z ∈ L, x.1 = kk z.2.2.1 ∧ x.2.1 = z.2.1 := storedAllH_keys (P := fun k b => ∃ z ∈ L, k = kk z.2.2.1 ∧ b = z.2.1) (fun x hx => nomatch hx) kin
    refine ⟨.ref s.heap.objs.size, upd H s.heap.objs.size (.ext fun h => h.get? s.heap.objs.size = some od), I.laid (t' := tk) hold (Nat.le_refl _) ⟨ho, ⟨_, ho⟩, fun h1 h2 e k => k _ e⟩, rfl,
      q _ _ ((storedAllH [] ps).map fun x => (x.2.1, unk x.1)) (I.hok.fresh (Nat.le_refl _)) (fun h e => ⟨od, es, ep, hm, e, hx, hdat, ?_⟩) ?_ fun b hb => ?_⟩
    · rw [hes, List.map_map, List.map_map]; rfl
    · have k1 : (storedAllH [] ps).map (·.1) = (firsts [] (L.map fun z => z.2.2.1)).map kk := by
        rw [stored_keys, ← firsts_map (fun _ _ => kk_inj)]
        congr 1
        have := congrArg (List.map Prod.fst) e2
        rw [List.map_map, List.map_map] at this
        rw [List.map_map]
        exact this
      have := congrArg (List.map unk) k1
      rw [List.map_map, List.map_map] at this
      rw [List.map_map]
      refine Eq.trans ?_ (this.trans ?_)
      · rfl
      · conv => rhs; rw [← List.map_id (firsts [] (L.map fun z => z.2.2.1))]
        rfl
    · obtain ⟨x, hx2, rfl⟩ := List.mem_map.mp hb
      obtain ⟨z, hz, k1, k3⟩ := from_ x hx2
      exact ⟨z, hz, k3.symm, by rw [k1]; rfl⟩
theorem cr_sortT (hc : X.calm = true) (hu : X.A.units + 64 < cLine) : CallR X (.builtin "sorted") rSortT := by
  intro pins s σ H xs us Q I r h
  obtain ⟨p, φ, bs, rfl, hp, hr, hz, hb, q⟩ := h
  obtain rfl := Vals.ref1 r
  obtain ⟨hφ, _, _⟩ := (show ObjOk X.prog X.w H s.heap p (.ext φ) from I.hok p _ hp)
  obtain ⟨o, es, ep, hs, ho, hx, hd, hk⟩ := hr _ hφ
  have l1 : es.size = bs.length := by
    have := congrArg List.length hk
    simpa using this
  refine Calls.call_function_entry PyProof.Rows.kind_sorted PyProof.Rows.plain_sorted PyProof.Rows.entry_sorted (PyProof.Rows.args_sorted1 _) ?_
  unfold Builtin.«sorted»
  refine wpAny_bind (m := checkCount "sorted" 1 1 _) (wpAny_pure ?_)
  refine wpAny_bind (PySem.W.kdu_collect (A := X.A.in1) (kdl_raw hs hx hd) (I.ok.hd hc) ho (by rw [l1]; exact cap_line hz) fun h' tk acc hk' hacc => ?_)
  have ea : acc.toList = bs.map fun b => Value.ref b.1 := by
    rw [← hk]
    apply List.ext_getElem?
    intro j
    rw [List.getElem?_map]
    cases hj : acc.toList[j]? with
    | none =>
      have h1 := List.getElem?_eq_none_iff.mp hj
      rw [Array.length_toList, hacc.1] at h1
      rw [List.getElem?_eq_none (by simpa using h1)]
      rfl
    | some v =>
      obtain ⟨en, hen, hv⟩ := hacc.2 j v (by rw [← Array.getElem?_toList]; exact hj)
      rw [Array.getElem?_toList, hen, hv]; rfl
  have hal : acc.toList.length = bs.length := by rw [ea, List.length_map]
  have I1 : Inv X pins σ H { s with heap := h', toks := tk } := I.kept hk'
  refine wpAny_bind (wpAny_newList ?_ (by rw [hal]; exact cap_line hz))
  have hoL : (h'.push { cls := .type "list", data := .seq acc.toList.toArray }).get? h'.objs.size = some (PyProof.Rows.seqObj "list" acc.toList.toArray 0) := Heap.get?_push_size _ rfl
  have kb : ∀ b o, h'.get? b = some o → (h'.push { cls := .type "list", data := .seq acc.toList.toArray }).get? b = some o := fun b o e => Heap.get?_push_of_some _ e
  generalize hh2 : h'.push { cls := .type "list", data := .seq acc.toList.toArray } = h2 at hoL kb
  have E1 : PySem.W.EachIs (fun (v : Value) (z : Addr × Int × Int) => v = Value.ref z.1) acc.toList bs := by rw [ea]; exact each_of fun _ _ => rfl
  have E2 : PySem.W.EachIs (fun (v : Value) (z : Addr × Int × Int) => ∃ as, Reads h2 v (encII z) as ∧ h'.objs.size ∉ as) acc.toList bs := by
    rw [ea]
    refine each_of fun z hz' => ?_
    obtain ⟨_, its, rv, ot, hot, hct, nt, hdt⟩ := (show ObjOk X.prog X.w H s.heap z.1 (.tup [.int z.2.1, .int z.2.2]) from I.hok z.1 _ (hb z hz'))
    obtain ⟨u, y, rfl, ru, ry⟩ := vals2 rv
    obtain ⟨t, rfl⟩ := ru
    obtain ⟨t2, rfl⟩ := ry
    exact ⟨[], .tuple (kb _ _ (hk' _ _ hot)) hct hdt (.cons (.int _ _) (.cons (.int _ _) .nil)), by simp⟩
  obtain ⟨al, so⟩ := alike_ii (bs.map encII) fun d hd => by
    obtain ⟨z, _, rfl⟩ := List.mem_map.mp hd
    exact ⟨_, _, rfl⟩
  have key : wpAny (model X.prog X.w) X.A.in1 (call (.builtin "list.sort") [.ref h'.objs.size]) (fun _ s' => EP X pins σ Q (.ref h'.objs.size) s') X.xe { s with heap := h2, toks := tk } := by
    refine PySem.W.list_sort_data (s := { s with heap := h2, toks := tk }) (enc := encII) hoL E1 E2 al so (cap_line hz) (fun b hb => ?_) fun out o1 o2 => ?_
    · have e : (encII b).depth ≤ 3 := by simp [PyData.depth, PyData.depthAll]
      have e2 : X.A.in1.units ≤ X.A.units + 1 := Nat.le_refl _
      omega
    · have hout := each_eq (f := fun z : Addr × Int × Int => Value.ref z.1) (fun _ _ h => h) o2
      have hm : ((bs.mergeSort (dataLe false encII)).map (·.2)) = (bs.map (·.2)).mergeSort leII := by
        rw [PySem.W.sort_maps (s := leII) (fun z : Addr × Int × Int => z.2) fun x _ y _ => by rw [PySem.W.dataLe_ii (fun z : Addr × Int × Int => z.2.1) (fun z => z.2.2)]; rfl]
      generalize hps : bs.mergeSort (dataLe false encII) = zs at hout hm
      have hin : ∀ z ∈ zs, z ∈ bs := fun z hz' => by rw [← hps] at hz'; exact List.mem_mergeSort.mp hz'
      obtain ⟨eF, heF⟩ := PyProof.Rows.sortedHeap_at (vs := acc.toList) (out := List.toArray out) hoL
      have hlen : (zs.map fun z => V.ref z.1).length ≤ sizeLine := by
        have e := congrArg List.length hm
        rw [List.length_map, List.length_mergeSort, List.length_map] at e
        rw [List.length_map, e]; exact cap_line hz
      have rv : Vals (zs.map fun z => V.ref z.1) (List.toArray out).toList := by
        show Vals _ out
        rw [hout]
        exact vals_maps (fun z : Addr × Int × Int => V.ref z.1) (fun z => Value.ref z.1) zs fun _ _ => rfl
      refine ⟨.ref h'.objs.size, upd H h'.objs.size (.lst (zs.map fun z => V.ref z.1)), I1.laid (t' := tk) (fun b u e => ?_) (Nat.le_refl _) ⟨hlen, out, eF, rv, heF⟩, rfl, q _ zs (I1.hok.fresh (Nat.le_refl _)) hm hin⟩
      have hbl : b < h'.objs.size := Heap.lt_size e
      exact (PyProof.Rows.sortedHeap_old (Nat.ne_of_lt hbl) (Heap.lt_size (kb _ _ e))).trans (kb _ _ e)
  refine wpAny_bind (wpAny_holding (wpAny_mono key (fun _ s' x => ?_) fun _ _ e => e))
  exact wpAny_pure ⟨_, rfl, x⟩
end
/-- the keys of pairs -/
def keysII : List D → Option (List (Int × Int))
  | [] => some []
  | .tup [.tup [.int a, .int b], _] :: r => (keysII r).map ((a, b) :: ·)
  | _ => none
def dSortDict (fo : DE) : DE := fun δ τ => (fo δ τ).bind fun d τ' => match d with
  | .lst xs => (match keysII xs with
    | some ks => if ks.length ≤ cap then .ok (.lst (((firsts [] ks).mergeSort leII).map pairD)) τ' else .bad
    | none => .bad)
  | _ => .bad
section
variable {K : KP} {H : Hp} {M : List Addr}
theorem keysII_rep : ∀ {xs : List D} {ks : List (Int × Int)} {vs : List V}, keysII xs = some ks → RepL K H M vs xs →
    ∃ L : List It4, vs = L.map (fun z => V.ref z.1) ∧ ks = L.map (fun z => z.2.2.1) ∧ ∀ z ∈ L, (H z.1 = some (.tup [.ref z.2.1, z.2.2.2]) ∧ H z.2.1 = some (.tup [.int z.2.2.1.1, .int z.2.2.1.2])) ∧ z.2.1 ∉ M ∧ z.2.1 ∉ K.p
  | [], ks, vs, h, r => by
    simp [keysII] at h; subst h
    rw [r.nil']; exact ⟨[], rfl, rfl, fun z h => nomatch h⟩
  | d :: xs, ks, vs, h, r => by
    unfold keysII at h
    split at h
    · rename_i heq; cases heq
    · rename_i a b y r' heq
      cases heq
      cases q : keysII xs with
      | none => rw [q] at h; cases h
      | some ks' =>
        rw [q] at h
        cases h
        obtain ⟨v, vs', rfl, rv, rs⟩ := r.head
        obtain ⟨L, e1, e2, e3⟩ := keysII_rep q rs
        cases rv with
        | @tup p us _ hp hm hl hi =>
          obtain ⟨u, w, rfl, ru, rw_⟩ := RepL.two ⟨hl, hi⟩
          cases ru with
          | @tup p2 us2 _ hp2 hm2 hl2 hi2 =>
            obtain ⟨i, j, rfl, ri, rj⟩ := RepL.two ⟨hl2, hi2⟩
            cases ri
            cases rj
            refine ⟨(p, p2, (a, b), w) :: L, by simp [e1], by simp [e2], fun z hz => ?_⟩
            rcases List.mem_cons.mp hz with rfl | hz
            · exact ⟨⟨hp, hp2⟩, hm2⟩
            · exact e3 z hz
    · cases h
end
section
variable {X : Cx} {E : XK} {e : Expr} {fo : DE} {p p1 p2 pos : Pos}
theorem de_sortDict (hc : X.calm = true) (hu : X.A.units + 64 < cLine) (hm : X.mg "sorted" = none) (hm2 : X.mg "dict" = none) (ho : PE X e (tE X.K E fo)) (hg : Gl X "sorted" := by rfl) (hg2 : Gl X "dict" := by rfl)
    (he : starEach [e] X.env = (false, eval e X.env) :: starEach [] X.env := by rfl)
    (he2 : starEach [.Call (.Name "dict" p) [e] [] p1] X.env = (false, eval (.Call (.Name "dict" p) [e] [] p1) X.env) :: starEach [] X.env := by rfl) :
    PE X (.Call (.Name "sorted" p2) [.Call (.Name "dict" p) [e] [] p1] [] pos) (tE X.K E (dSortDict fo)) := by
  have h1 : PE X (.Call (.Name "dict" p) [e] [] p1) (tCB rDictT (tCons (tE X.K E fo) tNil)) := pe_callTy (cr_dictT hc hu) hg2 hm2 rfl (pa_cons ho pa_nil he) (he := he)
  refine (pe_callB (cr_sortT hc hu) hg hm rfl (pa_cons h1 pa_nil he2) (he := he2)).imp fun σ H Q ⟨P, M, δ, τ, n, S, p⟩ => ?_
  refine ⟨P, M, δ, τ, n, S, (Post.bind p).mono fun H1 M1 τ1 d _ e1 S1 p1 v rv => ?_⟩
  split at p1
  · rename_i xs
    split at p1
    · rename_i ks hks
      split at p1
      · rename_i hz
        cases rv with
        | @lst a vs _ ha hm hl hi =>
          obtain ⟨L, e1', e2, e3⟩ := keysII_rep hks ⟨hl, hi⟩
          subst e1' e2
          refine ⟨a, L, rfl, ha, by simpa using hz, fun z hz' => (e3 z hz').1, fun q φ bs hq hr hbs hin => ?_⟩
          have S2 : Sto ⟨X.K, P⟩ (upd H1 q (.ext φ)) M1 τ1 := S1.same (Same.new hq)
          have hbl : bs.length ≤ cap := by
            have h1 := congrArg List.length hbs
            have h2 := firsts_len (L.map fun z => z.2.2.1) []
            simp only [List.length_map] at h1 h2 hz
            rw [h1]
            exact Nat.le_trans (by simpa using h2) hz
          have hbt : ∀ b ∈ bs, upd H1 q (.ext φ) b.1 = some (.tup [.int b.2.1, .int b.2.2]) ∧ b.1 ∉ M1 ∧ b.1 ∉ P := fun b hb => by
            obtain ⟨z, hz', k1, k2⟩ := hin b hb
            obtain ⟨⟨_, t2⟩, t3, t4⟩ := e3 z hz'
            rw [k1, k2] at t2
            rw [k1] at t3 t4
            refine ⟨?_, t3, t4⟩
            rw [upd_ne (ne_of_none t2 hq)]; exact t2
          refine ⟨q, φ, bs, rfl, upd_same, hr, hbl, fun b hb => (hbt b hb).1, fun l zs hl0 hzs hzin => ?_⟩
          have nl := S2.new hl0
          have S3 : Sto ⟨X.K, P⟩ (upd (upd H1 q (.ext φ)) l (.lst (zs.map fun z => V.ref z.1))) M1 τ1 := S2.same (Same.new hl0)
          have rr : RepL ⟨X.K, P⟩ (upd (upd H1 q (.ext φ)) l (.lst (zs.map fun z => V.ref z.1))) M1 (zs.map fun z => V.ref z.1) (((firsts [] (L.map fun z => z.2.2.1)).mergeSort leII).map pairD) := by
            rw [← hbs, ← hzs, List.map_map]
            refine RepL.of_mem fun z hz2 => ?_
            obtain ⟨t1, t2, t3⟩ := hbt z (hzin z hz2)
            exact .tup (by rw [upd_ne (ne_of_none t1 hl0)]; exact t1) ⟨t2, t3⟩ rfl (RepL.cons (.int _) (RepL.cons (.int _) .nil)).2
          have e5 : Ext H1 M1 (upd (upd H1 q (.ext φ)) l (.lst (zs.map fun z => V.ref z.1))) M1 := (Ext.new hq).trans (Ext.new hl0)
          exact p1 _ M1 e5 S3 _ (.lst upd_same nl rr.1 rr.2)
      · exact p1.elim
    · exact p1.elim
  · exact p1.elim
end
end DL

namespace DL
open PySem L2
/-! ### range(a, b), zip, enumerate -/
section
variable {X : Cx} {E : XK} {a b e e2 : Expr} {fa fb : DE} {pos p : Pos}
def dRange2 (fa fb : DE) : DI := fun δ τ => (dArgs [fa, fb] δ τ).bind fun ds τ' => match ds with
  | [x, y] => (match der τ' x, der τ' y with
    | .int i, .int j => if (-(2 ^ 62) ≤ i ∧ i < 2 ^ 62) ∧ -(2 ^ 62) ≤ j ∧ j < 2 ^ 62 then .ok ((List.range (j - i).toNat).map fun (k : Nat) => D.int (i + (k : Int))) τ' else .bad
    | _, _ => .bad)
  | _ => .bad
theorem di_range2 {tg : Expr} (hm : X.mg "range" = none) (ha : PE X a (tE X.K E fa)) (hb : PE X b (tE X.K E fb)) (hg : Gl X "range" := by rfl) (hs : starEach [a, b] X.env = [(false, eval a X.env), (false, eval b X.env)] := by rfl)
    (hs2 : starEach [b] X.env = [(false, eval b X.env)] := by rfl) : PI X tg (.Call (.Name "range" p) [a, b] [] pos) (tI X.K E (dRange2 fa fb)) := by
  refine (pi_range2 hg hm (pa_consD ha (pa_consD hb pa_nilD (by rw [hs2]; rfl)) (by rw [hs, hs2])) hs hs2).imp fun σ H Q ⟨P, M, δ, τ, n, S, p⟩ => ⟨P, M, δ, τ, n, S, (Post.bind p).mono fun H1 M1 τ1 ds _ e1 S1 p1 vs rs => ?_⟩
  split at p1
  · obtain ⟨u, v, rfl, ru, rv⟩ := rs.two
    split at p1
    · rename_i i j hi hj
      split at p1
      · rename_i hz
        obtain rfl := rep_int ru S1 hi
        obtain rfl := rep_int rv S1 hj
        exact ⟨i, j, rfl, ⟨hz.1.1, hz.1.2, hz.2.1, hz.2.2⟩, p1 H1 M1 (Ext.refl _ _) S1 _ itr_ok⟩
      · exact p1.elim
    · exact p1.elim
  · exact p1.elim
def zipD (xs ys : List D) : List D := (xs.zip ys).map fun p => .tup [p.1, p.2]
def dZip (fa fb : DE) : DI := fun δ τ => (dArgs [fa, fb] δ τ).bind fun ds τ' => match ds with
  | [.lst xs, .lst ys] => .ok (zipD xs ys) τ'
  | [.tup xs, .tup ys] => .ok (zipD xs ys) τ'
  | _ => .bad
theorem zipD_get {xs ys : List D} {i : Nat} {d : D} (h : (zipD xs ys)[i]? = some d) : ∃ x y, xs[i]? = some x ∧ ys[i]? = some y ∧ d = .tup [x, y] := by
  unfold zipD at h
  rw [List.getElem?_map] at h
  cases q : (xs.zip ys)[i]? with
  | none => rw [q] at h; cases h
  | some z =>
    rw [q] at h
    cases h
    obtain ⟨h1, h2⟩ := List.getElem?_zip_eq_some.mp q
    exact ⟨_, _, h1, h2, rfl⟩
theorem zipD_len (xs ys : List D) : (zipD xs ys).length = min xs.length ys.length := by simp [zipD]
theorem pair_new {K : KP} {H : Hp} {M P' : List Addr} {T : Addr} {u v : V} {x y : D} (hT : H T = none) (hM : ∀ a ∈ M, H a ≠ none) (hP : ∀ a ∈ P', H a ≠ none) (r1 : Rep ⟨K.k, P'⟩ H M u x) (r2 : Rep ⟨K.k, P'⟩ H M v y) :
    Rep ⟨K.k, P'⟩ (upd H T (.tup [u, v])) M (.ref T) (.tup [x, y]) :=
  .tup upd_same ⟨fun z => hM T z hT, fun z => hP T z hT⟩ rfl (RepL.cons (r1.ext (Ext.new hT)) (RepL.cons (r2.ext (Ext.new hT)) .nil)).2
theorem itz_ok {K : KP} {H : Hp} {M : List Addr} {a b : Addr} {us vs : List V} {xs ys : List D} (h1 : SqM K H M a us) (h2 : SqM K H M b vs) (r1 : RepL K H M us xs) (r2 : RepL K H M vs ys) : ItOk K (Itz K.k a b) H M (zipD xs ys) := by
  intro P' H' M' hp e i
  have g1 := (h1.extP e).sq
  have g2 := (h2.extP e).sq
  refine ⟨fun hi => ?_, fun hi => ⟨us, vs, g1, g2, ?_⟩⟩
  · rw [zipD_len, ← r1.1, ← r2.1] at hi
    refine ⟨⟨us, vs, us[i]'(by omega), vs[i]'(by omega), g1, g2, by simp, by simp⟩, ?_⟩
    rintro x H2 hM hP ⟨T, u, v, rfl, hT, rfl, q1, q2⟩
    refine ⟨Same.new hT, fun d hd => ?_⟩
    obtain ⟨x, y, e1, e2, rfl⟩ := zipD_get hd
    exact pair_new hT hM hP ((r1.2 i u x (q1 us g1) e1).extP hp e) ((r2.2 i v y (q2 vs g2) e2).extP hp e)
  · rw [zipD_len, ← r1.1, ← r2.1] at hi
    omega
theorem itzT_ok {K : KP} {H : Hp} {M : List Addr} {a b : Addr} {us vs : List V} {xs ys : List D} (h1 : TuM K H M a us) (h2 : TuM K H M b vs) (r1 : RepL K H M us xs) (r2 : RepL K H M vs ys) : ItOk K (RZ.ItzT K.k a b) H M (zipD xs ys) := by
  intro P' H' M' hp e i
  have g1 := (h1.extP e).sq
  have g2 := (h2.extP e).sq
  refine ⟨fun hi => ?_, fun hi => ⟨us, vs, g1, g2, ?_⟩⟩
  · rw [zipD_len, ← r1.1, ← r2.1] at hi
    refine ⟨⟨us, vs, us[i]'(by omega), vs[i]'(by omega), g1, g2, by simp, by simp⟩, ?_⟩
    rintro x H2 hM hP ⟨T, u, v, rfl, hT, rfl, q1, q2⟩
    refine ⟨Same.new hT, fun d hd => ?_⟩
    obtain ⟨x, y, e1, e2, rfl⟩ := zipD_get hd
    exact pair_new hT hM hP ((r1.2 i u x (q1 us g1) e1).extP hp e) ((r2.2 i v y (q2 vs g2) e2).extP hp e)
  · rw [zipD_len, ← r1.1, ← r2.1] at hi
    omega
theorem di_zip {tpos : Pos} {elts : List Expr} {kk : Nat} (hm : X.mg "zip" = none) (ha : PE X e (tE X.K E fa)) (hb : PE X e2 (tE X.K E fb)) (hg : Gl X "zip" := by rfl)
    (hs : starEach [e, e2] X.env = (false, eval e X.env) :: starEach [e2] X.env := by rfl) (hs2 : starEach [e2] X.env = (false, eval e2 X.env) :: starEach [] X.env := by rfl) (hpl : (backTo pos (starEach [e2] X.env)).any (·.1) = false := by rfl) :
    PI X (.Tuple elts kk tpos) (.Call (.Name "zip" p) [e, e2] [] pos) (tI X.K E (dZip fa fb)) := by
  refine (RZ.pi_zipA hg hm (pa_consD ha (pa_consD hb pa_nilD hs2) hs) hs hpl).imp fun σ H Q ⟨P, M, δ, τ, n, S, p⟩ => ⟨P, M, δ, τ, n, S, (Post.bind p).mono fun H1 M1 τ1 ds _ e1 S1 p1 vs rs => ?_⟩
  split at p1
  · rename_i xs ys
    obtain ⟨u, v, rfl, ru, rv⟩ := rs.two
    cases ru with
    | @lst a us _ ha hma hl hi =>
      cases rv with
      | @lst b vs _ hb hmb hl2 hi2 =>
        exact ⟨a, b, us, vs, rfl, .inl ⟨SqL.of ha, SqL.of hb, p1 H1 M1 (Ext.refl _ _) S1 _ (itz_ok (.inl ⟨.inl ha, hma⟩) (.inl ⟨.inl hb, hmb⟩) ⟨hl, hi⟩ ⟨hl2, hi2⟩)⟩⟩
  · rename_i xs ys
    obtain ⟨u, v, rfl, ru, rv⟩ := rs.two
    cases ru with
    | @tup a us _ ha hma hl hi =>
      cases rv with
      | @tup b vs _ hb hmb hl2 hi2 =>
        exact ⟨a, b, us, vs, rfl, .inr ⟨SqT.of ha, SqT.of hb, p1 H1 M1 (Ext.refl _ _) S1 _ (itzT_ok (.inl ⟨.inl ha, hma⟩) (.inl ⟨.inl hb, hmb⟩) ⟨hl, hi⟩ ⟨hl2, hi2⟩)⟩⟩
  · exact p1.elim
def enumD : Nat → List D → List D
  | _, [] => []
  | i, x :: xs => .tup [.int (i : Int), x] :: enumD (i + 1) xs
theorem enumD_get : ∀ (xs : List D) (k i : Nat), (enumD k xs)[i]? = xs[i]?.map fun x => .tup [.int ((k + i : Nat) : Int), x]
  | [], k, i => by simp [enumD]
  | x :: xs, k, 0 => by simp [enumD]
  | x :: xs, k, i + 1 => by
    have := enumD_get xs (k + 1) i
    simp only [enumD, List.getElem?_cons_succ]
    rw [this, show k + 1 + i = k + (i + 1) from by omega]
theorem enumD_len : ∀ (xs : List D) (k : Nat), (enumD k xs).length = xs.length
  | [], _ => rfl
  | x :: xs, k => by simp [enumD, enumD_len xs]
def dEnum (fa : DE) : DI := fun δ τ => (fa δ τ).bind fun d τ' => match d with
  | .lst xs => .ok (enumD 0 xs) τ'
  | _ => .bad
theorem ite_ok {K : KP} {H : Hp} {M : List Addr} {a : Addr} {us : List V} {xs : List D} (h1 : SqM K H M a us) (r1 : RepL K H M us xs) : ItOk K (Ite K.k a) H M (enumD 0 xs) := by
  intro P' H' M' hp e i
  have g1 := (h1.extP e).sq
  refine ⟨fun hi => ?_, fun hi => ⟨us, g1, ?_⟩⟩
  · rw [enumD_len, ← r1.1] at hi
    refine ⟨⟨us, us[i]'(by omega), g1, by simp⟩, ?_⟩
    rintro x H2 hM hP ⟨T, u, rfl, hT, rfl, q1⟩
    refine ⟨Same.new hT, fun d hd => ?_⟩
    rw [enumD_get] at hd
    cases q : xs[i]? with
    | none => rw [q] at hd; cases hd
    | some y =>
      rw [q] at hd
      cases hd
      rw [Nat.zero_add]
      exact pair_new hT hM hP (.int _) ((r1.2 i u y (q1 us g1) q).extP hp e)
  · rw [enumD_len, ← r1.1] at hi
    exact hi
theorem di_enum {tpos : Pos} {elts : List Expr} {kk : Nat} (hm : X.mg "enumerate" = none) (ha : PE X e (tE X.K E fa)) (hg : Gl X "enumerate" := by rfl) (hs : starEach [e] X.env = [(false, eval e X.env)] := by rfl) :
    PI X (.Tuple elts kk tpos) (.Call (.Name "enumerate" p) [e] [] pos) (tI X.K E (dEnum fa)) := by
  refine (pi_enum hg hm (pa_consD ha pa_nilD (by rw [hs]; rfl)) hs).imp fun σ H Q ⟨P, M, δ, τ, n, S, p⟩ => ⟨P, M, δ, τ, n, S, ?_⟩
  have p : Post ⟨X.K, P⟩ E H M ((fa δ τ).bind fun d τ' => match d with
    | .lst xs => .ok (enumD 0 xs) τ'
    | _ => .bad) _ := p
  show Post ⟨X.K, P⟩ E H M ((fa δ τ).bind fun d τ1 => R.ok [d] τ1) _
  revert p
  cases fa δ τ with
  | bad => exact fun p => p
  | exn C fs τ' => exact fun p => p
  | ok d τ' =>
    intro p H1 M1 e1 S1 vs rs
    obtain ⟨v, rfl, rv⟩ := rs.one
    have p : Post ⟨X.K, P⟩ E H M (match d with
      | .lst xs => .ok (enumD 0 xs) τ'
      | _ => .bad) _ := p
    split at p
    · rename_i xs
      cases rv with
      | @lst a us _ ha hma hl hi =>
        exact ⟨a, us, rfl, SqL.of ha, p H1 M1 e1 S1 _ (ite_ok (.inl ⟨.inl ha, hma⟩) ⟨hl, hi⟩)⟩
    · exact p.elim
/-! ### int(x), extend -/
def pInt : Pr
  | [d], τ => match der τ d with
    | .int i => .ok (.int i) τ
    | .bl b => .ok (.int (if b then 1 else 0)) τ
    | _ => .bad
  | _, _ => .bad
theorem o_int : OpC X E (.type "int") pInt := CallR.any fun xs H Q h => by
  obtain ⟨P, M, τ, ds, S, r, p⟩ := h
  match ds, p with
  | [d], p =>
    obtain ⟨v, rfl, rv⟩ := r.one
    unfold pInt at p
    simp only at p
    split at p
    · rename_i i hi
      obtain rfl := rep_int rv S hi
      exact ⟨_, call_int1, .inl ⟨i, rfl, p H M (Ext.refl _ _) S _ (.int _)⟩⟩
    · rename_i b hb
      obtain rfl := rep_bl rv S hb
      exact ⟨_, call_int1, .inr ⟨b, rfl, p H M (Ext.refl _ _) S _ (.int _)⟩⟩
    · exact p.elim
  | [], p => exact p.elim
  | _ :: _ :: _, p => exact p.elim
def pExtend : Pr
  | [.cell c, d], τ => match τ[c]?, d with
    | some (.lst xs), .lst ys => if xs.length + ys.length ≤ cap then .ok .non (τ.set c (.lst (xs ++ ys))) else .bad
    | _, _ => .bad
  | _, _ => .bad
theorem m_extend : OpM X E "list.extend" pExtend := MtR.any fun x xs H Q h => by
  obtain ⟨P, M, τ, d, ds, S, rx, rs, p⟩ := rpm h
  match d, ds, p with
  | .cell c, [d], p =>
    obtain ⟨v, rfl, rv⟩ := rs.one
    unfold pExtend at p
    simp only at p
    split at p
    · rename_i ys zs hy
      split at p
      · rename_i hz
        cases rx with
        | @cell _ a hc =>
          obtain ⟨us, ha, ra⟩ := S.at_ c a _ hc hy
          cases rv with
          | @lst b vs _ hb hmb hl hi =>
            exact ⟨_, mt_extend, a, b, us, vs, rfl, rfl, ha, hb, by rw [ra.1, hl]; exact cap_line hz, p.wr S hc ⟨_, upd_same, (ra.append ⟨hl, hi⟩).ext (Ext.wr (List.mem_of_getElem? hc))⟩ .non⟩
      · exact p.elim
    · exact p.elim
/-! ### x += e, xs[i] += e (ints) -/
def dAug (f : Int → Int → Int) (i : Nat) (fe : DE) : DS := fun δ τ => match δ[i]? with
  | some (some (.int a)) => (fe δ τ).toS fun d τ' => match d with
    | .int b => .nx (δ.set i (some (.int (f a b)))) τ'
    | _ => .bad
  | _ => .bad
theorem ds_aug (i : Nat) {x : Str} {op : Operator} {f : Int → Int → Int} {fe : DE} {pos' : Pos} (hN : X.N.Nodup) (ho : PIp X op (ipI f)) (he : PE X e (tE X.K E fe)) (hi : X.N[i]? = some x := by rfl) (hx : Loc X.env.scope x := by first | exact Or.inl rfl | exact Or.inr rfl)
    (hf : X.fn x = true ∨ X.env.scope.names.lookup x = some .local := by first | exact .inl rfl | exact .inr rfl) : PS X (.AugAssign (.Name x pos') op e pos) (tS X.K E (dAug f i fe)) := by
  refine (ps_aug hN hi hx he ho hf).imp fun Z σ H ⟨P, M, δ, τ, n, S, p⟩ => ?_
  unfold dAug at p
  split at p
  · rename_i a ha
    obtain ⟨v, e1, rv⟩ := n.at_ i _ ha
    cases rv
    refine ⟨_, e1, P, M, δ, τ, n, S, (PostS.toS p).mono fun H1 M1 τ1 d _ e2 S1 p1 v rv => ?_⟩
    split at p1
    · cases rv
      exact ⟨a, _, rfl, rfl, p1 H1 M1 _ (Ext.refl _ _) ((n.ext e2).set (.int _) i) S1⟩
    · exact p1.elim
  · exact p.elim
theorem pget_list : PGet X (fun o i H Q => ∃ (p : Addr) (xs : List V) (k : Int) (z : V), o = .ref p ∧ i = .int k ∧ SqL X.K H p xs ∧ atI xs k = some z ∧ Q z H) := by
  intro pins s σ H o i ov iv Q I ro ri h
  obtain ⟨p, xs, k, z, rfl, rfl, hq, he, q⟩ := h
  cases ro
  obtain ⟨t, rfl⟩ := ri
  obtain ⟨its, r, pl, hz⟩ := I.list hq
  obtain ⟨j, h1, h2, h3, h4, h5⟩ := atI_get he
  obtain ⟨w, ew, rw'⟩ := r.get h2
  have hl := r.length
  have hn := line63
  have fin : EP X pins σ Q w s := ⟨z, H, I, rw', q⟩
  by_cases h0 : 0 ≤ k
  · have hj : k.toNat = j := by
      rw [seqIndex_of h0 h5] at h1
      exact Option.some.inj h1
    exact wpAny_getItem_list pl.isList h0 (by omega) (by rw [hj]; simpa using ew) fin
  · have hj : (k + (its.toArray.size : Int)).toNat = j := by
      rw [seqIndex_neg (by omega) h4] at h1
      rw [List.size_toArray, ← hl]
      exact Option.some.inj h1
    exact wpAny_getItem_list_neg pl.isList (by omega) (by rw [List.size_toArray] <;> omega) (by omega) (by rw [hj]; simpa using ew) fin
def dAugIx (f : Int → Int → Int) (fo fi fe : DE) : DS := fun δ τ => (fo δ τ).toS fun o τ1 => (fi δ τ1).toS fun i τ2 => match o, i with
  | .cell c, .int k => (match τ2[c]? with
    | some (.lst xs) => (match atI xs k with
      | some (.int a) => (fe δ τ2).toS fun d τ3 => (match d, τ3[c]? with
        | .int b, some (.lst ys) => (match ixN ys.length k with
          | some j => .nx δ (τ3.set c (.lst (ys.set j (.int (f a b)))))
          | none => .bad)
        | _, _ => .bad)
      | _ => .bad)
    | _ => .bad)
  | _, _ => .bad
theorem ds_augIx {o i : Expr} {op : Operator} {f : Int → Int → Int} {fo fi fe : DE} {tpos : Pos} (hp : PIp X op (ipI f)) (ho : PE X o (tE X.K E fo)) (hi : PE X i (tE X.K E fi)) (he : PE X e (tE X.K E fe))
    (ha : ∀ ov iv new, augStore i ov iv new = (do holding [new, ov, iv] (setItem ov iv new); release [new, ov, iv] []; pure .next) := by intros; rfl) : PS X (.AugAssign (.Subscript o i tpos) op e pos) (tS X.K E (dAugIx f fo fi fe)) := by
  refine (ps_augS ho hi pget_list he hp set_list ha).imp fun Z σ H ⟨P, M, δ, τ, n, S, p⟩ => ?_
  refine ⟨P, M, δ, τ, n, S, (PostS.toS p).mono fun H1 M1 τ1 od _ e1 S1 p1 ov rov => ?_⟩
  refine ⟨P, M1, δ, τ1, n.ext e1, S1, (PostS.toS p1).mono fun H2 M2 τ2 id _ e2 S2 p2 iv riv => ?_⟩
  have rov2 := rov.ext e2
  split at p2
  · rename_i c k _ _
    split at p2
    · rename_i xs hx
      split at p2
      · rename_i a hat
        cases riv
        cases rov2 with
        | @cell _ b hc =>
          obtain ⟨us, hb, ra⟩ := S2.at_ c b _ hc hx
          obtain ⟨z, hz1, hz2⟩ := atI_rep ra hat
          cases hz2
          refine ⟨b, us, k, _, rfl, rfl, SqL.of hb, hz1, P, M2, δ, τ2, (n.ext e1).ext e2, S2, (PostS.toS p2).mono fun H3 M3 τ3 d _ e3 S3 p3 v rv => ?_⟩
          split at p3
          · rename_i b' ys hy _
            split at p3
            · rename_i j hj
              cases rv
              have hc3 := e3.cells hc
              obtain ⟨ws, hb3, rb⟩ := S3.at_ c b _ hc3 hy
              have hm : b ∈ M3 := List.mem_of_getElem? hc3
              have e4 : Ext H3 M3 (upd H3 b (.lst (ws.set j (.int (f a b'))))) M3 := Ext.wr hm
              refine ⟨a, b', rfl, rfl, b, ws, k, j, rfl, rfl, hb3, by rw [rb.1]; exact hj, ?_⟩
              exact p3 _ M3 σ e4 ((((n.ext e1).ext e2).ext e3).ext e4) (S3.wr hc3 ⟨_, upd_same, (rb.set j (.int _)).ext e4⟩)
            · exact p3.elim
          · exact p3.elim
      · exact p2.elim
    · exact p2.elim
  · exact p2.elim
end
end DL

namespace DL
open PySem L2
/-! ### comprehensions with two clauses -/
def lcL2 (g : DG) (ts : DT) (it1 : DI) (own1 : List Nat) (g1 : DG) (ts1 : DT) (f : DE) (δ : DEnv) : List D → List D → R (List D)
  | [], τ => .ok [] τ
  | x :: xs, τ => (g x δ τ).noexn.bind fun δ1 τ1 => (ts δ1 τ1).noexn.bind fun b τ2 => if b = true then (it1 δ1 τ2).noexn.bind fun ys τ3 => if ys.length ≤ 1000 then
      (lcL g1 ts1 f (wipeD δ1 own1) ys τ3).bind fun r1 τ4 => (lcL2 g ts it1 own1 g1 ts1 f δ xs τ4).bind fun r2 τ5 => .ok (r1 ++ r2) τ5 else .bad
    else lcL2 g ts it1 own1 g1 ts1 f δ xs τ2
def dLC2 (own : List Nat) (it : DI) (g : DG) (ts : DT) (it1 : DI) (own1 : List Nat) (g1 : DG) (ts1 : DT) (f : DE) : DE := fun δ τ => (it δ τ).bind fun xs τ' =>
  if xs.length ≤ 1000 then (lcL2 g ts it1 own1 g1 ts1 f (wipeD δ own) xs τ').bind fun ys τ'' => .ok (.lst ys) τ'' else .bad
section
variable {X : Cx} {E : XK} {elt tg iter tg1 iter1 : Expr} {ifs ifs1 : List Expr} {scope : Scope} {own : List (Str × Nat)} {own1 : List Nat} {pos : Pos} {it it1 : DI} {gd gd1 : DG} {ts ts1 : DT} {f : DE}
theorem lc2_of {own : List Nat} {σ : St} {H : Hp} {Q : VK} (h : tE X.K E (dLC2 own it gd ts it1 own1 gd1 ts1 f) σ H Q) :
    tLc2 (tI X.K E it) (tGc X.K own gd) (tT X.K E0 ts) (tI X.K E0 it1) (tGc X.K own1 gd1) (tT X.K E0 ts1) (tE X.K E0 f) own own1 σ H Q := by
  obtain ⟨P, M, δ, τ, n, S, p⟩ := h
  refine ⟨P, M, δ, τ, n, S, ?_⟩
  refine (Post.bind p).mono fun H1 M1 τ1 items _ e1 S1 p1 J hJ L hL => ?_
  split at p1
  case isFalse => exact p1.elim
  rename_i hcap
  have pr : Prot P (L :: P) H1 := fun a ha => (List.mem_cons.mp ha).elim (fun z => .inr (z ▸ hL)) .inl
  have hLP : L ∉ P := fun z => (S1.prot L z).1 hL
  have hmL : L ∈ (⟨X.K, L :: P⟩ : KP).p := List.mem_cons_self
  have e0 : Ext H1 M1 (upd H1 L (.lst [])) M1 := Ext.new hL
  refine ⟨fun i m H => m = items.length - i ∧ i ≤ items.length ∧ ∃ M τ acc vs, Ext H1 M1 H M ∧ EnvD ⟨X.K, L :: P⟩ H M (wipe σ own) (wipeD δ own) ∧ Sto ⟨X.K, L :: P⟩ H M τ ∧ H L = some (.lst vs) ∧ RepL ⟨X.K, L :: P⟩ H M vs acc ∧ acc.length ≤ i * 1000 ∧
      Post ⟨X.K, P⟩ E H1 M1 ((lcL2 gd ts it1 own1 gd1 ts1 f (wipeD δ own) (items.drop i) τ).bind fun ys τ' => .ok (.lst (acc ++ ys)) τ') fun H' M' _ d => ∀ v, Rep ⟨X.K, P⟩ H' M' v d → Q v H',
    ⟨items.length, by simp, Nat.zero_le _, M1, τ1, [], [], e0, (((n.ext e1).prot pr).ext e0).wiped own, S1.enter hL, upd_same, .nil, Nat.zero_le _, by simpa using p1⟩, ?_⟩
  rintro i m H ⟨rfl, hi, M, τ, acc, vs, e, n, S, hl, ra, hai, p⟩
  obtain ⟨h1, h2⟩ := hJ (L :: P) H M pr e.toP i
  have hLM : L ∉ M := (S.prot L hmL).2
  by_cases hlt : i < items.length
  · refine .inr ⟨(h1 hlt).1, fun H' => ∃ M τ acc vs, Ext H1 M1 H' M ∧ EnvD ⟨X.K, L :: P⟩ H' M (wipe σ own) (wipeD δ own) ∧ Sto ⟨X.K, L :: P⟩ H' M τ ∧ H' L = some (.lst vs) ∧ RepL ⟨X.K, L :: P⟩ H' M vs acc ∧ acc.length ≤ (i + 1) * 1000 ∧
      Post ⟨X.K, P⟩ E H1 M1 ((lcL2 gd ts it1 own1 gd1 ts1 f (wipeD δ own) (items.drop (i + 1)) τ).bind fun ys τ' => .ok (.lst (acc ++ ys)) τ') fun H' M' _ d => ∀ v, Rep ⟨X.K, P⟩ H' M' v d → Q v H',
      fun H' q => ⟨items.length - (i + 1), by omega, rfl, hlt, q⟩, fun x H' y => ?_⟩
    obtain ⟨sm, rx⟩ := (h1 hlt).2 x H' (fun a ha => S.there ha) (fun a ha => (S.prot a ha).1) y
    have em : Ext H M H' M := Ext.same sm
    rw [List.drop_eq_getElem_cons hlt] at p
    unfold lcL2 at p
    obtain ⟨δ2, τ2, q1, p⟩ := p.okNoexn
    refine ⟨L :: P, M, wipeD δ own, τ, items[i], n.ext em, S.same sm, rx _ (by simp [hlt]), ?_⟩
    rw [q1]
    intro H2 M2 e2 S2 σ2 n2 w2
    refine ⟨w2.trans (wipe_wipe σ own), ?_⟩
    obtain ⟨b, τ3, q2, p⟩ := p.okNoexn
    refine ⟨L :: P, M2, δ2, τ2, n2, S2, ?_⟩
    rw [q2]
    intro H3 M3 e3 S3
    have e13 : Ext H M H3 M3 := (em.trans e2).trans e3
    have e03 : Ext H1 M1 H3 M3 := e.trans e13
    have n3 := n.ext e13
    cases b with
    | false =>
      simp only [Bool.false_eq_true, if_false] at p ⊢
      exact ⟨M3, τ3, acc, vs, e03, n3, S3, e13.keep L _ hLM hl, ra.ext e13, by omega, p⟩
    | true =>
      simp only [if_true] at p ⊢
      obtain ⟨ys, τ4, q3, p⟩ := p.okNoexn
      split at p
      case isFalse => exact p.elim
      rename_i hys
      refine ⟨L :: P, M3, δ2, τ3, n2.ext e3, S3, ?_⟩
      rw [q3]
      intro H4 M4 e4 S4 J1 hJ1
      have e14 := e13.trans e4
      have n24 := (n2.ext e3).ext e4
      have p : Post ⟨X.K, P⟩ E H1 M1 ((lcL gd1 ts1 f (wipeD δ2 own1) ys τ4).bind fun r1 τ5 => (lcL2 gd ts it1 own1 gd1 ts1 f (wipeD δ own) (items.drop (i + 1)) τ5).bind fun r2 τ6 => .ok (.lst (acc ++ (r1 ++ r2))) τ6) fun H' M' _ d => ∀ v, Rep ⟨X.K, P⟩ H' M' v d → Q v H' := by
        rw [R.bind_assoc] at p
        simp only [R.bind_assoc] at p
        exact p
      refine ⟨fun j k H => k = ys.length - j ∧ j ≤ ys.length ∧ ∃ M τ acc vs, Ext H1 M1 H M ∧ (ExtP (L :: P) H4 M4 H M ∧ ∀ a, H4 a ≠ none → H a ≠ none) ∧ EnvD ⟨X.K, L :: P⟩ H M (wipe σ own) (wipeD δ own) ∧ EnvD ⟨X.K, L :: P⟩ H M (wipe σ2 own1) (wipeD δ2 own1) ∧ Sto ⟨X.K, L :: P⟩ H M τ ∧ H L = some (.lst vs) ∧ RepL ⟨X.K, L :: P⟩ H M vs acc ∧ acc.length ≤ i * 1000 + j ∧
        Post ⟨X.K, P⟩ E H1 M1 ((lcL gd1 ts1 f (wipeD δ2 own1) (ys.drop j) τ).bind fun r1 τ5 => (lcL2 gd ts it1 own1 gd1 ts1 f (wipeD δ own) (items.drop (i + 1)) τ5).bind fun r2 τ6 => .ok (.lst (acc ++ (r1 ++ r2))) τ6) fun H' M' _ d => ∀ v, Rep ⟨X.K, P⟩ H' M' v d → Q v H',
        ⟨ys.length, by simp, Nat.zero_le _, M4, τ4, acc, vs, e.trans e14, ⟨(Ext.refl _ _).toP, fun _ h => h⟩, n.ext e14, n24.wiped own1, S4, e14.keep L _ hLM hl, ra.ext e14, by omega, by simpa using p⟩, ?_⟩
      clear p
      rintro j k H5 ⟨rfl, hj, M5, τ5, acc5, vs5, e5, e45, n5, m5, S5, hl5, ra5, hai5, p⟩
      have hLM5 : L ∉ M5 := (S5.prot L hmL).2
      obtain ⟨g1, g2⟩ := hJ1 (L :: P) H5 M5 (Prot.refl _ _) e45.1 j
      by_cases hjl : j < ys.length
      · refine .inr ⟨(g1 hjl).1, fun H => ∃ M τ acc vs, Ext H1 M1 H M ∧ (ExtP (L :: P) H4 M4 H M ∧ ∀ a, H4 a ≠ none → H a ≠ none) ∧ EnvD ⟨X.K, L :: P⟩ H M (wipe σ own) (wipeD δ own) ∧ EnvD ⟨X.K, L :: P⟩ H M (wipe σ2 own1) (wipeD δ2 own1) ∧ Sto ⟨X.K, L :: P⟩ H M τ ∧ H L = some (.lst vs) ∧ RepL ⟨X.K, L :: P⟩ H M vs acc ∧ acc.length ≤ i * 1000 + (j + 1) ∧
          Post ⟨X.K, P⟩ E H1 M1 ((lcL gd1 ts1 f (wipeD δ2 own1) (ys.drop (j + 1)) τ).bind fun r1 τ5 => (lcL2 gd ts it1 own1 gd1 ts1 f (wipeD δ own) (items.drop (i + 1)) τ5).bind fun r2 τ6 => .ok (.lst (acc ++ (r1 ++ r2))) τ6) fun H' M' _ d => ∀ v, Rep ⟨X.K, P⟩ H' M' v d → Q v H',
          fun H' q => ⟨ys.length - (j + 1), by omega, rfl, hjl, q⟩, fun x H6 y => ?_⟩
        obtain ⟨sm, rx⟩ := (g1 hjl).2 x H6 (fun a ha => S5.there ha) (fun a ha => (S5.prot a ha).1) y
        have em : Ext H5 M5 H6 M5 := Ext.same sm
        rw [List.drop_eq_getElem_cons hjl] at p
        unfold lcL at p
        obtain ⟨δ7, τ7, q1, p⟩ := p.okNoexn
        refine ⟨L :: P, M5, wipeD δ2 own1, τ5, ys[j], m5.ext em, S5.same sm, rx _ (by simp [hjl]), ?_⟩
        rw [q1]
        intro H7 M7 e7 S7 σ7 n7 w7
        refine ⟨w7.trans (wipe_wipe σ2 own1), ?_⟩
        obtain ⟨b, τ8, q2, p⟩ := p.okNoexn
        refine ⟨L :: P, M7, δ7, τ7, n7, S7, ?_⟩
        rw [q2]
        intro H8 M8 e8 S8
        have e58 : Ext H5 M5 H8 M8 := (em.trans e7).trans e8
        cases b with
        | false =>
          simp only [Bool.false_eq_true, if_false] at p ⊢
          exact ⟨M8, τ8, acc5, vs5, e5.trans e58, ⟨e45.1.trans e58 e45.2, fun a h => e58.live a (e45.2 a h)⟩, n5.ext e58, m5.ext e58, S8, e58.keep L _ hLM5 hl5, ra5.ext e58, by omega, p⟩
        | true =>
          simp only [if_true] at p ⊢
          obtain ⟨yd, τ9, q3, p⟩ := p.okNoexn
          refine ⟨L :: P, M8, δ7, τ8, n7.ext e8, S8, ?_⟩
          rw [q3]
          intro H9 M9 e9 S9 yv ry
          have e59 := e58.trans e9
          have hl9 : H9 L = some (.lst vs5) := e59.keep L _ hLM5 hl5
          refine ⟨vs5, hl9, ?_, ?_⟩
          · rw [ra5.1]
            have : i * 1000 ≤ 999 * 1000 := Nat.mul_le_mul_right _ (by omega)
            exact cap_lt (m := cap) (by unfold cap; omega) (Nat.le_refl _)
          · refine ⟨M9, τ9, acc5 ++ [yd], vs5 ++ [yv], (e5.trans e59).wrN hL, ?_, (n5.ext e59).wrP hmL, (m5.ext e59).wrP hmL, S9.wrP hmL, upd_same, ((ra5.ext e59).append (.cons ry .nil)).wrP hmL, by simp; omega, ?_⟩
            · refine ⟨(e45.1.trans e59 e45.2).wr List.mem_cons_self, fun a h => ?_⟩
              have := e59.live a (e45.2 a h)
              by_cases ea : a = L
              · subst ea; rw [upd_same]; exact fun z => nomatch z
              · rw [upd_ne ea]; exact this
            · rw [R.bind_assoc] at p
              have ee : (fun (ys : List D) (τ : List D) => (R.ok (yd :: ys) τ).bind fun r1 τ5 => (lcL2 gd ts it1 own1 gd1 ts1 f (wipeD δ own) (items.drop (i + 1)) τ5).bind fun r2 τ6 => R.ok (D.lst (acc5 ++ (r1 ++ r2))) τ6) = fun r1 τ5 => (lcL2 gd ts it1 own1 gd1 ts1 f (wipeD δ own) (items.drop (i + 1)) τ5).bind fun r2 τ6 => R.ok (D.lst (acc5 ++ [yd] ++ (r1 ++ r2))) τ6 := by
                funext r1 τ5
                simp [R.bind]
              rw [ee] at p
              exact p
      · have ej : j = ys.length := by omega
        subst ej
        rw [List.drop_eq_nil_of_le (Nat.le_refl _)] at p
        refine .inl ⟨g2 (Nat.le_refl _), M5, τ5, acc5, vs5, e5, n5, S5, hl5, ra5, by omega, ?_⟩
        have ee : ((lcL gd1 ts1 f (wipeD δ2 own1) [] τ5).bind fun r1 τ5 => (lcL2 gd ts it1 own1 gd1 ts1 f (wipeD δ own) (items.drop (i + 1)) τ5).bind fun r2 τ6 => R.ok (D.lst (acc5 ++ (r1 ++ r2))) τ6) = (lcL2 gd ts it1 own1 gd1 ts1 f (wipeD δ own) (items.drop (i + 1)) τ5).bind fun r2 τ6 => R.ok (D.lst (acc5 ++ r2)) τ6 := rfl
        rw [ee] at p
        exact p
  · have ei : i = items.length := by omega
    subst ei
    rw [List.drop_eq_nil_of_le (Nat.le_refl _)] at p
    refine .inl ⟨h2 (Nat.le_refl _), ?_⟩
    have hLP' : Prot (L :: P) P H := fun a ha => .inl (List.mem_cons_of_mem _ ha)
    have S' : Sto ⟨X.K, P⟩ H M τ := S.prots hLP' fun a ha => S.prot a (List.mem_cons_of_mem _ ha)
    have p : Post ⟨X.K, P⟩ E H1 M1 (R.ok (D.lst (acc ++ [])) τ) fun H' M' _ d => ∀ v, Rep ⟨X.K, P⟩ H' M' v d → Q v H' := p
    rw [List.append_nil] at p
    exact p H M e S' _ (Rep.lst hl ⟨hLM, hLP⟩ ra.1 (ra.prot hLP').2)
theorem de_lc2 (hc : X.calm = true) (hN : X.N.Nodup) (hi : PI X tg iter (tI X.K E it)) (ok : BlkOk X.N X.env.scope scope own) (hv : ∀ i ∈ own1, i ∈ own.map (·.2))
    (hg : ∀ (s : Shared) (H : Hp) (C : Addr) (cl : List (Str × Addr)) (fp : List Addr), PG (X.blk s H scope (compEnvC scope cl C X.env) fp) tg (tGc X.K (own.map (·.2)) gd)) (ht : ∀ (s : Shared) (H : Hp) (C : Addr) (cl : List (Str × Addr)) (fp : List Addr), PTs (X.blk s H scope (compEnvC scope cl C X.env) fp) ifs (tT X.K E0 ts))
    (hi1 : ∀ (s : Shared) (H : Hp) (C : Addr) (cl : List (Str × Addr)) (fp : List Addr), PI (X.blk s H scope (compEnvC scope cl C X.env) fp) tg1 iter1 (tI X.K E0 it1))
    (hg1 : ∀ (s : Shared) (H : Hp) (C : Addr) (cl : List (Str × Addr)) (fp : List Addr), PG (X.blk s H scope (compEnvC scope cl C X.env) fp) tg1 (tGc X.K own1 gd1)) (ht1 : ∀ (s : Shared) (H : Hp) (C : Addr) (cl : List (Str × Addr)) (fp : List Addr), PTs (X.blk s H scope (compEnvC scope cl C X.env) fp) ifs1 (tT X.K E0 ts1))
    (he : ∀ (s : Shared) (H : Hp) (C : Addr) (cl : List (Str × Addr)) (fp : List Addr), PE (X.blk s H scope (compEnvC scope cl C X.env) fp) elt (tE X.K E0 f)) (hs : ∀ x, foldedSetIterable iter X.env x = pure x := by intro _; rfl) (hs1 : ∀ env x, foldedSetIterable iter1 env x = pure x := by intro _ _; rfl) :
    PE X (.ListComp elt [⟨tg, iter, ifs, 0⟩, ⟨tg1, iter1, ifs1, 0⟩] scope pos) (tE X.K E (dLC2 (own.map (·.2)) it gd ts it1 own1 gd1 ts1 f)) := (pe_lc2 hc hN hi ok hv hg ht hi1 hg1 ht1 he hs hs1).imp fun _ _ _ h => lc2_of h
theorem ds_setLc2 (i : Nat) {y : Str} {py spos : Pos} (hc : X.calm = true) (hN : X.N.Nodup) (hi : PI X tg iter (tI X.K E it)) (ok : BlkOk X.N X.env.scope scope own) (hv : ∀ i ∈ own1, i ∈ own.map (·.2))
    (hg : ∀ (s : Shared) (H : Hp) (C : Addr) (cl : List (Str × Addr)) (fp : List Addr), PG (X.blk s H scope (compEnvC scope cl C X.env) fp) tg (tGc X.K (own.map (·.2)) gd)) (ht : ∀ (s : Shared) (H : Hp) (C : Addr) (cl : List (Str × Addr)) (fp : List Addr), PTs (X.blk s H scope (compEnvC scope cl C X.env) fp) ifs (tT X.K E0 ts))
    (hi1 : ∀ (s : Shared) (H : Hp) (C : Addr) (cl : List (Str × Addr)) (fp : List Addr), PI (X.blk s H scope (compEnvC scope cl C X.env) fp) tg1 iter1 (tI X.K E0 it1))
    (hg1 : ∀ (s : Shared) (H : Hp) (C : Addr) (cl : List (Str × Addr)) (fp : List Addr), PG (X.blk s H scope (compEnvC scope cl C X.env) fp) tg1 (tGc X.K own1 gd1)) (ht1 : ∀ (s : Shared) (H : Hp) (C : Addr) (cl : List (Str × Addr)) (fp : List Addr), PTs (X.blk s H scope (compEnvC scope cl C X.env) fp) ifs1 (tT X.K E0 ts1))
    (he : ∀ (s : Shared) (H : Hp) (C : Addr) (cl : List (Str × Addr)) (fp : List Addr), PE (X.blk s H scope (compEnvC scope cl C X.env) fp) elt (tE X.K E0 f)) (hy : X.N[i]? = some y := by rfl) (hyl : X.env.scope.names.lookup y = some .local := by rfl)
    (hsw : swapsWith (.ListComp elt [⟨tg, iter, ifs, 0⟩, ⟨tg1, iter1, ifs1, 0⟩] scope pos) (some (.Name y py)) spos.line X.env = pure true := by exact sw_true rfl rfl rfl (by decide +kernel))
    (hs : ∀ x, foldedSetIterable iter X.env x = pure x := by intro _; rfl) (hs1 : ∀ env x, foldedSetIterable iter1 env x = pure x := by intro _ _; rfl) :
    PS X (.Assign [.Name y py] (.ListComp elt [⟨tg, iter, ifs, 0⟩, ⟨tg1, iter1, ifs1, 0⟩] scope pos) spos) (tS X.K E (dAsg (dLC2 (own.map (·.2)) it gd ts it1 own1 gd1 ts1 f) (dgName i))) := by
  refine (ps_setLc2 hc hN hy hyl hsw hi ok hv hg ht hi1 hg1 ht1 he hs hs1).imp fun Z σ H h => ?_
  have h := asg_of h
  have h := lc2_of h
  obtain ⟨P, M, δ, τ, n, S, p⟩ := h
  refine ⟨P, M, δ, τ, n, S, p.mono fun H1 M1 τ1 items _ e1 S1 p1 J hJ L hL => ?_⟩
  obtain ⟨W, h0, hW⟩ := p1 J hJ L hL
  refine ⟨W, h0, fun i' m H w => ?_⟩
  rcases hW i' m H w with ⟨z1, z2⟩ | z
  · exact .inl ⟨z1, nm_of z2⟩
  · exact .inr z
end
end DL

namespace DL
open PySem L2
section
variable {X : Cx} {E : XK}
def pAny : Pr
  | [d], τ => match der τ d with
    | .lst xs => (match blsOf τ xs with
      | some bs => .ok (.bl (bs.any id)) τ
      | none => .bad)
    | _ => .bad
  | _, _ => .bad
theorem o_any (hc : X.calm = true) : OpC X E (.builtin "any") pAny := CallR.any fun xs H Q h => by
  obtain ⟨P, M, τ, ds, S, r, p⟩ := h
  match ds, p with
  | [d], p =>
    obtain ⟨v, rfl, rv⟩ := r.one
    unfold pAny at p
    simp only at p
    split at p
    · rename_i ys hx
      split at p
      · rename_i bs hb
        obtain ⟨a, vs, rfl, ha, ra⟩ := rep_lst rv S hx
        have ev := blsOf_rep S hb ra
        exact ⟨_, cr_any hc, a, bs, rfl, by rw [← ev]; exact SqL.of ha, Post.here p S _ (.bl _)⟩
      · exact p.elim
    · exact p.elim
  | [], p => exact p.elim
  | _ :: _ :: _, p => exact p.elim
def pDivmod : Pr
  | [d, e], τ => match der τ d, der τ e with
    | .int i, .int j => if 0 < j ∧ j.natAbs < BIGD then .ok (.tup [.int (i / j), .int (i % j)]) τ else .bad
    | _, _ => .bad
  | _, _ => .bad
theorem bigd_pylong {i j : Int} (h : j.natAbs < BIGD) : Builtin.divisionGoesByPylong i j = false := by
  unfold BIGD at h
  have hl : j.natAbs.log2 < 8000 := PySem.Flt.log2_lt_of (by decide) h
  unfold Builtin.divisionGoesByPylong
  by_cases hj : (j == 0) = true
  · simp [hj]
  · have e : (if (j == 0) = true then 0 else j.natAbs.log2 / 30 + 1) ≤ 300 := by
      rw [if_neg hj]; omega
    simp only [decide_eq_false (show ¬ (if (j == 0) = true then 0 else j.natAbs.log2 / 30 + 1) > 300 from by omega), Bool.false_and]
theorem o_divmod : OpC X E (.builtin "divmod") pDivmod := CallR.any fun xs H Q h => by
  obtain ⟨P, M, τ, ds, S, r, p⟩ := h
  match ds, p with
  | [d, e], p =>
    obtain ⟨v, u, rfl, rv, ru⟩ := r.two
    unfold pDivmod at p
    simp only at p
    split at p
    · rename_i i j hi hj
      split at p
      · rename_i hz
        obtain rfl := rep_int rv S hi
        obtain rfl := rep_int ru S hj
        exact ⟨_, call_divmodW, i, j, rfl, ⟨hz.1, bigd_pylong hz.2⟩, fun q hq => p.newT S (RepL.cons (.int _) (RepL.cons (.int _) .nil)) q hq⟩
      · exact p.elim
    · exact p.elim
  | [], p => exact p.elim
  | [_], p => exact p.elim
  | _ :: _ :: _ :: _, p => exact p.elim
def pReverse : Pr
  | [.cell c], τ => match τ[c]? with
    | some (.lst xs) => .ok .non (τ.set c (.lst xs.reverse))
    | _ => .bad
  | _, _ => .bad
theorem m_reverse : OpM X E "list.reverse" pReverse := MtR.any fun x xs H Q h => by
  obtain ⟨P, M, τ, d, ds, S, rx, rs, p⟩ := rpm h
  match d, ds, p with
  | .cell c, [], p =>
    have e := rs.nil'
    subst e
    unfold pReverse at p
    simp only at p
    split at p
    · rename_i ys hy
      cases rx with
      | @cell _ a hc =>
        obtain ⟨us, ha, ra⟩ := S.at_ c a _ hc hy
        exact ⟨_, mt_reverse, a, us, rfl, rfl, ha, p.wr S hc ⟨_, upd_same, ra.reverse.ext (Ext.wr (List.mem_of_getElem? hc))⟩ .non⟩
    · exact p.elim
/-- the place of an int -/
def pIndex : Pr
  | [d, e], τ => match der τ d, der τ e with
    | .lst xs, .int k => (match intsOf τ xs with
      | some ns => if k ∈ ns then .ok (.int (ns.idxOf k : Nat)) τ else .bad
      | none => .bad)
    | _, _ => .bad
  | _, _ => .bad
theorem flat_ints (ns : List Int) : (ns.map V.int).all flatV = true := by
  rw [List.all_map, List.all_eq_true]
  intro x _; rfl
theorem m_index : OpM X E "list.index" pIndex := MtR.any fun x xs H Q h => by
  obtain ⟨P, M, τ, d, ds, S, rx, rs, p⟩ := rpm h
  match d, ds, p with
  | d, [e], p =>
    obtain ⟨u, rfl, ru⟩ := rs.one
    unfold pIndex at p
    simp only at p
    split at p
    · rename_i ys k hy hk
      split at p
      · rename_i ns hns
        split at p
        · rename_i hin
          obtain ⟨a, vs, rfl, ha, ra⟩ := rep_lst rx S hy
          obtain rfl := rep_int ru S hk
          have ev := intsOf_rep S hns ra
          subst ev
          refine ⟨_, mt_index, a, ns.map V.int, .int k, ns.idxOf k, .int k, rfl, rfl, SqL.of ha, rfl, flat_ints ns, ?_, by simp [eqV], fun m z hm hz => ?_, Post.here p S _ (.int _)⟩
          · rw [List.getElem?_map, List.getElem?_eq_getElem (List.idxOf_lt_length_of_mem hin), List.getElem_idxOf]; rfl
          · rw [List.getElem?_map] at hz
            cases q : ns[m]? with
            | none => rw [q] at hz; cases hz
            | some y =>
              rw [q] at hz
              cases hz
              have hlt : m < ns.length := (List.getElem?_eq_some_iff.mp q).1
              have := List.not_of_lt_findIdx (xs := ns) (p := (· == k)) (i := m) hm
              have e2 : ns[m] = y := (List.getElem?_eq_some_iff.mp q).2
              rw [e2] at this
              simpa [eqV] using this
        · exact p.elim
      · exact p.elim
    · exact p.elim
end
end DL

namespace DL
open PySem L2
/-! ### a comprehension whose list is changed later: a cell -/
def dLCc (own : List Nat) (it : DI) (g : DG) (ts : DT) (f : DE) : DE := fun δ τ => (it δ τ).bind fun xs τ' => if xs.length ≤ cap then (lcL g ts f (wipeD δ own) xs τ').bind fun ys τ'' => .ok (.cell τ''.length) (τ'' ++ [.lst ys]) else .bad
section
variable {X : Cx} {E : XK} {elt tg iter : Expr} {ifs : List Expr} {scope : Scope} {own : List (Str × Nat)} {pos : Pos} {it : DI} {gd : DG} {ts : DT} {f : DE}
theorem lcC_of {own : List Nat} {σ : St} {H : Hp} {Q : VK} (h : tE X.K E (dLCc own it gd ts f) σ H Q) :
    tLc (tI X.K E it) (tGc X.K own gd) (tT X.K E0 ts) (tE X.K E0 f) own σ H Q := by
  obtain ⟨P, M, δ, τ, n, S, p⟩ := h
  refine ⟨P, M, δ, τ, n, S, ?_⟩
  refine (Post.bind p).mono fun H1 M1 τ1 items _ e1 S1 p1 J hJ L hL => ?_
  split at p1
  case isFalse => exact p1.elim
  rename_i hcap
  have pr : Prot P (L :: P) H1 := fun a ha => (List.mem_cons.mp ha).elim (fun z => .inr (z ▸ hL)) .inl
  have hLP : L ∉ P := fun z => (S1.prot L z).1 hL
  have hmL : L ∈ (⟨X.K, L :: P⟩ : KP).p := List.mem_cons_self
  have e0 : Ext H1 M1 (upd H1 L (.lst [])) M1 := Ext.new hL
  refine ⟨fun i m H => m = items.length - i ∧ i ≤ items.length ∧ ∃ M τ acc vs, Ext H1 M1 H M ∧ EnvD ⟨X.K, L :: P⟩ H M (wipe σ own) (wipeD δ own) ∧ Sto ⟨X.K, L :: P⟩ H M τ ∧ H L = some (.lst vs) ∧ RepL ⟨X.K, L :: P⟩ H M vs acc ∧ acc.length ≤ i ∧
      Post ⟨X.K, P⟩ E H1 M1 ((lcL gd ts f (wipeD δ own) (items.drop i) τ).bind fun ys τ' => .ok (.cell τ'.length) (τ' ++ [.lst (acc ++ ys)])) fun H' M' _ d => ∀ v, Rep ⟨X.K, P⟩ H' M' v d → Q v H',
    ⟨items.length, by simp, Nat.zero_le _, M1, τ1, [], [], e0, (((n.ext e1).prot pr).ext e0).wiped own, S1.enter hL, upd_same, .nil, Nat.le_refl _, by simpa using p1⟩, ?_⟩
  rintro i m H ⟨rfl, hi, M, τ, acc, vs, e, n, S, hl, ra, hai, p⟩
  obtain ⟨h1, h2⟩ := hJ (L :: P) H M pr e.toP i
  have hLM : L ∉ M := (S.prot L hmL).2
  by_cases hlt : i < items.length
  · refine .inr ⟨(h1 hlt).1, fun H' => ∃ M τ acc vs, Ext H1 M1 H' M ∧ EnvD ⟨X.K, L :: P⟩ H' M (wipe σ own) (wipeD δ own) ∧ Sto ⟨X.K, L :: P⟩ H' M τ ∧ H' L = some (.lst vs) ∧ RepL ⟨X.K, L :: P⟩ H' M vs acc ∧ acc.length ≤ i + 1 ∧
      Post ⟨X.K, P⟩ E H1 M1 ((lcL gd ts f (wipeD δ own) (items.drop (i + 1)) τ).bind fun ys τ' => .ok (.cell τ'.length) (τ' ++ [.lst (acc ++ ys)])) fun H' M' _ d => ∀ v, Rep ⟨X.K, P⟩ H' M' v d → Q v H',
      fun H' q => ⟨items.length - (i + 1), by omega, rfl, hlt, q⟩, fun x H' y => ?_⟩
    obtain ⟨sm, rx⟩ := (h1 hlt).2 x H' (fun a ha => S.there ha) (fun a ha => (S.prot a ha).1) y
    have em : Ext H M H' M := Ext.same sm
    rw [List.drop_eq_getElem_cons hlt] at p
    unfold lcL at p
    obtain ⟨δ2, τ2, q1, p⟩ := p.okNoexn
    refine ⟨L :: P, M, wipeD δ own, τ, items[i], n.ext em, S.same sm, rx _ (by simp [hlt]), ?_⟩
    rw [q1]
    intro H2 M2 e2 S2 σ2 n2 w2
    refine ⟨w2.trans (wipe_wipe σ own), ?_⟩
    obtain ⟨b, τ3, q2, p⟩ := p.okNoexn
    refine ⟨L :: P, M2, δ2, τ2, n2, S2, ?_⟩
    rw [q2]
    intro H3 M3 e3 S3
    have e13 : Ext H M H3 M3 := (em.trans e2).trans e3
    have e03 : Ext H1 M1 H3 M3 := e.trans e13
    have n3 := n.ext e13
    cases b with
    | false =>
      simp only [Bool.false_eq_true, if_false] at p ⊢
      exact ⟨M3, τ3, acc, vs, e03, n3, S3, e13.keep L _ hLM hl, ra.ext e13, by omega, p⟩
    | true =>
      simp only [if_true] at p ⊢
      obtain ⟨yd, τ4, q3, p⟩ := p.okNoexn
      refine ⟨L :: P, M3, δ2, τ3, n2.ext e3, S3, ?_⟩
      rw [q3]
      intro H4 M4 e4 S4 yv ry
      have e14 := e13.trans e4
      have hl4 : H4 L = some (.lst vs) := e14.keep L _ hLM hl
      refine ⟨vs, hl4, ?_, ?_⟩
      · rw [ra.1]; exact cap_lt (Nat.lt_of_le_of_lt hai hlt) hcap
      · refine ⟨M4, τ4, acc ++ [yd], vs ++ [yv], (e.trans e14).wrN hL, (n.ext e14).wrP hmL, S4.wrP hmL, upd_same, ?_, by simp; omega, ?_⟩
        · exact ((ra.ext e14).append (.cons ry .nil)).wrP hmL
        · rw [R.bind_assoc] at p
          have ee : (fun (ys : List D) (τ : List D) => (R.ok (yd :: ys) τ).bind fun ys τ' => R.ok (D.cell τ'.length) (τ' ++ [D.lst (acc ++ ys)])) = fun ys τ' => R.ok (D.cell τ'.length) (τ' ++ [D.lst (acc ++ [yd] ++ ys)]) := by
            funext ys τ'
            simp [R.bind]
          rw [ee] at p
          exact p
  · have ei : i = items.length := by omega
    subst ei
    rw [List.drop_eq_nil_of_le (Nat.le_refl _)] at p
    refine .inl ⟨h2 (Nat.le_refl _), ?_⟩
    have hLP' : Prot (L :: P) P H := fun a ha => .inl (List.mem_cons_of_mem _ ha)
    have p : Post ⟨X.K, P⟩ E H1 M1 (R.ok (D.cell τ.length) (τ ++ [D.lst (acc ++ [])])) fun H' M' _ d => ∀ v, Rep ⟨X.K, P⟩ H' M' v d → Q v H' := p
    rw [List.append_nil] at p
    have eu : upd H L (.lst vs) = H := by
      funext a
      by_cases h : a = L
      · subst h; rw [upd_same, hl]
      · rw [upd_ne h]
    have S' := S.leave (o := .lst vs) hLP (d := .lst acc) ⟨vs, upd_same, (RepL.wrP ra hmL (o := .lst vs)) |> fun r => ⟨r.1, fun i v d h1 h2 => by
      have := (ra.2 i v d h1 h2).leave (o := .lst vs)
      exact this⟩⟩
    rw [eu] at S'
    have e' : Ext H1 M1 H (M ++ [L]) := e.addC hL
    refine p H (M ++ [L]) e' S' _ (Rep.cell ?_)
    rw [← S.len, List.getElem?_append_right (Nat.le_refl _), Nat.sub_self]
    rfl
/-- [elt for .. in .. if ..] -/
theorem de_lcC (hc : X.calm = true) (hN : X.N.Nodup) (hi : PI X tg iter (tI X.K E it)) (ok : BlkOk X.N X.env.scope scope own)
    (hg : ∀ (s : Shared) (H : Hp) (C : Addr) (cl : List (Str × Addr)) (fp : List Addr), PG (X.blk s H scope (compEnvC scope cl C X.env) fp) tg (tGc X.K (own.map (·.2)) gd))
    (ht : ∀ (s : Shared) (H : Hp) (C : Addr) (cl : List (Str × Addr)) (fp : List Addr), PTs (X.blk s H scope (compEnvC scope cl C X.env) fp) ifs (tT X.K E0 ts))
    (he : ∀ (s : Shared) (H : Hp) (C : Addr) (cl : List (Str × Addr)) (fp : List Addr), PE (X.blk s H scope (compEnvC scope cl C X.env) fp) elt (tE X.K E0 f)) (hs : ∀ x, foldedSetIterable iter X.env x = pure x := by intro _; rfl) :
    PE X (.ListComp elt [⟨tg, iter, ifs, 0⟩] scope pos) (tE X.K E (dLCc (own.map (·.2)) it gd ts f)) := (pe_lc hc hN hi ok hg ht he hs).imp fun _ _ _ h => lcC_of h
theorem ds_setLcC (i : Nat) {y : Str} {py spos : Pos} (hc : X.calm = true) (hN : X.N.Nodup) (hi : PI X tg iter (tI X.K E it)) (ok : BlkOk X.N X.env.scope scope own)
    (hg : ∀ (s : Shared) (H : Hp) (C : Addr) (cl : List (Str × Addr)) (fp : List Addr), PG (X.blk s H scope (compEnvC scope cl C X.env) fp) tg (tGc X.K (own.map (·.2)) gd))
    (ht : ∀ (s : Shared) (H : Hp) (C : Addr) (cl : List (Str × Addr)) (fp : List Addr), PTs (X.blk s H scope (compEnvC scope cl C X.env) fp) ifs (tT X.K E0 ts))
    (he : ∀ (s : Shared) (H : Hp) (C : Addr) (cl : List (Str × Addr)) (fp : List Addr), PE (X.blk s H scope (compEnvC scope cl C X.env) fp) elt (tE X.K E0 f))
    (hy : X.N[i]? = some y := by rfl) (hyl : X.env.scope.names.lookup y = some .local := by rfl)
    (hsw : swapsWith (.ListComp elt [⟨tg, iter, ifs, 0⟩] scope pos) (some (.Name y py)) spos.line X.env = pure true := by exact sw_true rfl rfl rfl (by decide +kernel))
    (hs : ∀ x, foldedSetIterable iter X.env x = pure x := by intro _; rfl) :
    PS X (.Assign [.Name y py] (.ListComp elt [⟨tg, iter, ifs, 0⟩] scope pos) spos) (tS X.K E (dAsg (dLCc (own.map (·.2)) it gd ts f) (dgName i))) := by
  refine (ps_setLc hc hN hy hyl hsw hi ok hg ht he hs).imp fun Z σ H h => ?_
  have h := asg_of h
  have h := lcC_of h
  obtain ⟨P, M, δ, τ, n, S, p⟩ := h
  refine ⟨P, M, δ, τ, n, S, p.mono fun H1 M1 τ1 items _ e1 S1 p1 J hJ L hL => ?_⟩
  obtain ⟨W, h0, hW⟩ := p1 J hJ L hL
  refine ⟨W, h0, fun i' m H w => ?_⟩
  rcases hW i' m H w with ⟨z1, z2⟩ | z
  · exact .inl ⟨z1, nm_of z2⟩
  · exact .inr z
end
end DL

/-! cells that are done with are sealed: from here on they are values -/
namespace DL
open PySem L2
/-- the heap goes on; of the cells only the first m0 are sure to stay -/
structure ExtB (m0 : Nat) (H : Hp) (M : List Addr) (H' : Hp) (M' : List Addr) : Prop where
  more : ∃ N, M' = M.take m0 ++ N ∧ ∀ a ∈ N, H a = none ∨ a ∈ M
  keep : ∀ a o, a ∉ M → H a = some o → H' a = some o
  live : ∀ a, H a ≠ none → H' a ≠ none
section
variable {K : KP} {E : XK} {H H' H1 : Hp} {M M' M1 : List Addr} {σ : St} {δ : DEnv} {τ τ' : List D} {m0 k : Nat}
theorem Ext.toB (e : Ext H M H' M') : ExtB m0 H M H' M' := by
  obtain ⟨⟨N, rfl, hN⟩, k, l⟩ := e
  refine ⟨⟨M.drop m0 ++ N, by rw [← List.append_assoc, List.take_append_drop], fun a ha => ?_⟩, k, l⟩
  rcases List.mem_append.mp ha with h | h
  · exact .inr (List.mem_of_mem_drop h)
  · exact .inl (hN a h)
theorem Ext.transB (e : Ext H M H1 M1) (f : ExtB m0 H1 M1 H' M') : ExtB m0 H M H' M' := by
  have nn := fun (a : Addr) (o : HO) (h : H a = some o) (hm : a ∉ M) => e.notin h hm
  obtain ⟨⟨N, rfl, hN⟩, k1, l1⟩ := e
  obtain ⟨⟨N2, rfl, hN2⟩, k2, l2⟩ := f
  have fresh : ∀ a, H1 a = none → H a = none := fun a h => by
    cases q : H a with
    | none => rfl
    | some o => exact absurd h (l1 a (by rw [q]; exact fun z => nomatch z))
  refine ⟨⟨N.take (m0 - M.length) ++ N2, by rw [List.take_append, List.append_assoc], fun a ha => ?_⟩, fun a o ha h => k2 a o (nn a o h ha) (k1 a o ha h), fun a h => l2 a (l1 a h)⟩
  rcases List.mem_append.mp ha with z | z
  · exact .inl (hN a (List.mem_of_mem_take z))
  · rcases hN2 a z with h | h
    · exact .inl (fresh a h)
    · rcases List.mem_append.mp h with h | h
      · exact .inr h
      · exact .inl (hN a h)
theorem ExtB.toExt (e : ExtB M.length H M H' M') (nd : M'.Nodup) : Ext H M H' M' := by
  obtain ⟨⟨N, rfl, hN⟩, k, l⟩ := e
  rw [List.take_length] at nd ⊢
  refine ⟨⟨N, rfl, fun a ha => (hN a ha).resolve_right fun z => ?_⟩, k, l⟩
  exact (List.nodup_append.mp nd).2.2 a z a ha rfl
theorem ExtB.up (e : ExtB m0 H (M.take k) H' M') (h : m0 ≤ k) : ExtB m0 H M H' M' := by
  obtain ⟨⟨N, rfl, hN⟩, q, l⟩ := e
  refine ⟨⟨N, by rw [List.take_take, Nat.min_eq_left h], fun a ha => (hN a ha).imp_right List.mem_of_mem_take⟩, fun a o ha => q a o fun z => ha (List.mem_of_mem_take z), l⟩
end
section
variable (m0 : Nat) (K : KP) (E : XK)
def PostB (H : Hp) (M : List Addr) (D : Ends) (r : RS) : Prop := match r with
  | .nx δ' τ' => ∀ H' M' σ', ExtB m0 H M H' M' → EnvD K H' M' σ' δ' → Sto K H' M' τ' → D.nx σ' H'
  | .bk δ' τ' => ∀ H' M' σ', ExtB m0 H M H' M' → EnvD K H' M' σ' δ' → Sto K H' M' τ' → D.bk σ' H'
  | .ct δ' τ' => ∀ H' M' σ', ExtB m0 H M H' M' → EnvD K H' M' σ' δ' → Sto K H' M' τ' → D.ct σ' H'
  | .rt d τ' => ∀ H' M' v, ExtB m0 H M H' M' → Sto K H' M' τ' → Rep K H' M' v d → D.rt v H'
  | .exn C fs τ' => ∀ H' M' d fvs, ExtB m0 H M H' M' → Sto K H' M' τ' → H' d = some (.xd fvs) → RepF K H' M' fvs fs → E (.ref C) (some d) H'
  | .bad => False
end
def tB (m0 : Nat) (K : PySem.W.Frag) (E : XK) (f : DS) : TS := fun D σ H => ∃ P M δ τ, EnvD ⟨K, P⟩ H M σ δ ∧ Sto ⟨K, P⟩ H M τ ∧ PostB m0 ⟨K, P⟩ E H M D (f δ τ)
section
variable {K : KP} {E : XK} {H H' : Hp} {M M' : List Addr} {σ : St} {δ : DEnv} {τ : List D} {m0 k : Nat} {D : Ends} {r : RS}
theorem PostB.toS (h : PostB m0 K E H M D r) : PostS K E H M D r := by
  cases r with
  | nx δ τ => exact fun H2 M2 s e2 => h H2 M2 s e2.toB
  | bk δ τ => exact fun H2 M2 s e2 => h H2 M2 s e2.toB
  | ct δ τ => exact fun H2 M2 s e2 => h H2 M2 s e2.toB
  | rt d τ => exact fun H2 M2 s e2 => h H2 M2 s e2.toB
  | exn C fs τ => exact fun H2 M2 d fvs e2 => h H2 M2 d fvs e2.toB
  | bad => exact h
theorem PostB.ext (h : PostB m0 K E H M D r) (e : Ext H M H' M') : PostB m0 K E H' M' D r := by
  cases r with
  | nx δ τ => exact fun H2 M2 s e2 => h H2 M2 s (e.transB e2)
  | bk δ τ => exact fun H2 M2 s e2 => h H2 M2 s (e.transB e2)
  | ct δ τ => exact fun H2 M2 s e2 => h H2 M2 s (e.transB e2)
  | rt d τ => exact fun H2 M2 s e2 => h H2 M2 s (e.transB e2)
  | exn C fs τ => exact fun H2 M2 d fvs e2 => h H2 M2 d fvs (e.transB e2)
  | bad => exact h
theorem PostB.up (h : PostB m0 K E H M D r) (hk : m0 ≤ k) : PostB m0 K E H (M.take k) D r := by
  cases r with
  | nx δ τ => exact fun H2 M2 s e2 => h H2 M2 s (e2.up hk)
  | bk δ τ => exact fun H2 M2 s e2 => h H2 M2 s (e2.up hk)
  | ct δ τ => exact fun H2 M2 s e2 => h H2 M2 s (e2.up hk)
  | rt d τ => exact fun H2 M2 s e2 => h H2 M2 s (e2.up hk)
  | exn C fs τ => exact fun H2 M2 d fvs e2 => h H2 M2 d fvs (e2.up hk)
  | bad => exact h
theorem PostB.seq {g : DS} (h : PostB m0 K E H M D (r.seq g)) : PostS K E H M { D with nx := tB m0 K.k E g D } r := by
  cases r with
  | nx δ τ => exact fun H' M' σ' e n S => ⟨K.p, M', δ, τ, n, S, PostB.ext h e⟩
  | bk δ τ => exact PostB.toS h
  | ct δ τ => exact PostB.toS h
  | rt d τ => exact PostB.toS h
  | exn C fs τ => exact PostB.toS h
  | bad => exact h
end
/-- the cells before k hold nothing of the others -/
def FlatTo (k : Nat) (τ : List D) : Prop := ∀ j d, j < k → τ[j]? = some d → frzD (cel0 k) d = some d
noncomputable def sealE (k : Nat) (τ : List D) (δ : DEnv) : DEnv := δ.map fun o => o.bind (frzD (celF k τ 6))
open Classical in
noncomputable def dSealAt (m0 i : Nat) (t : DS) : DS := fun δ τ => match δ[i]? with
  | some (some (.cell k)) => if m0 ≤ k ∧ k ≤ τ.length ∧ FlatTo k τ then t (sealE k τ δ) (τ.take k) else .bad
  | _ => .bad
section
variable {X : Cx} {E : XK} {st : Stmt} {rest : List Stmt} {s t : DS} {m0 : Nat}
theorem dssB_cons (h1 : PS X st (tS X.K E s)) (h2 : PSs X rest (tB m0 X.K E t)) : PSs X (st :: rest) (tB m0 X.K E (dSeq s t)) :=
  (pss_cons h1 h2).imp fun Z σ H ⟨P, M, δ, τ, n, S, p⟩ => ⟨P, M, δ, τ, n, S, PostB.seq p⟩
theorem dssB_of (h : PSs X rest (tS X.K E t)) : PSs X rest (tB m0 X.K E t) := h.imp fun Z σ H ⟨P, M, δ, τ, n, S, p⟩ => ⟨P, M, δ, τ, n, S, p.toS⟩
theorem dssB_seal (i : Nat) (h : PSs X rest (tB m0 X.K E t)) : PSs X rest (tB m0 X.K E (dSealAt m0 i t)) := h.imp fun Z σ H ⟨P, M, δ, τ, n, S, p⟩ => by
  unfold dSealAt at p
  split at p
  case h_2 => exact p.elim
  rename_i k hk
  split at p
  case isFalse => exact p.elim
  rename_i hc
  obtain ⟨h0, h1, hf⟩ := hc
  have el : (M.take k).length = k := by rw [List.length_take, S.len]; omega
  have S' : Sto ⟨X.K, P⟩ H (M.take k ++ M.drop k) τ := by rw [List.take_append_drop]; exact S
  have cf : ∀ (j : Nat) (a : Addr) (e : D), (M.take k ++ M.drop k)[j]? = some a → celF k τ 6 j = some e → Rep ⟨X.K, P⟩ H (M.take k) (.ref a) e := fun j a e h q => by
    refine celF_ok S' 6 j a e h ?_
    rw [el]; exact q
  refine ⟨P, M.take k, sealE k τ δ, τ.take k, ⟨by unfold sealE; rw [List.length_map]; exact n.len, fun j e he => ?_⟩, ⟨by rw [List.length_take, List.length_take, S.len], S.nd.sublist (List.take_sublist _ _), fun a ha => ⟨(S.prot a ha).1, fun z => (S.prot a ha).2 (List.mem_of_mem_take z)⟩, fun j a d h1' h2' => ?_⟩, p.up h0⟩
  · unfold sealE at he
    rw [List.getElem?_map] at he
    cases hd : δ[j]? with
    | none => rw [hd] at he; cases he
    | some o =>
      cases o with
      | none => rw [hd] at he; cases he
      | some d =>
        rw [hd] at he
        have he : frzD (celF k τ 6) d = some e := by simpa using he
        obtain ⟨v, hv, r⟩ := n.at_ j d hd
        refine ⟨v, hv, ?_⟩
        have r' : Rep ⟨X.K, P⟩ H (M.take k ++ M.drop k) v d := by rw [List.take_append_drop]; exact r
        exact r'.frz cf e he
  · have hj : j < k := by rw [← el]; exact (List.getElem?_eq_some_iff.mp h1').1
    rw [List.getElem?_take_of_lt hj] at h1' h2'
    have c : Cel ⟨X.K, P⟩ H (M.take k ++ M.drop k) a d := by rw [List.take_append_drop]; exact S.at_ j a d h1' h2'
    exact c.frz (by rw [el]; exact hf j d hj h2')
end
/-- a def whose cells are sealed on the way -/
def dDefM (n : Nat) (b : Nat → DS) : Pr := fun ds τ => dDef n (b τ.length) ds τ
theorem dDefB_of {K : KP} {E : XK} {H : Hp} {M : List Addr} {N : List Str} {τ : List D} {ds : List D} {body : DS} {Q : VK} (p : Post K E H M (dDef N.length body ds τ) fun H' M' _ d => ∀ v, Rep K H' M' v d → Q v H') :
    PostB M.length K E H M { nx := fun _ H' => Q .non H', rt := Q } (body (ds.map some ++ List.replicate (N.length - ds.length) none) τ) := by
  unfold dDef at p
  revert p
  cases body (ds.map some ++ List.replicate (N.length - ds.length) none) τ with
  | nx δ τ' => exact fun p H' M' σ' e n S => p H' M' (e.toExt S.nd) S _ .non
  | rt d τ' => exact fun p H' M' v e S r => p H' M' (e.toExt S.nd) S v r
  | exn C fs τ' => exact fun p H' M' d fvs e S => p H' M' d fvs (e.toExt S.nd) S
  | bk δ τ' => exact fun p => p.elim
  | ct δ τ' => exact fun p => p.elim
  | bad => exact fun p => p.elim
section
variable {P : Program} {w : World} {K : PySem.W.Frag} {mg : Str → Option Value} {base : Heap}
theorem fnDDX {x qual : Str} {st : Stmt} {f : Addr} {fd : FuncData} {N ps : List Str} {k : Nat} {body : Nat → DS} {dvs : List V} (F : FD K x qual st dvs f fd) (S : FnScope N ps (defScope st))
    (hb : ∀ (m0 : Nat) (cdv : Value) (A : Around) (outer : List Env) (s : Shared) (H : Hp) (E : XK), Room k (A.deeper (PyProof.Rows.envOfC qual (defScope st) s.heap.objs.size f cdv)) → GA (A.deeper (PyProof.Rows.envOfC qual (defScope st) s.heap.objs.size f cdv)) → PSs (cxOf CX0 P w K mg base N qual (defScope st) f cdv A outer s H E).nox (defBody st) (tB m0 K E (body m0))) :
    FnG P w K mg base CX0 (k + 1) f fd ps (spD K ps.length (exitP (dDefM N.length body))) := by
  obtain ⟨oc, od, dV, kV, doc, pm, an, cdv, ct, osl, rfl, lk, hcd, _, _⟩ := F.ex
  refine fnG_of lk hcd S (fun vs H Q E h => h.1) fun A outer s H vs Q E hr ga h => ?_
  obtain ⟨hl, P', M, τ, ds, S', r, p⟩ := h
  have p2 := Post.exit S' p
  have p3 := dDefB_of (N := N) (body := body τ.length) p2
  refine ⟨_, (hb M.length cdv A outer s H E hr (ga.deeper _)).nox, P', M, _, τ, start_env r N, S', ?_⟩
  rw [S'.len]
  rw [S'.len] at p3
  exact p3
end
/-! the rule -/
section
variable {δ : DEnv} {τ : List D} {O : Out}
theorem w_seal {m0 i k : Nat} {t : DS} {δ' : DEnv} (h : δ[i]? = some (some (.cell k))) (h0 : m0 ≤ k) (h1 : k ≤ τ.length) (hf : FlatTo k τ) (he : sealE k τ δ = δ') (K : WS (t δ' (τ.take k)) O) : WS (dSealAt m0 i t δ τ) O := by
  unfold dSealAt
  rw [h]
  simp only
  rw [if_pos ⟨h0, h1, hf⟩, he]
  exact K
theorem w_defM {n : Nat} {b : Nat → DS} {ds : List D} {Φ : D → List D → Prop} : WR (dDefM n b ds τ) Φ = WR (dDef n (b τ.length) ds τ) Φ := by
  with_unfolding_all rfl
end
end DL

namespace DL
open PySem L2
noncomputable def b_is_int : DS := (dRet (dAndV (dP pIsI [(dVar 0), (dC (.raw (.ty "int")))]) (dP pNot [(dP pIsI [(dVar 0), (dC (.raw (.ty "bool")))])])))
noncomputable def m_is_int : Pr := dDef 1 (b_is_int)
noncomputable def b_is_int_in : DS := (dRet (dAndV (dCall (m_is_int) [] [(dVar 0)]) (dChain pLe pLe (dVar 1) (dVar 0) (dVar 2))))
noncomputable def m_is_int_in : Pr := dDef 3 (b_is_int_in)
noncomputable def b_is_service : DS := (dSeq (dIfS (dOr (dNot (dB (dP pIsI [(dVar 0), (dC (.raw (.ty "tuple")))]))) (dB (dP (pEq true) [(dP pLen [(dVar 0)]), (dC (.int 2))]))) (dRet (dC (.bl false))) dNext)
    (dRet (dP pAll [(dLC [1] (dItems (dVar 0)) (dgName 1) dYes (dCall (m_is_int_in) [] [(dVar 1), (dP pNeg [(dC (.int 1000000000000000000000000000000))]), (dC (.int 1000000000000000000000000000000))]))])))
noncomputable def m_is_service : Pr := dDef 2 (b_is_service)
noncomputable def b_are_services : DS := (dSeq (dIfS (dOr (dNot (dB (dP pIsI [(dVar 0), (dTup [(dC (.raw (.ty "list"))), (dC (.raw (.ty "tuple")))])]))) (dNot (dB (dChain pLe pLe (dVar 2) (dP pLen [(dVar 0)]) (dVar 1))))) (dRet (dC (.bl false))) dNext)
    (dRet (dP pAll [(dLC [3] (dItems (dVar 0)) (dgName 3) dYes (dCall (m_is_service) [] [(dVar 3)]))])))
noncomputable def m_are_services : Pr := dDef 4 (b_are_services)
noncomputable def b_in_first_period : DS := (dSeq (dAsg (dVar 0) (dgTup [(dgName 2), (dgName 3)]))
    (dRet (dTup [(dP pMod [(dVar 2), (dVar 1)]), (dP pSub [(dVar 3), (dP (pMul false) [(dP pFdiv [(dVar 2), (dVar 1)]), (dVar 1)])])])))
noncomputable def m_in_first_period : Pr := dDef 4 (b_in_first_period)
noncomputable def b_needed_steps : DS := (dSeq (dAsg dDicC (dgName 2))
    (dSeq (dFor (dItems (dVar 1)) (dgName 3) (dSeq (dAsg (dCall (m_in_first_period) [] [(dVar 3), (dVar 0)]) (dgTup [(dgName 4), (dgName 5)]))
    (dAsg (dP pMin [(dGet2 (dVar 2) (dVar 4) (dVar 5)), (dVar 5)]) (dgSub pSet (dVar 2) (dVar 4)))))
    (dSeq (dAsg (dSortIt (dVar 2)) (dgName 6))
    (dSeq (dPar [7, 8] [(dP (pAdd false) [(dP pIx [(dP pIx [(dVar 6), (dC (.int 0))]), (dC (.int 1))]), (dVar 0)]), (dLstC [])])
    (dSeq (dFor (dItems (dRev false (dVar 6))) (dgTup [(dgName 4), (dgName 5)]) (dIfS (dB (dP pLt [(dVar 5), (dVar 7)])) (dSeq (dDrop (dBM "list" pAppend (dVar 8) [(dTup [(dVar 4), (dVar 5)])]))
    (dAsg (dVar 5) (dgName 7))) dNext))
    (dSeq (dWhile (fun _ _ => FUEL) (dB (dP pGe [(dP pIx [(dP pIx [(dVar 8), (dC (.int 0))]), (dC (.int 1))]), (dP (pAdd false) [(dP pIx [(dP pIx [(dVar 8), (dP pNeg [(dC (.int 1))])]), (dC (.int 1))]), (dVar 0)])])) (dDrop (dBM "list" pPop (dVar 8) [(dC (.int 0))])))
    (dRet (dRev false (dVar 8)))))))))
noncomputable def m_needed_steps : Pr := exitP (dDef 9 (b_needed_steps))
noncomputable def b_StepMap_init (c_StepMap : Addr) : DS := (dSeq (dIfS (dNot (dB (dCall (m_is_int_in) [] [(dVar 1), (dC (.int 1)), (dC (.int 1000000000000000000))]))) dBad dNext)
    (dSeq (dIfS (dNot (dB (dCall (m_are_services) [] [(dVar 2), (dC (.int 200)), (dC (.int 1))]))) dBad dNext)
    (dSeq (dSetFld c_StepMap "length" (dVar 0) (dVar 1))
    (dSetFld c_StepMap "rows" (dVar 0) (dCall (m_needed_steps) [] [(dVar 1), (dVar 2)])))))
noncomputable def m_StepMap_init (c_StepMap : Addr) : Pr := dDef 3 (b_StepMap_init c_StepMap)
noncomputable def b__law_pen : DS := (dRet (dDispC [((dC (.str "cells")), (dP (pList false) [(dSl false (dVar 0) dNoPart (dPart (dC (.int 63))))])), ((dC (.str "turn")), (dC (.int 0))), ((dC (.str "left")), (dC (.int 0)))]))
noncomputable def m__law_pen : Pr := dDef 1 (b__law_pen)
noncomputable def b__law_draw : DS := (dSeq (dIfS (dB (dP pGt [(dP pIx [(dVar 0), (dC (.str "left"))]), (dC (.int 0))])) (dSeq (dAsg (dP pMod [(dP pIx [(dVar 0), (dC (.str "left"))]), (dVar 1)]) (dgName 2))
    (dSeq (dAsg (dP pFdiv [(dP pIx [(dVar 0), (dC (.str "left"))]), (dVar 1)]) (dgSub pSet (dVar 0) (dC (.str "left"))))
    (dRet (dVar 2)))) dNext)
    (dSeq (dAsg (dP pIx [(dVar 0), (dC (.str "turn"))]) (dgName 3))
    (dSeq (dAsg (dP (pAdd false) [(dVar 3), (dC (.int 1))]) (dgSub pSet (dVar 0) (dC (.str "turn"))))
    (dSeq (dAsg (dP (pAdd false) [(dP (pMul false) [(dC (.int 41)), (dVar 3)]), (dC (.int 17))]) (dgName 4))
    (dSeq (dIfS (dB (dP (pEq true) [(dP pIx [(dVar 0), (dC (.str "cells"))]), (dLst [])])) (dAsg (dP pIx [(dP pIx [(dVar 0), (dC (.str "cells"))]), (dP pMod [(dVar 3), (dP pLen [(dP pIx [(dVar 0), (dC (.str "cells"))])])])]) (dgName 4)) dNext)
    (dSeq (dIfS (dAnd (dB (dP pLt [(dVar 3), (dP pLen [(dP pIx [(dVar 0), (dC (.str "cells"))])])])) (dB (dP pGe [(dP pAbs [(dVar 4)]), (dP pPow [(dC (.int 10)), (dC (.int 18))])]))) (dSeq (dAsg (dP pFdiv [(dP pSub [(dP pAbs [(dVar 4)]), (dP pPow [(dC (.int 10)), (dC (.int 18))])]), (dVar 1)]) (dgSub pSet (dVar 0) (dC (.str "left"))))
    (dRet (dP pMod [(dP pSub [(dP pAbs [(dVar 4)]), (dP pPow [(dC (.int 10)), (dC (.int 18))])]), (dVar 1)]))) dNext)
    (dSeq (dAsg (dLst [(dC (.int 2147483647)), (dC (.int 2147483629)), (dC (.int 2147483587)), (dC (.int 2147483579)), (dC (.int 2147483563))]) (dgName 5))
    (dSeq (dAsg (dP pIx [(dVar 5), (dP pMod [(dVar 3), (dC (.int 5))])]) (dgName 6))
    (dSeq (dAsg (dP pMod [(dP (pAdd false) [(dP (pAdd false) [(dP (pMul false) [(dP pMod [(dVar 4), (dVar 6)]), (dC (.int 48271))]), (dP (pMul false) [(dP (pMul false) [(dC (.int 40692)), (dVar 3)]), (dVar 3)])]), (dC (.int 31))]), (dVar 6)]) (dgName 7))
    (dSeq (dAsg (dP pMod [(dP (pMul false) [(dVar 7), (dP (pAdd false) [(dVar 7), (dC (.int 69621))])]), (dP pIx [(dVar 5), (dP pMod [(dP (pAdd false) [(dVar 3), (dC (.int 3))]), (dC (.int 5))])])]) (dgName 7))
    (dRet (dP pMod [(dP pFdiv [(dP pMod [(dP (pMul false) [(dVar 7), (dVar 7)]), (dC (.int 2147483549))]), (dC (.int 64))]), (dVar 1)]))))))))))))
noncomputable def m__law_draw : Pr := dDef 8 (b__law_draw)
noncomputable def b__law_pick : DS := (dRet (dP pIx [(dVar 1), (dCall (m__law_draw) [] [(dVar 0), (dP pLen [(dVar 1)])])]))
noncomputable def m__law_pick : Pr := dDef 2 (b__law_pick)
noncomputable def b__law_small_services : DS := (dSeq (dAsg (dLstC []) (dgName 3))
    (dSeq (dFor (dRange1 (dP (pAdd false) [(dC (.int 1)), (dCall (m__law_draw) [] [(dVar 0), (dVar 2)])])) (dgName 4) (dSeq (dAsg (dP pSub [(dCall (m__law_draw) [] [(dVar 0), (dP (pMul false) [(dC (.int 3)), (dVar 1)])]), (dVar 1)]) (dgName 5))
    (dDrop (dBM "list" pAppend (dVar 3) [(dTup [(dVar 5), (dP pSub [(dP (pAdd false) [(dVar 5), (dCall (m__law_draw) [] [(dVar 0), (dP (pAdd false) [(dP (pMul false) [(dC (.int 2)), (dVar 1)]), (dC (.int 1))])])]), (dCall (m__law_pick) [] [(dVar 0), (dLst [(dC (.int 0)), (dC (.int 0)), (dVar 1), (dP (pMul false) [(dC (.int 2)), (dVar 1)])])])])])]))))
    (dRet (dVar 3))))
noncomputable def m__law_small_services : Pr := exitP (dDef 6 (b__law_small_services))
noncomputable def b__law_small : DS := (dSeq (dAsg (dP (pAdd false) [(dC (.int 1)), (dCall (m__law_pick) [] [(dVar 0), (dLst [(dCall (m__law_draw) [] [(dVar 0), (dC (.int 6))]), (dCall (m__law_draw) [] [(dVar 0), (dC (.int 30))]), (dCall (m__law_draw) [] [(dVar 0), (dC (.int 100))])])])]) (dgName 1))
    (dRet (dTup [(dVar 1), (dCall (m__law_small_services) [] [(dVar 0), (dVar 1), (dCall (m__law_pick) [] [(dVar 0), (dLst [(dC (.int 1)), (dC (.int 4)), (dC (.int 12))])])])])))
noncomputable def m__law_small : Pr := dDef 2 (b__law_small)
noncomputable def b__law_great : DS := (dSeq (dAsg (dC (.int 0)) (dgName 2))
    (dSeq (dFor (dRange1 (dVar 1)) (dgName 3) (dAsg (dP (pAdd false) [(dP (pMul false) [(dC (.int 10)), (dVar 2)]), (dCall (m__law_draw) [] [(dVar 0), (dC (.int 10))])]) (dgName 2)))
    (dRet (dVar 2))))
noncomputable def m__law_great : Pr := dDef 4 (b__law_great)
noncomputable def b__law_close_services : DS := (dSeq (dPar [3, 4] [(dLstC []), (dP (pAdd false) [(dC (.int 1)), (dCall (m__law_draw) [] [(dVar 0), (dVar 2)])])])
    (dSeq (dFor (dRange1 (dVar 4)) (dgName 5) (dSeq (dAsg (dP pSub [(dP (pAdd false) [(dP pFdiv [(dP (pMul false) [(dVar 1), (dVar 5)]), (dVar 4)]), (dCall (m__law_draw) [] [(dVar 0), (dC (.int 3))])]), (dC (.int 1))]) (dgName 6))
    (dSeq (dAsg (dP (pAdd false) [(dP pFdiv [(dP (pMul false) [(dVar 1), (dCall (m__law_draw) [] [(dVar 0), (dVar 4)])]), (dVar 4)]), (dCall (m__law_draw) [] [(dVar 0), (dC (.int 3))])]) (dgName 7))
    (dDrop (dBM "list" pAppend (dVar 3) [(dTup [(dVar 6), (dP (pAdd false) [(dVar 6), (dVar 7)])])])))))
    (dRet (dVar 3))))
noncomputable def m__law_close_services : Pr := exitP (dDef 8 (b__law_close_services))
noncomputable def b__law_great_map : DS := (dSeq (dAsg (dP pMin [(dP pPow [(dC (.int 10)), (dC (.int 18))]), (dP (pAdd false) [(dC (.int 1)), (dCall (m__law_great) [] [(dVar 0), (dCall (m__law_pick) [] [(dVar 0), (dLst [(dC (.int 3)), (dC (.int 9)), (dC (.int 18))])])])])]) (dgName 1))
    (dSeq (dIfS (dB (dP (pEq false) [(dCall (m__law_draw) [] [(dVar 0), (dC (.int 2))]), (dC (.int 0))])) (dRet (dTup [(dVar 1), (dCall (m__law_close_services) [] [(dVar 0), (dVar 1), (dC (.int 12))])])) dNext)
    (dSeq (dAsg (dLstC []) (dgName 2))
    (dSeq (dFor (dRange1 (dP (pAdd false) [(dC (.int 1)), (dCall (m__law_draw) [] [(dVar 0), (dC (.int 10))])])) (dgName 3) (dSeq (dAsg (dP (pMul false) [(dCall (m__law_great) [] [(dVar 0), (dC (.int 20))]), (dCall (m__law_pick) [] [(dVar 0), (dLst [(dC (.int 1)), (dP pNeg [(dC (.int 1))])])])]) (dgName 4))
    (dDrop (dBM "list" pAppend (dVar 2) [(dTup [(dVar 4), (dP (pAdd false) [(dVar 4), (dP (pMul false) [(dCall (m__law_great) [] [(dVar 0), (dCall (m__law_pick) [] [(dVar 0), (dLst [(dC (.int 4)), (dC (.int 18)), (dC (.int 20))])])]), (dCall (m__law_pick) [] [(dVar 0), (dLst [(dC (.int 1)), (dC (.int 1)), (dC (.int 1)), (dP pNeg [(dC (.int 1))])])])])])])]))))
    (dRet (dTup [(dVar 1), (dVar 2)]))))))
noncomputable def m__law_great_map : Pr := exitP (dDef 5 (b__law_great_map))
noncomputable def b__law_value : DS := (dRet (dP pMin [(dLC [3, 4] (dItems (dVar 1)) (dgTup [(dgName 3), (dgName 4)]) dYes (dP (pAdd false) [(dVar 4), (dP (pMul false) [(dVar 0), (dP pSub [(dC (.int 0)), (dP pFdiv [(dP pSub [(dVar 3), (dVar 2)]), (dVar 0)])])])]))]))
noncomputable def m__law_value : Pr := dDef 5 (b__law_value)
noncomputable def b__law_shuffled : DS := (dSeq (dAsg (dP (pList true) [(dVar 1)]) (dgName 2))
    (dRet (dLC [3] (dRange1 (dP pLen [(dVar 2)])) (dgName 3) dYes (dBM "list" pPop (dVar 2) [(dCall (m__law_draw) [] [(dVar 0), (dP pLen [(dVar 2)])])]))))
noncomputable def m__law_shuffled : Pr := exitP (dDef 4 (b__law_shuffled))
noncomputable def b_StepMap_step_index (c_StepMap : Addr) : DS := (dSeq (dPar [2, 3, 4] [(dP pMod [(dVar 1), (dFld c_StepMap "length" (dVar 0))]), (dC (.int 0)), (dP pLen [(dFld c_StepMap "rows" (dVar 0))])])
    (dSeq (dWhile (fun _ _ => FUEL) (dB (dP pLt [(dVar 3), (dVar 4)])) (dSeq (dAsg (dP pFdiv [(dP (pAdd false) [(dVar 3), (dVar 4)]), (dC (.int 2))]) (dgName 5))
    (dIfS (dB (dP pLt [(dP pIx [(dP pIx [(dFld c_StepMap "rows" (dVar 0)), (dVar 5)]), (dC (.int 0))]), (dVar 2)])) (dAsg (dP (pAdd false) [(dVar 5), (dC (.int 1))]) (dgName 3)) (dAsg (dVar 5) (dgName 4)))))
    (dRet (dVar 3))))
noncomputable def m_StepMap_step_index (c_StepMap : Addr) : Pr := dDef 6 (b_StepMap_step_index c_StepMap)
noncomputable def b_StepMap_apply (c_StepMap : Addr) : DS := (dSeq (dPar [2, 3] [(dP pFdiv [(dVar 1), (dFld c_StepMap "length" (dVar 0))]), (dMeth c_StepMap "step_index" (m_StepMap_step_index c_StepMap) [] (dVar 0) [(dVar 1)])])
    (dSeq (dIfS (dB (dP (pEq false) [(dVar 3), (dP pLen [(dFld c_StepMap "rows" (dVar 0))])])) (dPar [2, 3] [(dP (pAdd false) [(dVar 2), (dC (.int 1))]), (dC (.int 0))]) dNext)
    (dRet (dP (pAdd false) [(dP pIx [(dP pIx [(dFld c_StepMap "rows" (dVar 0)), (dVar 3)]), (dC (.int 1))]), (dP (pMul false) [(dVar 2), (dFld c_StepMap "length" (dVar 0))])]))))
noncomputable def m_StepMap_apply (c_StepMap : Addr) : Pr := dDef 4 (b_StepMap_apply c_StepMap)
noncomputable def b_gcd : DS := (dSeq (dPar [0, 1] [(dP pAbs [(dVar 0)]), (dP pAbs [(dVar 1)])])
    (dSeq (dWhile (fun _ _ => FUEL) (dB (dP pGt [(dVar 1), (dC (.int 0))])) (dPar [0, 1] [(dVar 1), (dP pMod [(dVar 0), (dVar 1)])]))
    (dRet (dVar 0))))
noncomputable def m_gcd : Pr := dDef 2 (b_gcd)
noncomputable def b_reduced : DS := (dSeq (dAsg (dCall (m_gcd) [] [(dVar 0), (dVar 1)]) (dgName 2))
    (dRet (dTup [(dP pFdiv [(dVar 0), (dVar 2)]), (dP pFdiv [(dVar 1), (dVar 2)])])))
noncomputable def m_reduced : Pr := dDef 3 (b_reduced)
noncomputable def b__law_gcd : DS := (dSeq (dPar [0, 1] [(dP pAbs [(dVar 0)]), (dP pAbs [(dVar 1)])])
    (dSeq (dWhile (fun _ _ => FUEL) (dB (dP pGt [(dVar 1), (dC (.int 0))])) (dPar [0, 1] [(dVar 1), (dP pMod [(dVar 0), (dVar 1)])]))
    (dRet (dVar 0))))
noncomputable def m__law_gcd : Pr := dDef 2 (b__law_gcd)
noncomputable def b__law_fraction : DS := (dSeq (dAsg (dCall (m__law_gcd) [] [(dVar 0), (dVar 1)]) (dgName 2))
    (dRet (dTup [(dP pFdiv [(dVar 0), (dVar 2)]), (dP pFdiv [(dVar 1), (dVar 2)])])))
noncomputable def m__law_fraction : Pr := dDef 3 (b__law_fraction)
noncomputable def b__law_turn : DS := (dSeq (dPar [3, 4] [dDicC, (dLstC [])])
    (dSeq (dWhile (fun _ _ => FUEL) (dB (dP (pIn true) [(dP pMod [(dVar 2), (dVar 0)]), (dVar 3)])) (dSeq (dAsg (dP pLen [(dVar 4)]) (dgSub pSet (dVar 3) (dP pMod [(dVar 2), (dVar 0)])))
    (dSeq (dDrop (dBM "list" pAppend (dVar 4) [(dVar 2)]))
    (dAsg (dCall (m__law_value) [] [(dVar 0), (dVar 1), (dVar 2)]) (dgName 2)))))
    (dSeq (dAsg (dP pIx [(dVar 3), (dP pMod [(dVar 2), (dVar 0)])]) (dgName 5))
    (dRet (dTup [(dVar 5), (dP pFdiv [(dP pSub [(dVar 2), (dP pIx [(dVar 4), (dVar 5)])]), (dVar 0)]), (dP pSub [(dP pLen [(dVar 4)]), (dVar 5)])])))))
noncomputable def m__law_turn : Pr := exitP (dDef 6 (b__law_turn))
noncomputable def b_Track_init (c_StepMap : Addr) (c_Track : Addr) : DS := (dSeq (dSetFld c_Track "times" (dVar 0) (dLstC []))
    (dSeq (dAsg dDicC (dgName 3))
    (dSeq (dWhile (fun _ _ => FUEL) (dB (dP (pIn true) [(dP pMod [(dVar 2), (dFld c_StepMap "length" (dVar 1))]), (dVar 3)])) (dSeq (dAsg (dP pLen [(dFld c_Track "times" (dVar 0))]) (dgSub pSet (dVar 3) (dP pMod [(dVar 2), (dFld c_StepMap "length" (dVar 1))])))
    (dSeq (dDrop (dBM "list" pAppend (dFld c_Track "times" (dVar 0)) [(dVar 2)]))
    (dAsg (dMeth c_StepMap "apply" (m_StepMap_apply c_StepMap) [] (dVar 1) [(dVar 2)]) (dgName 2)))))
    (dSeq (dSetFld c_Track "start" (dVar 0) (dP pIx [(dVar 3), (dP pMod [(dVar 2), (dFld c_StepMap "length" (dVar 1))])]))
    (dSetFld c_Track "gain" (dVar 0) (dP pSub [(dVar 2), (dP pIx [(dFld c_Track "times" (dVar 0)), (dFld c_Track "start" (dVar 0))])]))))))
noncomputable def m_Track_init (c_StepMap : Addr) (c_Track : Addr) : Pr := dDef 4 (b_Track_init c_StepMap c_Track)
noncomputable def b__law_even_map : DS := (dSeq (dPar [2, 3] [(dP (pAdd false) [(dC (.int 1)), (dCall (m__law_draw) [] [(dVar 0), (dVar 1)])]), (dP (pAdd false) [(dC (.int 1)), (dCall (m__law_great) [] [(dVar 0), (dCall (m__law_pick) [] [(dVar 0), (dLst [(dC (.int 1)), (dC (.int 6)), (dC (.int 15))])])])])])
    (dSeq (dPar [4, 5] [(dCall (m__law_draw) [] [(dVar 0), (dC (.int 3))]), (dP pSub [(dCall (m__law_draw) [] [(dVar 0), (dP (pAdd false) [(dP (pMul false) [(dC (.int 4)), (dVar 2)]), (dC (.int 1))])]), (dP (pMul false) [(dC (.int 2)), (dVar 2)])])])
    (dSeq (dAsg (dLstC []) (dgName 6))
    (dSeq (dFor (dRange1 (dVar 2)) (dgName 7) (dSeq (dAsg (dCall (m__law_pick) [] [(dVar 0), (dLst [(dC (.int 0)), (dC (.int 0)), (dCall (m__law_draw) [] [(dVar 0), (dVar 3)]), (dP pSub [(dVar 3), (dC (.int 1))])])]) (dgName 8))
    (dDrop (dBM "list" pAppend (dVar 6) [(dTup [(dP (pAdd false) [(dVar 4), (dP (pMul false) [(dVar 7), (dVar 3)])]), (dP pSub [(dP (pAdd false) [(dVar 4), (dP (pMul false) [(dP (pAdd false) [(dVar 7), (dVar 5)]), (dVar 3)])]), (dVar 8)])])]))))
    (dRet (dTup [(dP (pMul false) [(dVar 2), (dVar 3)]), (dVar 6)]))))))
noncomputable def m__law_even_map : Pr := exitP (dDef 9 (b__law_even_map))
noncomputable def b__law_regular_map : DS := (dRet (dCall (m__law_even_map) [] [(dVar 0), (dCall (m__law_pick) [] [(dVar 0), (dLst [(dC (.int 4)), (dC (.int 12)), (dC (.int 40))])])]))
noncomputable def m__law_regular_map : Pr := dDef 1 (b__law_regular_map)
noncomputable def b__law_far_map : DS := (dSeq (dPar [1, 2] [(dP (pAdd false) [(dC (.int 1)), (dCall (m__law_draw) [] [(dVar 0), (dC (.int 9))])]), (dLstC [])])
    (dSeq (dFor (dRange1 (dP (pAdd false) [(dC (.int 1)), (dCall (m__law_draw) [] [(dVar 0), (dC (.int 4))])])) (dgName 3) (dDrop (dBM "list" pAppend (dVar 2) [(dP pTuple [(dLC [4] (dRange1 (dC (.int 2))) (dgName 4) dYes (dP (pMul false) [(dCall (m__law_great) [] [(dVar 0), (dC (.int 30))]), (dCall (m__law_pick) [] [(dVar 0), (dLst [(dC (.int 1)), (dP pNeg [(dC (.int 1))])])])]))])])))
    (dRet (dTup [(dVar 1), (dVar 2)]))))
noncomputable def m__law_far_map : Pr := exitP (dDef 5 (b__law_far_map))
noncomputable def b__law_wide_map : DS := (dSeq (dAsg (dP (pAdd false) [(dC (.int 1)), (dCall (m__law_great) [] [(dVar 0), (dCall (m__law_pick) [] [(dVar 0), (dLst [(dC (.int 3)), (dC (.int 17))])])])]) (dgName 1))
    (dRet (dTup [(dVar 1), (dCall (m__law_close_services) [] [(dVar 0), (dVar 1), (dC (.int 24))])])))
noncomputable def m__law_wide_map : Pr := dDef 2 (b__law_wide_map)
noncomputable def b_Track_turn (c_Track : Addr) : DS := (dRet (dSl false (dFld c_Track "times" (dVar 0)) (dPart (dFld c_Track "start" (dVar 0))) dNoPart))
noncomputable def m_Track_turn (c_Track : Addr) : Pr := dDef 1 (b_Track_turn c_Track)
noncomputable def b_rotation (c_StepMap : Addr) (c_Track : Addr) : DS := (dSeq (dAsg (dFrz (dMake c_Track (m_Track_init c_StepMap c_Track) [] [(dVar 0), (dC (.int 0))])) (dgName 1))
    (dRet (dCall (m_reduced) [] [(dP pFdiv [(dFld c_Track "gain" (dVar 1)), (dFld c_StepMap "length" (dVar 0))]), (dP pLen [(dMeth c_Track "turn" (m_Track_turn c_Track) [] (dVar 1) [])])])))
noncomputable def m_rotation (c_StepMap : Addr) (c_Track : Addr) : Pr := dDef 2 (b_rotation c_StepMap c_Track)
noncomputable def b__law_rotation : DS := (dSeq (dAsg (dCall (m__law_turn) [] [(dVar 0), (dVar 1), (dC (.int 0))]) (dgTup [(dgName 2), (dgName 3), (dgName 4)]))
    (dRet (dCall (m__law_fraction) [] [(dVar 3), (dVar 4)])))
noncomputable def m__law_rotation : Pr := dDef 5 (b__law_rotation)
noncomputable def b__law_moved : DS := (dSeq (dAsg (dLstC []) (dgName 3))
    (dSeq (dFor (dItems (dCall (m__law_shuffled) [] [(dVar 0), (dVar 2)])) (dgTup [(dgName 4), (dgName 5)]) (dSeq (dAsg (dP (pMul false) [(dVar 1), (dP pSub [(dCall (m__law_draw) [] [(dVar 0), (dC (.int 9))]), (dC (.int 4))])]) (dgName 6))
    (dSeq (dIfS (dB (dP pGt [(dP pMax [(dP pAbs [(dP (pAdd false) [(dVar 4), (dVar 6)])]), (dP pAbs [(dP (pAdd false) [(dVar 5), (dVar 6)])])]), (dP pPow [(dC (.int 10)), (dC (.int 30))])])) (dAsg (dC (.int 0)) (dgName 6)) dNext)
    (dDrop (dBM "list" pAppend (dVar 3) [(dTup [(dP (pAdd false) [(dVar 4), (dVar 6)]), (dP (pAdd false) [(dVar 5), (dVar 6)])])])))))
    (dRet (dVar 3))))
noncomputable def m__law_moved : Pr := exitP (dDef 7 (b__law_moved))
end DL

namespace DL
open PySem L2
end DL

namespace DL
open PySem L2
noncomputable def b__law_orbit_map_k25 (a__law_far_map : Addr) (a__law_great_map : Addr) (a__law_regular_map : Addr) (a__law_small : Addr) (a__law_wide_map : Addr) : DS := (dSeq (dAsg (dLst [(dC (.raw (.ref a__law_small))), (dC (.raw (.ref a__law_small))), (dC (.raw (.ref a__law_small))), (dC (.raw (.ref a__law_great_map))), (dC (.raw (.ref a__law_great_map))), (dC (.raw (.ref a__law_regular_map))), (dC (.raw (.ref a__law_regular_map)))]) (dgName 1))
    (dRet (dCallV [(a__law_wide_map, m__law_wide_map), (a__law_far_map, m__law_far_map), (a__law_small, m__law_small), (a__law_great_map, m__law_great_map), (a__law_regular_map, m__law_regular_map)] (dCall (m__law_pick) [] [(dVar 0), (dP (pAdd false) [(dVar 1), (dLst [(dC (.raw (.ref a__law_wide_map))), (dC (.raw (.ref a__law_far_map)))])])]) [(dVar 0)])))
noncomputable def m__law_orbit_map_k25 (a__law_far_map : Addr) (a__law_great_map : Addr) (a__law_regular_map : Addr) (a__law_small : Addr) (a__law_wide_map : Addr) : Pr := dDef 2 (b__law_orbit_map_k25 a__law_far_map a__law_great_map a__law_regular_map a__law_small a__law_wide_map)
end DL

namespace DL
open PySem L2

theorem draw_ok {B many : Int} {p : D} {r : List D} (hp : PenOk B p) (hB : B ≤ 10 ^ 12) (h1 : 1 ≤ many) (h2 : many ≤ 10 ^ 60) :
    WR (m__law_draw [.cell 0, .int many] (p :: r)) (IntIn 0 many (B + 1) r) := by
  obtain ⟨c, t, l, rfl, ht, htB, hl⟩ := hp
  have big : ∀ {x : Int}, x.natAbs < 10 ^ 120 → x.natAbs < BIG := big_of
  unfold m__law_draw b__law_draw
  rw [w_def]
  refine w_cut (fun δ τ => At δ τ [some (.cell 0), some (.int many), none, none, none, none, none, none] (penD c t l :: r)) ?_ ?_
  · try simp only [wr_ok, w_var, w_c, w_p, w_nil, w_cons, w_call, w_tup, w_lst, w_lstC, w_dicC, w_B, w_and, w_or, w_not, w_andV, w_orV, w_if, w_chain, w_fld, w_meth, w_make, w_bm, w_rev, w_sortIt, w_get2, w_callV,
  w_next, w_seq, w_drop, w_ret, w_retN, w_break, w_cont, w_ifS, w_asg, w_gname, w_gsub, w_gtup, w_gnil, w_gcons, w_par, w_setFld, w_while, w_for, w_items, w_range1, w_lc, w_def,
  der_int, der_bl, der_str, der_lst, der_frl, der_tup, der_dic, der_non, der_obj, der_raw, p_add, p_sub, p_mul, p_fdiv, p_mod, p_pow, p_neg, p_cmp, p_abs, p_min2, p_max2, p_eqI, p_notB, p_lenL, p_lenT, p_listL, newL_w, newLC_w, p_ixL, p_ixT,
  List.map_cons, List.map_nil, List.length_cons, List.length_nil, List.replicate_zero, List.replicate_succ, List.replicate, List.cons_append, List.nil_append, List.append_nil, List.getElem?_cons_zero, List.getElem?_cons_succ, List.set_cons_zero, List.set_cons_succ,
  List.zip_cons_cons, List.zip_nil_left, List.zip_nil_right, List.foldl_cons, List.foldl_nil, Nat.reduceAdd, Nat.reduceSub, Nat.zero_add, Nat.add_zero, Nat.reduceLeDiff, true_and, and_true, if_true, Bool.false_eq_true, if_false, ix_left, set_left]
    split
    · rename_i hz
      have hz : 0 < l := by simpa using hz
      exact ⟨by omega, ⟨by omega, bigd_of (by omega)⟩, ⟨_, _, rfl, rfl, ⟨c, t, _, rfl, ht, by omega, Int.ediv_nonneg hl (by omega)⟩, Int.emod_nonneg _ (by omega), Int.emod_lt_of_pos _ (by omega)⟩⟩
    · exact ⟨rfl, rfl⟩
  rintro δ τ ⟨rfl, rfl⟩
  refine w_cut (fun δ τ => At δ τ [some (.cell 0), some (.int many), none, some (.int t), none, none, none, none] (penD c t l :: r)) (by try simp only [wr_ok, w_var, w_c, w_p, w_nil, w_cons, w_call, w_tup, w_lst, w_lstC, w_dicC, w_B, w_and, w_or, w_not, w_andV, w_orV, w_if, w_chain, w_fld, w_meth, w_make, w_bm, w_rev, w_sortIt, w_get2, w_callV,
  w_next, w_seq, w_drop, w_ret, w_retN, w_break, w_cont, w_ifS, w_asg, w_gname, w_gsub, w_gtup, w_gnil, w_gcons, w_par, w_setFld, w_while, w_for, w_items, w_range1, w_lc, w_def,
  der_int, der_bl, der_str, der_lst, der_frl, der_tup, der_dic, der_non, der_obj, der_raw, p_add, p_sub, p_mul, p_fdiv, p_mod, p_pow, p_neg, p_cmp, p_abs, p_min2, p_max2, p_eqI, p_notB, p_lenL, p_lenT, p_listL, newL_w, newLC_w, p_ixL, p_ixT,
  List.map_cons, List.map_nil, List.length_cons, List.length_nil, List.replicate_zero, List.replicate_succ, List.replicate, List.cons_append, List.nil_append, List.append_nil, List.getElem?_cons_zero, List.getElem?_cons_succ, List.set_cons_zero, List.set_cons_succ,
  List.zip_cons_cons, List.zip_nil_left, List.zip_nil_right, List.foldl_cons, List.foldl_nil, Nat.reduceAdd, Nat.reduceSub, Nat.zero_add, Nat.add_zero, Nat.reduceLeDiff, true_and, and_true, if_true, Bool.false_eq_true, if_false, ix_turn]; exact ⟨rfl, rfl⟩) ?_
  rintro δ τ ⟨rfl, rfl⟩
  refine w_cut (fun δ τ => At δ τ [some (.cell 0), some (.int many), none, some (.int t), none, none, none, none] (penD c (t + 1) l :: r)) (by try simp only [wr_ok, w_var, w_c, w_p, w_nil, w_cons, w_call, w_tup, w_lst, w_lstC, w_dicC, w_B, w_and, w_or, w_not, w_andV, w_orV, w_if, w_chain, w_fld, w_meth, w_make, w_bm, w_rev, w_sortIt, w_get2, w_callV,
  w_next, w_seq, w_drop, w_ret, w_retN, w_break, w_cont, w_ifS, w_asg, w_gname, w_gsub, w_gtup, w_gnil, w_gcons, w_par, w_setFld, w_while, w_for, w_items, w_range1, w_lc, w_def,
  der_int, der_bl, der_str, der_lst, der_frl, der_tup, der_dic, der_non, der_obj, der_raw, p_add, p_sub, p_mul, p_fdiv, p_mod, p_pow, p_neg, p_cmp, p_abs, p_min2, p_max2, p_eqI, p_notB, p_lenL, p_lenT, p_listL, newL_w, newLC_w, p_ixL, p_ixT,
  List.map_cons, List.map_nil, List.length_cons, List.length_nil, List.replicate_zero, List.replicate_succ, List.replicate, List.cons_append, List.nil_append, List.append_nil, List.getElem?_cons_zero, List.getElem?_cons_succ, List.set_cons_zero, List.set_cons_succ,
  List.zip_cons_cons, List.zip_nil_left, List.zip_nil_right, List.foldl_cons, List.foldl_nil, Nat.reduceAdd, Nat.reduceSub, Nat.zero_add, Nat.add_zero, Nat.reduceLeDiff, true_and, and_true, if_true, Bool.false_eq_true, if_false, set_turn]; exact ⟨rfl, rfl⟩) ?_
  rintro δ τ ⟨rfl, rfl⟩
  refine w_cut (fun δ τ => ∃ x : Int, At δ τ [some (.cell 0), some (.int many), none, some (.int t), some (.int x), none, none, none] (penD c (t + 1) l :: r)) (by try simp only [wr_ok, w_var, w_c, w_p, w_nil, w_cons, w_call, w_tup, w_lst, w_lstC, w_dicC, w_B, w_and, w_or, w_not, w_andV, w_orV, w_if, w_chain, w_fld, w_meth, w_make, w_bm, w_rev, w_sortIt, w_get2, w_callV,
  w_next, w_seq, w_drop, w_ret, w_retN, w_break, w_cont, w_ifS, w_asg, w_gname, w_gsub, w_gtup, w_gnil, w_gcons, w_par, w_setFld, w_while, w_for, w_items, w_range1, w_lc, w_def,
  der_int, der_bl, der_str, der_lst, der_frl, der_tup, der_dic, der_non, der_obj, der_raw, p_add, p_sub, p_mul, p_fdiv, p_mod, p_pow, p_neg, p_cmp, p_abs, p_min2, p_max2, p_eqI, p_notB, p_lenL, p_lenT, p_listL, newL_w, newLC_w, p_ixL, p_ixT,
  List.map_cons, List.map_nil, List.length_cons, List.length_nil, List.replicate_zero, List.replicate_succ, List.replicate, List.cons_append, List.nil_append, List.append_nil, List.getElem?_cons_zero, List.getElem?_cons_succ, List.set_cons_zero, List.set_cons_succ,
  List.zip_cons_cons, List.zip_nil_left, List.zip_nil_right, List.foldl_cons, List.foldl_nil, Nat.reduceAdd, Nat.reduceSub, Nat.zero_add, Nat.add_zero, Nat.reduceLeDiff, true_and, and_true, if_true, Bool.false_eq_true, if_false]; exact ⟨⟨big (by decide), big (by omega)⟩, _, rfl, rfl⟩) ?_
  rintro δ τ ⟨x0, rfl, rfl⟩
  refine w_cut (fun δ τ => ∃ x : Int, At δ τ [some (.cell 0), some (.int many), none, some (.int t), some (.int x), none, none, none] (penD c (t + 1) l :: r)) ?_ ?_
  · try simp only [wr_ok, w_var, w_c, w_p, w_nil, w_cons, w_call, w_tup, w_lst, w_lstC, w_dicC, w_B, w_and, w_or, w_not, w_andV, w_orV, w_if, w_chain, w_fld, w_meth, w_make, w_bm, w_rev, w_sortIt, w_get2, w_callV,
  w_next, w_seq, w_drop, w_ret, w_retN, w_break, w_cont, w_ifS, w_asg, w_gname, w_gsub, w_gtup, w_gnil, w_gcons, w_par, w_setFld, w_while, w_for, w_items, w_range1, w_lc, w_def,
  der_int, der_bl, der_str, der_lst, der_frl, der_tup, der_dic, der_non, der_obj, der_raw, p_add, p_sub, p_mul, p_fdiv, p_mod, p_pow, p_neg, p_cmp, p_abs, p_min2, p_max2, p_eqI, p_notB, p_lenL, p_lenT, p_listL, newL_w, newLC_w, p_ixL, p_ixT,
  List.map_cons, List.map_nil, List.length_cons, List.length_nil, List.replicate_zero, List.replicate_succ, List.replicate, List.cons_append, List.nil_append, List.append_nil, List.getElem?_cons_zero, List.getElem?_cons_succ, List.set_cons_zero, List.set_cons_succ,
  List.zip_cons_cons, List.zip_nil_left, List.zip_nil_right, List.foldl_cons, List.foldl_nil, Nat.reduceAdd, Nat.reduceSub, Nat.zero_add, Nat.add_zero, Nat.reduceLeDiff, true_and, and_true, if_true, Bool.false_eq_true, if_false, ix_cells, p_neNil]
    split
    · rename_i hz
      have hz : c ≠ [] := by simpa using hz
      have hl : 0 < c.length := List.length_pos_iff.mpr hz
      have h1 : 0 ≤ t % ((c.map D.int).length : Int) := Int.emod_nonneg _ (by simp; omega)
      have h2 : t % ((c.map D.int).length : Int) < ((c.map D.int).length : Int) := Int.emod_lt_of_pos _ (by simp; omega)
      refine ⟨by simp; omega, ?_⟩
      obtain ⟨d, e1, e2⟩ := atI_nat h1 h2
      rw [e1]
      rw [List.getElem?_map] at e2
      cases q : c[(t % ((c.map D.int).length : Int)).toNat]? with
      | none => rw [q] at e2; cases e2
      | some y => rw [q] at e2; cases e2; exact ⟨y, rfl, rfl⟩
    · exact ⟨x0, rfl, rfl⟩
  rintro δ τ ⟨x, rfl, rfl⟩
  refine w_cut (fun δ τ => At δ τ [some (.cell 0), some (.int many), none, some (.int t), some (.int x), none, none, none] (penD c (t + 1) l :: r)) ?_ ?_
  · have hx : (0 : Int) ≤ 10 ^ Int.toNat 18 := by decide
    try simp only [wr_ok, w_var, w_c, w_p, w_nil, w_cons, w_call, w_tup, w_lst, w_lstC, w_dicC, w_B, w_and, w_or, w_not, w_andV, w_orV, w_if, w_chain, w_fld, w_meth, w_make, w_bm, w_rev, w_sortIt, w_get2, w_callV,
  w_next, w_seq, w_drop, w_ret, w_retN, w_break, w_cont, w_ifS, w_asg, w_gname, w_gsub, w_gtup, w_gnil, w_gcons, w_par, w_setFld, w_while, w_for, w_items, w_range1, w_lc, w_def,
  der_int, der_bl, der_str, der_lst, der_frl, der_tup, der_dic, der_non, der_obj, der_raw, p_add, p_sub, p_mul, p_fdiv, p_mod, p_pow, p_neg, p_cmp, p_abs, p_min2, p_max2, p_eqI, p_notB, p_lenL, p_lenT, p_listL, newL_w, newLC_w, p_ixL, p_ixT,
  List.map_cons, List.map_nil, List.length_cons, List.length_nil, List.replicate_zero, List.replicate_succ, List.replicate, List.cons_append, List.nil_append, List.append_nil, List.getElem?_cons_zero, List.getElem?_cons_succ, List.set_cons_zero, List.set_cons_succ,
  List.zip_cons_cons, List.zip_nil_left, List.zip_nil_right, List.foldl_cons, List.foldl_nil, Nat.reduceAdd, Nat.reduceSub, Nat.zero_add, Nat.add_zero, Nat.reduceLeDiff, true_and, and_true, if_true, Bool.false_eq_true, if_false, ix_cells, set_left]
    generalize (if x < 0 then -x else x) = y
    generalize (10 : Int) ^ Int.toNat 18 = e at hx
    split
    · refine ⟨by decide, ?_⟩
      split
      · rename_i hz
        have hz : e ≤ y := by simpa using hz
        exact ⟨by decide, ⟨by omega, bigd_of (by omega)⟩, by decide, by omega, ⟨_, _, rfl, rfl, ⟨c, t + 1, _, rfl, by omega, by omega, Int.ediv_nonneg (by omega) (by omega)⟩, Int.emod_nonneg _ (by omega), Int.emod_lt_of_pos _ (by omega)⟩⟩
      · exact ⟨rfl, rfl⟩
    · exact ⟨rfl, rfl⟩
  rintro δ τ ⟨rfl, rfl⟩
  have pr : ∀ k : Int, ∃ q : Int, atI [D.int 2147483647, D.int 2147483629, D.int 2147483587, D.int 2147483579, D.int 2147483563] (k % 5) = some (.int q) ∧ 0 < q ∧ q < 10 ^ 10 := fun k => by
    have a1 := Int.emod_nonneg k (show (5 : Int) ≠ 0 by decide)
    have a2 := Int.emod_lt_of_pos k (show (0 : Int) < 5 by decide)
    generalize k % 5 = z at a1 a2
    have : z = 0 ∨ z = 1 ∨ z = 2 ∨ z = 3 ∨ z = 4 := by omega
    rcases this with rfl | rfl | rfl | rfl | rfl <;> exact ⟨_, rfl, by decide, by decide⟩
  obtain ⟨q1, e1, a1, a2⟩ := pr t
  obtain ⟨q2, e2, b1, b2⟩ := pr (t + 3)
  have bt : t.natAbs < BIG := big (by omega)
  have bm : ∀ {k q : Int}, 0 < q → q < 10 ^ 10 → (k % q).natAbs < BIG := fun {k q} h1 h2 => by
    have := Int.emod_nonneg k (show q ≠ 0 by omega)
    have := Int.emod_lt_of_pos k h1
    exact big (by omega)
  have bm2 : ∀ {k q : Int}, 0 < q → q < 10 ^ 10 → (k % q + 69621).natAbs < BIG := fun {k q} h1 h2 => by
    have := Int.emod_nonneg k (show q ≠ 0 by omega)
    have := Int.emod_lt_of_pos k h1
    exact big (by omega)
  try simp only [wr_ok, w_var, w_c, w_p, w_nil, w_cons, w_call, w_tup, w_lst, w_lstC, w_dicC, w_B, w_and, w_or, w_not, w_andV, w_orV, w_if, w_chain, w_fld, w_meth, w_make, w_bm, w_rev, w_sortIt, w_get2, w_callV,
  w_next, w_seq, w_drop, w_ret, w_retN, w_break, w_cont, w_ifS, w_asg, w_gname, w_gsub, w_gtup, w_gnil, w_gcons, w_par, w_setFld, w_while, w_for, w_items, w_range1, w_lc, w_def,
  der_int, der_bl, der_str, der_lst, der_frl, der_tup, der_dic, der_non, der_obj, der_raw, p_add, p_sub, p_mul, p_fdiv, p_mod, p_pow, p_neg, p_cmp, p_abs, p_min2, p_max2, p_eqI, p_notB, p_lenL, p_lenT, p_listL, newL_w, newLC_w, p_ixL, p_ixT,
  List.map_cons, List.map_nil, List.length_cons, List.length_nil, List.replicate_zero, List.replicate_succ, List.replicate, List.cons_append, List.nil_append, List.append_nil, List.getElem?_cons_zero, List.getElem?_cons_succ, List.set_cons_zero, List.set_cons_succ,
  List.zip_cons_cons, List.zip_nil_left, List.zip_nil_right, List.foldl_cons, List.foldl_nil, Nat.reduceAdd, Nat.reduceSub, Nat.zero_add, Nat.add_zero, Nat.reduceLeDiff, true_and, and_true, if_true, Bool.false_eq_true, if_false, e1, e2]
  exact ⟨by decide, a1, ⟨bm a1 a2, big (by decide)⟩, ⟨big (by decide), bt⟩, ⟨big (by omega), bt⟩, a1, ⟨bm a1 a2, bm2 a1 a2⟩, by decide, b1, ⟨bm b1 b2, bm b1 b2⟩, by decide, ⟨by decide, bigd_of (by decide)⟩, by omega, ⟨_, _, rfl, rfl, ⟨c, t + 1, l, rfl, by omega, by omega, hl⟩, Int.emod_nonneg _ (by omega), Int.emod_lt_of_pos _ (by omega)⟩⟩
section
variable {B : Int} {p : D} {r : List D} {Φ : D → List D → Prop}
theorem draw_then {many : Int} (hp : PenOk B p) (hB : B ≤ 10 ^ 12) (h1 : 1 ≤ many) (h2 : many ≤ 10 ^ 60) (k : ∀ i p', PenOk (B + 1) p' → 0 ≤ i → i < many → Φ (.int i) (p' :: r)) : WR (m__law_draw [.cell 0, .int many] (p :: r)) Φ :=
  (draw_ok hp hB h1 h2).mono fun d τ ⟨i, p', e1, e2, h, a, b⟩ => by subst e1 e2; exact k i p' h a b
theorem pick_then {xs : List D} (hp : PenOk B p) (hB : B ≤ 10 ^ 12) (h1 : 1 ≤ xs.length) (h2 : xs.length ≤ 10 ^ 6) (k : ∀ d p', PenOk (B + 1) p' → d ∈ xs → Φ d (p' :: r)) : WR (m__law_pick [.cell 0, .lst xs] (p :: r)) Φ := by
  unfold m__law_pick b__law_pick
  try simp only [wr_ok, w_var, w_c, w_p, w_nil, w_cons, w_call, w_tup, w_lst, w_lstC, w_dicC, w_B, w_and, w_or, w_not, w_andV, w_orV, w_if, w_chain, w_fld, w_meth, w_make, w_bm, w_rev, w_sortIt, w_get2, w_callV,
  w_next, w_seq, w_drop, w_ret, w_retN, w_break, w_cont, w_ifS, w_asg, w_gname, w_gsub, w_gtup, w_gnil, w_gcons, w_par, w_setFld, w_while, w_for, w_items, w_range1, w_lc, w_def,
  der_int, der_bl, der_str, der_lst, der_frl, der_tup, der_dic, der_non, der_obj, der_raw, p_add, p_sub, p_mul, p_fdiv, p_mod, p_pow, p_neg, p_cmp, p_abs, p_min2, p_max2, p_eqI, p_notB, p_lenL, p_lenT, p_listL, newL_w, newLC_w, p_ixL, p_ixT,
  List.map_cons, List.map_nil, List.length_cons, List.length_nil, List.replicate_zero, List.replicate_succ, List.replicate, List.cons_append, List.nil_append, List.append_nil, List.getElem?_cons_zero, List.getElem?_cons_succ, List.set_cons_zero, List.set_cons_succ,
  List.zip_cons_cons, List.zip_nil_left, List.zip_nil_right, List.foldl_cons, List.foldl_nil, Nat.reduceAdd, Nat.reduceSub, Nat.zero_add, Nat.add_zero, Nat.reduceLeDiff, true_and, and_true, if_true, Bool.false_eq_true, if_false]
  refine draw_then hp hB (by omega) (by omega) fun i p' hp' a b => ?_
  try simp only [wr_ok, w_var, w_c, w_p, w_nil, w_cons, w_call, w_tup, w_lst, w_lstC, w_dicC, w_B, w_and, w_or, w_not, w_andV, w_orV, w_if, w_chain, w_fld, w_meth, w_make, w_bm, w_rev, w_sortIt, w_get2, w_callV,
  w_next, w_seq, w_drop, w_ret, w_retN, w_break, w_cont, w_ifS, w_asg, w_gname, w_gsub, w_gtup, w_gnil, w_gcons, w_par, w_setFld, w_while, w_for, w_items, w_range1, w_lc, w_def,
  der_int, der_bl, der_str, der_lst, der_frl, der_tup, der_dic, der_non, der_obj, der_raw, p_add, p_sub, p_mul, p_fdiv, p_mod, p_pow, p_neg, p_cmp, p_abs, p_min2, p_max2, p_eqI, p_notB, p_lenL, p_lenT, p_listL, newL_w, newLC_w, p_ixL, p_ixT,
  List.map_cons, List.map_nil, List.length_cons, List.length_nil, List.replicate_zero, List.replicate_succ, List.replicate, List.cons_append, List.nil_append, List.append_nil, List.getElem?_cons_zero, List.getElem?_cons_succ, List.set_cons_zero, List.set_cons_succ,
  List.zip_cons_cons, List.zip_nil_left, List.zip_nil_right, List.foldl_cons, List.foldl_nil, Nat.reduceAdd, Nat.reduceSub, Nat.zero_add, Nat.add_zero, Nat.reduceLeDiff, true_and, and_true, if_true, Bool.false_eq_true, if_false]
  obtain ⟨d, e1, e2⟩ := atI_nat a b
  rw [e1]
  exact k d p' hp' (List.mem_of_getElem? e2)
theorem pow_bound {i : Nat} {k : Int} (h : (i : Int) ≤ k) (hk : k ≤ 100) : (10 : Int) ^ i ≤ 10 ^ 100 := by
  have : (10 : Nat) ^ i ≤ 10 ^ 100 := Nat.pow_le_pow_right (by decide) (by omega)
  exact_mod_cast this
theorem great_then {k : Int} (hp : PenOk B p) (hB : B + 200 ≤ 10 ^ 12) (h1 : 0 ≤ k) (h2 : k ≤ 100) (K : ∀ i p', PenOk (B + k) p' → 0 ≤ i → i < 10 ^ k.toNat → Φ (.int i) (p' :: r)) : WR (m__law_great [.cell 0, .int k] (p :: r)) Φ := by
  unfold m__law_great b__law_great
  try simp only [wr_ok, w_var, w_c, w_p, w_nil, w_cons, w_call, w_tup, w_lst, w_lstC, w_dicC, w_B, w_and, w_or, w_not, w_andV, w_orV, w_if, w_chain, w_fld, w_meth, w_make, w_bm, w_rev, w_sortIt, w_get2, w_callV,
  w_next, w_seq, w_drop, w_ret, w_retN, w_break, w_cont, w_ifS, w_asg, w_gname, w_gsub, w_gtup, w_gnil, w_gcons, w_par, w_setFld, w_while, w_for, w_items, w_range1, w_lc, w_def,
  der_int, der_bl, der_str, der_lst, der_frl, der_tup, der_dic, der_non, der_obj, der_raw, p_add, p_sub, p_mul, p_fdiv, p_mod, p_pow, p_neg, p_cmp, p_abs, p_min2, p_max2, p_eqI, p_notB, p_lenL, p_lenT, p_listL, newL_w, newLC_w, p_ixL, p_ixT,
  List.map_cons, List.map_nil, List.length_cons, List.length_nil, List.replicate_zero, List.replicate_succ, List.replicate, List.cons_append, List.nil_append, List.append_nil, List.getElem?_cons_zero, List.getElem?_cons_succ, List.set_cons_zero, List.set_cons_succ,
  List.zip_cons_cons, List.zip_nil_left, List.zip_nil_right, List.foldl_cons, List.foldl_nil, Nat.reduceAdd, Nat.reduceSub, Nat.zero_add, Nat.add_zero, Nat.reduceLeDiff, true_and, and_true, if_true, Bool.false_eq_true, if_false]
  refine ⟨by omega, ?_⟩
  refine w_forI (fun i δ τ => (i : Int) ≤ k ∧ ∃ x o p', At δ τ [some (.cell 0), some (.int k), some (.int x), o] (p' :: r) ∧ PenOk (B + i) p' ∧ 0 ≤ x ∧ x < 10 ^ i) ⟨by omega, 0, none, p, ⟨rfl, rfl⟩, hp.mono (by omega), by omega, by decide⟩ ?_ ?_
  · rintro i y δ τ hi ⟨hik, x, o, p', ⟨rfl, rfl⟩, hp', x0, x1⟩
    have hlt : (i : Int) < k := by
      have := (List.getElem?_eq_some_iff.mp hi).1
      simp at this; omega
    have pb := pow_bound (by omega : (i : Int) ≤ k) h2
    have pb2 : (10 : Int) ^ 100 < 10 ^ 119 := by decide
    try simp only [wr_ok, w_var, w_c, w_p, w_nil, w_cons, w_call, w_tup, w_lst, w_lstC, w_dicC, w_B, w_and, w_or, w_not, w_andV, w_orV, w_if, w_chain, w_fld, w_meth, w_make, w_bm, w_rev, w_sortIt, w_get2, w_callV,
  w_next, w_seq, w_drop, w_ret, w_retN, w_break, w_cont, w_ifS, w_asg, w_gname, w_gsub, w_gtup, w_gnil, w_gcons, w_par, w_setFld, w_while, w_for, w_items, w_range1, w_lc, w_def,
  der_int, der_bl, der_str, der_lst, der_frl, der_tup, der_dic, der_non, der_obj, der_raw, p_add, p_sub, p_mul, p_fdiv, p_mod, p_pow, p_neg, p_cmp, p_abs, p_min2, p_max2, p_eqI, p_notB, p_lenL, p_lenT, p_listL, newL_w, newLC_w, p_ixL, p_ixT,
  List.map_cons, List.map_nil, List.length_cons, List.length_nil, List.replicate_zero, List.replicate_succ, List.replicate, List.cons_append, List.nil_append, List.append_nil, List.getElem?_cons_zero, List.getElem?_cons_succ, List.set_cons_zero, List.set_cons_succ,
  List.zip_cons_cons, List.zip_nil_left, List.zip_nil_right, List.foldl_cons, List.foldl_nil, Nat.reduceAdd, Nat.reduceSub, Nat.zero_add, Nat.add_zero, Nat.reduceLeDiff, true_and, and_true, if_true, Bool.false_eq_true, if_false]
    refine ⟨⟨big_of (by decide), big_of (by omega)⟩, ?_⟩
    refine draw_then hp' (by omega) (by omega) (by omega) fun j p'' hp'' a b => ?_
    try simp only [wr_ok, w_var, w_c, w_p, w_nil, w_cons, w_call, w_tup, w_lst, w_lstC, w_dicC, w_B, w_and, w_or, w_not, w_andV, w_orV, w_if, w_chain, w_fld, w_meth, w_make, w_bm, w_rev, w_sortIt, w_get2, w_callV,
  w_next, w_seq, w_drop, w_ret, w_retN, w_break, w_cont, w_ifS, w_asg, w_gname, w_gsub, w_gtup, w_gnil, w_gcons, w_par, w_setFld, w_while, w_for, w_items, w_range1, w_lc, w_def,
  der_int, der_bl, der_str, der_lst, der_frl, der_tup, der_dic, der_non, der_obj, der_raw, p_add, p_sub, p_mul, p_fdiv, p_mod, p_pow, p_neg, p_cmp, p_abs, p_min2, p_max2, p_eqI, p_notB, p_lenL, p_lenT, p_listL, newL_w, newLC_w, p_ixL, p_ixT,
  List.map_cons, List.map_nil, List.length_cons, List.length_nil, List.replicate_zero, List.replicate_succ, List.replicate, List.cons_append, List.nil_append, List.append_nil, List.getElem?_cons_zero, List.getElem?_cons_succ, List.set_cons_zero, List.set_cons_succ,
  List.zip_cons_cons, List.zip_nil_left, List.zip_nil_right, List.foldl_cons, List.foldl_nil, Nat.reduceAdd, Nat.reduceSub, Nat.zero_add, Nat.add_zero, Nat.reduceLeDiff, true_and, and_true, if_true, Bool.false_eq_true, if_false]
    refine ⟨by omega, _, _, _, ⟨rfl, rfl⟩, hp''.mono (by omega), by omega, ?_⟩
    rw [Int.pow_succ]; omega
  · rintro δ τ ⟨hik, x, o, p', ⟨rfl, rfl⟩, hp', x0, x1⟩
    simp only [List.length_map, List.length_range] at hp' x1
    try simp only [wr_ok, w_var, w_c, w_p, w_nil, w_cons, w_call, w_tup, w_lst, w_lstC, w_dicC, w_B, w_and, w_or, w_not, w_andV, w_orV, w_if, w_chain, w_fld, w_meth, w_make, w_bm, w_rev, w_sortIt, w_get2, w_callV,
  w_next, w_seq, w_drop, w_ret, w_retN, w_break, w_cont, w_ifS, w_asg, w_gname, w_gsub, w_gtup, w_gnil, w_gcons, w_par, w_setFld, w_while, w_for, w_items, w_range1, w_lc, w_def,
  der_int, der_bl, der_str, der_lst, der_frl, der_tup, der_dic, der_non, der_obj, der_raw, p_add, p_sub, p_mul, p_fdiv, p_mod, p_pow, p_neg, p_cmp, p_abs, p_min2, p_max2, p_eqI, p_notB, p_lenL, p_lenT, p_listL, newL_w, newLC_w, p_ixL, p_ixT,
  List.map_cons, List.map_nil, List.length_cons, List.length_nil, List.replicate_zero, List.replicate_succ, List.replicate, List.cons_append, List.nil_append, List.append_nil, List.getElem?_cons_zero, List.getElem?_cons_succ, List.set_cons_zero, List.set_cons_succ,
  List.zip_cons_cons, List.zip_nil_left, List.zip_nil_right, List.foldl_cons, List.foldl_nil, Nat.reduceAdd, Nat.reduceSub, Nat.zero_add, Nat.add_zero, Nat.reduceLeDiff, true_and, and_true, if_true, Bool.false_eq_true, if_false]
    exact K x p' (hp'.mono (by omega)) x0 x1
end
end DL

namespace DL
open PySem L2
section
variable {B : Int} {p : D} {r : List D} {Φ : D → List D → Prop}
theorem isT_lst {xs : List D} : isT "list" (.lst xs) = true := (rfl)
theorem p_append0 {τ xs : List D} {y : D} : WR (pAppend [.cell τ.length, y] (τ ++ [.lst xs])) Φ = (xs.length < cap ∧ Φ .non (τ ++ [.lst (xs ++ [y])])) := by
  have e : (τ ++ [D.lst xs])[τ.length]? = some (.lst xs) := gx0
  unfold pAppend
  simp only [e, sx0, List.set_cons_zero]
  split <;> simp [WR, WR0, *]
theorem p_append1 {xs : List D} {y : D} : WR (pAppend [.cell (r.length + 1), y] (p :: (r ++ [.lst xs]))) Φ = (xs.length < cap ∧ Φ .non (p :: (r ++ [.lst (xs ++ [y])]))) := p_append0 (τ := p :: r)
theorem der_c1 {x : D} : der (p :: (r ++ [x])) (.cell (r.length + 1)) = x := by
  rw [der_cell, List.getElem?_cons_succ, gx0]; rfl
theorem der_c0 {τ : List D} {x : D} : der (τ ++ [x]) (.cell τ.length) = x := by
  rw [der_cell, gx0]; rfl
/-- a service within bounds -/
def Svc (s : Int × Int) : Prop := -10 ^ 21 ≤ s.1 ∧ s.1 ≤ 10 ^ 21 ∧ -10 ^ 21 ≤ s.2 ∧ s.2 ≤ 10 ^ 21
theorem pla_pair (s : Int × Int) : Pla (pairD s) := pla_tup fun d hd => by
  simp only [List.mem_cons, List.not_mem_nil, or_false] at hd
  rcases hd with rfl | rfl <;> exact pla_int _
theorem pla_pairs (ss : List (Int × Int)) : Pla (.lst (ss.map pairD)) := pla_lst fun d hd => by
  obtain ⟨s, _, rfl⟩ := List.mem_map.mp hd; exact pla_pair s
/-- what a def hands out that has one cell of its own behind -/
theorem exit1 {g : Pr} {ds : List D} (h : WR (g ds (p :: r)) fun d τ' => ∃ p' x e, τ' = p' :: (r ++ [x]) ∧ Pla p' ∧ Pla x ∧ (∀ c, c (r.length + 1) = some x → frzD c d = some e) ∧ Φ e (p' :: r)) : WR (exitP g ds (p :: r)) Φ := by
  refine w_exitD (h.mono fun d τ' ⟨p', x, e, e1, h1, h2, h3, h4⟩ => ?_)
  subst e1
  refine ⟨e, h3 _ ?_, older_pen h1, by simpa using h4⟩
  show (if r.length + 1 < (p :: r).length then some (.cell (r.length + 1)) else ((p' :: (r ++ [x]))[r.length + 1]?).bind (frzD (celF (p :: r).length (p' :: (r ++ [x])) 5))) = some x
  rw [if_neg (by simp), List.getElem?_cons_succ, gx0]
  exact h2 _
theorem int_mem {x : Int} {ys : List Int} {d : D} (h : d ∈ ys.map D.int) : ∃ y ∈ ys, d = .int y := by
  obtain ⟨y, h1, h2⟩ := List.mem_map.mp h
  exact ⟨y, h1, h2.symm⟩
/-- a pick of ints -/
theorem picki_then {ys : List Int} (hp : PenOk B p) (hB : B ≤ 10 ^ 12) (h1 : 1 ≤ ys.length) (h2 : ys.length ≤ 10 ^ 6) (k : ∀ y p', PenOk (B + 1) p' → y ∈ ys → Φ (.int y) (p' :: r)) : WR (m__law_pick [.cell 0, .lst (ys.map D.int)] (p :: r)) Φ :=
  pick_then hp hB (by simpa using h1) (by simpa using h2) fun d p' h m => by
    obtain ⟨y, hy, rfl⟩ := int_mem (x := 0) m
    exact k y p' h hy
end
end DL

namespace DL
open PySem L2
/-! ### the plain law of needed steps -/
/-- a service in the first period -/
def fp (n : Int) (s : Int × Int) : Int × Int := (s.1 % n, s.2 - s.1 / n * n)
def domi (n : Int) (k x : Int × Int) : Prop := (x.1 ≤ k.1 ∧ k.2 ≤ x.2) ∨ k.2 + n ≤ x.2
structure Rows (n : Int) (ss rows : List (Int × Int)) : Prop where
  ne : rows ≠ []
  up : rows.Pairwise fun a b => a.1 < b.1 ∧ a.2 < b.2
  rng : ∀ k ∈ rows, 0 ≤ k.1 ∧ k.1 < n
  wrap : ∀ a ∈ rows, ∀ b ∈ rows, b.2 < a.2 + n
  sub : ∀ k ∈ rows, ∃ s ∈ ss, k = fp n s
  dom : ∀ s ∈ ss, ∃ k ∈ rows, domi n k (fp n s)
  len : rows.length ≤ ss.length
abbrev encI (q : Int × Int) : Key × D := (Sum.inl q.1, .int q.2)
def putI (d v : Int) : List (Int × Int) → List (Int × Int)
  | [] => [(d, v)]
  | q :: r => if q.1 = d then (q.1, v) :: r else q :: putI d v r
def valI (d : Int) : List (Int × Int) → Option Int
  | [] => none
  | q :: r => if q.1 = d then some q.2 else valI d r
theorem putI_enc (d v : Int) : ∀ ks : List (Int × Int), putKD (Sum.inl d : Key) (.int v) (ks.map encI) = (putI d v ks).map encI
  | [] => rfl
  | q :: r => by
    have ih := putI_enc d v r
    by_cases h : q.1 = d
    · simp [putKD, putI, h]
    · have h' : ¬ ((Sum.inl q.1 : Key) = Sum.inl d) := fun z => h (Sum.inl.inj z)
      simp only [List.map_cons, putKD, putI, if_neg h, if_neg h', ih]
theorem valI_enc (d : Int) : ∀ ks : List (Int × Int), valD (ks.map encI) (Sum.inl d : Key) = (valI d ks).map D.int
  | [] => rfl
  | q :: r => by
    have ih := valI_enc d r
    by_cases h : q.1 = d
    · simp [valD, valI, h]
    · have h' : ¬ ((Sum.inl q.1 : Key) = Sum.inl d) := fun z => h (Sum.inl.inj z)
      simp only [List.map_cons, valD, valI, if_neg h, if_neg h', ih]
theorem intPairs_enc : ∀ ks : List (Int × Int), intPairs (ks.map encI) = some ks
  | [] => rfl
  | q :: r => by simp [intPairs, intPairs_enc r]
theorem valI_mem {d v : Int} : ∀ {ks : List (Int × Int)}, valI d ks = some v → (d, v) ∈ ks
  | [], h => by simp [valI] at h
  | q :: r, h => by
    unfold valI at h
    by_cases e : q.1 = d
    · rw [if_pos e] at h; cases h; subst e; exact List.mem_cons_self
    · rw [if_neg e] at h; exact List.mem_cons_of_mem _ (valI_mem h)
theorem valI_none {d : Int} : ∀ {ks : List (Int × Int)}, valI d ks = none → ∀ q ∈ ks, q.1 ≠ d
  | [], _, q, h => nomatch h
  | q :: r, h, z, hz => by
    unfold valI at h
    by_cases e : q.1 = d
    · rw [if_pos e] at h; cases h
    · rw [if_neg e] at h
      rcases List.mem_cons.mp hz with rfl | hz
      · exact e
      · exact valI_none h z hz
theorem mem_putI {d v : Int} : ∀ {ks : List (Int × Int)} {q : Int × Int}, q ∈ putI d v ks → q = (d, v) ∨ q ∈ ks
  | [], q, h => by simp [putI] at h; exact .inl h
  | z :: r, q, h => by
    unfold putI at h
    by_cases e : z.1 = d
    · rw [if_pos e] at h
      rcases List.mem_cons.mp h with h | h
      · left; rw [h, e]
      · exact .inr (List.mem_cons_of_mem _ h)
    · rw [if_neg e] at h
      rcases List.mem_cons.mp h with h | h
      · exact .inr (by rw [h]; exact List.mem_cons_self)
      · exact (mem_putI h).imp id (List.mem_cons_of_mem _)
theorem putI_self {d v : Int} : ∀ {ks : List (Int × Int)}, (d, v) ∈ putI d v ks
  | [] => by simp [putI]
  | z :: r => by
    unfold putI
    by_cases e : z.1 = d
    · rw [if_pos e, e]; exact List.mem_cons_self
    · rw [if_neg e]; exact List.mem_cons_of_mem _ putI_self
theorem putI_other {d v : Int} : ∀ {ks : List (Int × Int)} {q : Int × Int}, q ∈ ks → q.1 ≠ d → q ∈ putI d v ks
  | z :: r, q, h, hq => by
    unfold putI
    by_cases e : z.1 = d
    · rw [if_pos e]
      rcases List.mem_cons.mp h with h | h
      · exact absurd (by rw [h]; exact e) hq
      · exact List.mem_cons_of_mem _ h
    · rw [if_neg e]
      rcases List.mem_cons.mp h with h | h
      · rw [h]; exact List.mem_cons_self
      · exact List.mem_cons_of_mem _ (putI_other h hq)
theorem putI_keys {d v : Int} : ∀ {ks : List (Int × Int)}, (ks.map (·.1)).Nodup → ((putI d v ks).map (·.1)).Nodup
  | [], _ => by simp [putI]
  | z :: r, h => by
    rw [List.map_cons, List.nodup_cons] at h
    unfold putI
    by_cases e : z.1 = d
    · rw [if_pos e, List.map_cons, List.nodup_cons]; exact h
    · rw [if_neg e, List.map_cons, List.nodup_cons]
      refine ⟨fun hz => ?_, putI_keys h.2⟩
      obtain ⟨q, h1, h2⟩ := List.mem_map.mp hz
      rcases mem_putI h1 with rfl | h1
      · exact e h2.symm
      · exact h.1 (List.mem_map.mpr ⟨q, h1, h2⟩)
theorem putI_len {d v : Int} : ∀ {ks : List (Int × Int)}, (putI d v ks).length ≤ ks.length + 1
  | [] => by simp [putI]
  | z :: r => by
    unfold putI
    by_cases e : z.1 = d
    · rw [if_pos e]; simp
    · rw [if_neg e]
      have := putI_len (d := d) (v := v) (ks := r)
      simp; omega
/-- the dict of the best arrivals after the services `done` -/
structure Best (n : Int) (dn ks : List (Int × Int)) : Prop where
  nd : (ks.map (·.1)).Nodup
  sub : ∀ q ∈ ks, ∃ s ∈ dn, q = fp n s
  dom : ∀ s ∈ dn, ∃ q ∈ ks, q.1 = (fp n s).1 ∧ q.2 ≤ (fp n s).2
  len : ks.length ≤ dn.length
theorem Best.step {n : Int} {dn ks : List (Int × Int)} (b : Best n dn ks) (s : Int × Int) : Best n (dn ++ [s]) (putI (fp n s).1 (if (fp n s).2 < (valI (fp n s).1 ks).getD (fp n s).2 then (fp n s).2 else (valI (fp n s).1 ks).getD (fp n s).2) ks) := by
  generalize hv : (if (fp n s).2 < (valI (fp n s).1 ks).getD (fp n s).2 then (fp n s).2 else (valI (fp n s).1 ks).getD (fp n s).2) = v
  have hle : v ≤ (fp n s).2 := by rw [← hv]; split <;> omega
  have hin : ((fp n s).1, v) = fp n s ∨ ((fp n s).1, v) ∈ ks := by
    cases e : valI (fp n s).1 ks with
    | none => rw [e] at hv; simp at hv; left; rw [← hv]
    | some u =>
      rw [e] at hv; simp at hv
      split at hv
      · left; rw [← hv]
      · right; rw [← hv]; exact valI_mem e
  have hold : ∀ q ∈ ks, q.1 = (fp n s).1 → v ≤ q.2 := fun q hq hq1 => by
    cases e : valI (fp n s).1 ks with
    | none => exact absurd hq1 (valI_none e q hq)
    | some u =>
      rw [e] at hv; simp at hv
      have hm := valI_mem e
      have : q = ((fp n s).1, u) := by
        have nd := b.nd
        obtain ⟨i, hi, ei⟩ := List.getElem_of_mem hq
        obtain ⟨j, hj, ej⟩ := List.getElem_of_mem hm
        have : i = j := by
          have h1 : (ks.map (fun (z : Int × Int) => z.1))[i]? = (ks.map (fun (z : Int × Int) => z.1))[j]? := by
            rw [List.getElem?_map, List.getElem?_map, List.getElem?_eq_getElem hi, List.getElem?_eq_getElem hj, ei, ej]
            simp [hq1]
          exact (List.getElem?_inj (by simpa using hi) nd).mp h1
        subst this; rw [← ei, ej]
      rw [this]; show v ≤ u
      split at hv <;> omega
  refine ⟨putI_keys b.nd, fun q hq => ?_, fun t ht => ?_, ?_⟩
  · rcases mem_putI hq with rfl | hq
    · rcases hin with h | h
      · exact ⟨s, by simp, h⟩
      · obtain ⟨t, h1, h2⟩ := b.sub _ h
        exact ⟨t, by simp [h1], h2⟩
    · obtain ⟨t, h1, h2⟩ := b.sub _ hq
      exact ⟨t, by simp [h1], h2⟩
  · rcases List.mem_append.mp ht with ht | ht
    · obtain ⟨q, h1, h2, h3⟩ := b.dom t ht
      by_cases e : q.1 = (fp n s).1
      · exact ⟨_, putI_self, by show (fp n s).1 = _; rw [← e]; exact h2, Int.le_trans (hold q h1 e) h3⟩
      · exact ⟨q, putI_other h1 e, h2, h3⟩
    · rw [List.mem_singleton.mp ht]
      exact ⟨_, putI_self, rfl, hle⟩
  · have := putI_len (d := (fp n s).1) (v := v) (ks := ks)
    have := b.len
    simp; omega
theorem leII_trans {a b c : Int × Int} (h : leII a b = true) (k : leII b c = true) : leII a c = true := by
  simp only [leII, decide_eq_true_eq] at *
  omega
theorem leII_total (a b : Int × Int) : (leII a b || leII b a) = true := by
  simp only [leII, Bool.or_eq_true, decide_eq_true_eq]
  omega
theorem sorted_up {ks : List (Int × Int)} (nd : (ks.map (·.1)).Nodup) : (ks.mergeSort leII).Pairwise fun a b => a.1 < b.1 := by
  have h := List.pairwise_mergeSort (le := leII) (fun a b c => leII_trans) leII_total ks
  have nd2 : ((ks.mergeSort leII).map (·.1)).Nodup := ((List.mergeSort_perm ks leII).map (·.1)).nodup_iff.mpr nd
  have nd3 : (ks.mergeSort leII).Pairwise fun a b => a.1 ≠ b.1 := by
    have := nd2
    unfold List.Nodup at this
    rw [List.pairwise_map] at this
    exact this
  refine (h.and nd3).imp fun {a b} ⟨h1, h2⟩ => ?_
  simp only [leII, decide_eq_true_eq] at h1
  omega
/-- the kept ones after the rows `dn` (from behind) -/
structure Kept (n r0 : Int) (dn K : List (Int × Int)) (L : Int) : Prop where
  sub : ∀ k ∈ K, k ∈ dn
  down : K.Pairwise fun a b => b.1 < a.1 ∧ b.2 < a.2
  lim : (K = [] ∧ L = r0 + n) ∨ ∃ k, k ∈ K ∧ k.2 = L
  low : ∀ k ∈ K, L ≤ k.2
  top : L ≤ r0 + n
  dom : ∀ x ∈ dn, (∃ k ∈ K, x.1 ≤ k.1 ∧ k.2 ≤ x.2) ∨ r0 + n ≤ x.2
  len : K.length ≤ dn.length
theorem Kept.take {n r0 L : Int} {dn K : List (Int × Int)} {x : Int × Int} (h : Kept n r0 dn K L) (hx : ∀ k ∈ dn, x.1 < k.1) (hl : x.2 < L) : Kept n r0 (dn ++ [x]) (K ++ [x]) x.2 := by
  refine ⟨fun k hk => ?_, ?_, .inr ⟨x, by simp, rfl⟩, fun k hk => ?_, by have := h.top; omega, fun y hy => ?_, by have := h.len; simp; omega⟩
  · rcases List.mem_append.mp hk with hk | hk
    · exact List.mem_append_left _ (h.sub k hk)
    · exact List.mem_append_right _ hk
  · rw [List.pairwise_append]
    refine ⟨h.down, by simp, fun a ha b hb => ?_⟩
    rw [List.mem_singleton.mp hb]
    have := h.low a ha
    exact ⟨hx a (h.sub a ha), by omega⟩
  · rcases List.mem_append.mp hk with hk | hk
    · have := h.low k hk; omega
    · rw [List.mem_singleton.mp hk]; exact Int.le_refl _
  · rcases List.mem_append.mp hy with hy | hy
    · rcases h.dom y hy with ⟨k, h1, h2⟩ | h1
      · exact .inl ⟨k, List.mem_append_left _ h1, h2⟩
      · exact .inr h1
    · rw [List.mem_singleton.mp hy]
      exact .inl ⟨x, by simp, Int.le_refl _, Int.le_refl _⟩
theorem Kept.skip {n r0 L : Int} {dn K : List (Int × Int)} {x : Int × Int} (h : Kept n r0 dn K L) (hx : ∀ k ∈ dn, x.1 < k.1) (hl : ¬ x.2 < L) : Kept n r0 (dn ++ [x]) K L := by
  refine ⟨fun k hk => List.mem_append_left _ (h.sub k hk), h.down, h.lim, h.low, h.top, fun y hy => ?_, by have := h.len; simp; omega⟩
  rcases List.mem_append.mp hy with hy | hy
  · exact h.dom y hy
  · rw [List.mem_singleton.mp hy]
    rcases h.lim with ⟨_, e⟩ | ⟨k, h1, h2⟩
    · right; omega
    · left
      have := hx k (h.sub k h1)
      exact ⟨k, h1, by omega, by omega⟩
/-- the loop that takes the last ones off -/
structure Cut (n : Int) (rows K : List (Int × Int)) : Prop where
  ne : K ≠ []
  sub : ∀ k ∈ K, k ∈ rows
  down : K.Pairwise fun a b => b.1 < a.1 ∧ b.2 < a.2
  dom : ∀ x ∈ rows, ∃ k ∈ K, domi n k x
theorem Kept.cut {n L : Int} {rows K : List (Int × Int)} {x0 : Int × Int} (h : Kept n x0.2 rows.reverse K L) (hn : 1 ≤ n) (h0 : x0 ∈ rows) : Cut n rows K := by
  have d0 : ∃ k ∈ K, x0.1 ≤ k.1 ∧ k.2 ≤ x0.2 := by
    rcases h.dom x0 (by simpa using h0) with z | z
    · exact z
    · omega
  obtain ⟨k0, h1, h2, h3⟩ := d0
  refine ⟨(fun z => by rw [z] at h1; cases h1), fun k hk => by simpa using h.sub k hk, h.down, fun x hx => ?_⟩
  rcases h.dom x (by simpa using hx) with ⟨k, z1, z2⟩ | z
  · exact ⟨k, z1, .inl z2⟩
  · exact ⟨k0, h1, .inr (by omega)⟩
theorem Cut.pop {n : Int} {rows K : List (Int × Int)} {k0 kl : Int × Int} (h : Cut n rows (k0 :: K)) (hn : 1 ≤ n) (hl : (k0 :: K).getLast? = some kl) (hc : kl.2 + n ≤ k0.2) : Cut n rows K := by
  have hm : kl ∈ k0 :: K := List.mem_of_getLast? hl
  have hk : kl ∈ K := by
    rcases List.mem_cons.mp hm with e | e
    · subst e; omega
    · exact e
  refine ⟨(fun z => by rw [z] at hk; cases hk), fun k hk => h.sub k (List.mem_cons_of_mem _ hk), (List.pairwise_cons.mp h.down).2, fun x hx => ?_⟩
  obtain ⟨k, h1, h2⟩ := h.dom x hx
  rcases List.mem_cons.mp h1 with rfl | h1
  · refine ⟨kl, hk, .inr ?_⟩
    rcases h2 with ⟨_, h2⟩ | h2 <;> omega
  · exact ⟨k, h1, h2⟩
theorem Cut.rows {n : Int} {ss ks rows K : List (Int × Int)} {k0 kl : Int × Int} (h : Cut n rows (k0 :: K)) (hn : 1 ≤ n) (b : Best n ss ks) (hr : ∀ x, x ∈ rows ↔ x ∈ ks) (hl : (k0 :: K).getLast? = some kl) (hc : ¬ kl.2 + n ≤ k0.2) (hlen : (k0 :: K).length ≤ ss.length) :
    Rows n ss (k0 :: K).reverse := by
  have hdn := h.down
  have top : ∀ k ∈ k0 :: K, k.2 ≤ k0.2 := fun k hk => by
    rcases List.mem_cons.mp hk with rfl | hk
    · exact Int.le_refl _
    · have := (List.pairwise_cons.mp hdn).1 k hk; omega
  have bot : ∀ k ∈ k0 :: K, kl.2 ≤ k.2 := fun k hk => by
    obtain ⟨M, e⟩ := List.getLast?_eq_some_iff.mp hl
    rw [e] at hk hdn
    rw [List.pairwise_append] at hdn
    rcases List.mem_append.mp hk with hk | hk
    · have := hdn.2.2 k hk kl (by simp); omega
    · rw [List.mem_singleton.mp hk]; exact Int.le_refl _
  refine ⟨by simp, ?_, fun k hk => ?_, fun a ha c hc' => ?_, fun k hk => ?_, fun s hs => ?_, by simpa using hlen⟩
  · rw [List.pairwise_reverse]; exact hdn
  · obtain ⟨s, _, rfl⟩ := b.sub k ((hr k).mp (h.sub k (List.mem_reverse.mp hk)))
    exact ⟨Int.emod_nonneg _ (by omega), Int.emod_lt_of_pos _ (by omega)⟩
  · have := top c (List.mem_reverse.mp hc')
    have := bot a (List.mem_reverse.mp ha)
    omega
  · exact b.sub k ((hr k).mp (h.sub k (List.mem_reverse.mp hk)))
  · obtain ⟨q, h1, h2, h3⟩ := b.dom s hs
    obtain ⟨k, h4, h5⟩ := h.dom q ((hr q).mpr h1)
    refine ⟨k, List.mem_reverse.mpr h4, ?_⟩
    rcases h5 with ⟨z1, z2⟩ | z
    · exact .inl ⟨by omega, by omega⟩
    · exact .inr (by omega)
end DL

namespace DL
open PySem L2
section
variable {τ : List D} {Φ : D → List D → Prop}
theorem atI_zero {α : Type} {x : α} {xs : List α} : atI (x :: xs) 0 = some x := by simp [atI, ixN]
theorem atI_last {α : Type} {xs : List α} {y : α} (h : xs.getLast? = some y) : atI xs (-1) = some y := by
  have hne : xs ≠ [] := fun z => by rw [z] at h; cases h
  have hl : 0 < xs.length := List.length_pos_iff.mpr hne
  unfold atI ixN
  rw [if_neg (by omega), if_pos (by omega)]
  have e : (-1 + (xs.length : Int)).toNat = xs.length - 1 := by omega
  simp only [Option.bind_some, e]
  rw [← List.getLast?_eq_getElem?]
  exact h
theorem ix_pair0 {s : Int × Int} : WR (pIx [pairD s, .int 0] τ) Φ = Φ (.int s.1) τ := (by with_unfolding_all rfl)
theorem ix_pair1 {s : Int × Int} : WR (pIx [pairD s, .int 1] τ) Φ = Φ (.int s.2) τ := (by with_unfolding_all rfl)
theorem der_pair {s : Int × Int} : der τ (pairD s) = .tup [.int s.1, .int s.2] := (rfl)
theorem p_ixC {xs : List D} {j : Int} : WR (pIx [.cell τ.length, .int j] (τ ++ [.lst xs])) Φ = (match atI xs j with | some d => Φ d (τ ++ [.lst xs]) | none => False) := by
  have e : der (τ ++ [D.lst xs]) (.cell τ.length) = .lst xs := der_c0
  unfold pIx
  simp only [e, der_int]
  cases atI xs j <;> with_unfolding_all rfl
theorem p_pop0 {x : D} {xs : List D} : WR (pPop [.cell τ.length, .int 0] (τ ++ [.lst (x :: xs)])) Φ = Φ x (τ ++ [.lst xs]) := by
  have e : (τ ++ [D.lst (x :: xs)])[τ.length]? = some (.lst (x :: xs)) := gx0
  unfold pPop
  simp only [e, der_int, sx0, List.set_cons_zero]
  with_unfolding_all rfl
theorem p_setDC {kds : List (Key × D)} {d : Int} {v : D} : WR (pSet [.cell τ.length, .int d, v] (τ ++ [.dic kds])) Φ = (kds.length < cap ∧ Φ .non (τ ++ [.dic (putKD (Sum.inl d) v kds)])) := by
  have e : (τ ++ [D.dic kds])[τ.length]? = some (.dic kds) := gx0
  unfold pSet
  simp only [e, keyOf, sx0, List.set_cons_zero]
  split <;> simp [WR, WR0, *]
theorem p_sortIt {ks : List (Int × Int)} : WR (pSortIt [.cell τ.length] (τ ++ [.dic (ks.map encI)])) Φ = (ks.length ≤ cap ∧ Φ (.lst ((ks.mergeSort leII).map pairD)) (τ ++ [.dic (ks.map encI)])) := by
  have e : der (τ ++ [D.dic (ks.map encI)]) (.cell τ.length) = .dic (ks.map encI) := der_c0
  unfold pSortIt
  simp only [e, intPairs_enc]
  split <;> simp [WR, WR0, *]
theorem fp_then {n : Int} {s : Int × Int} (n1 : 1 ≤ n) (n2 : n ≤ 10 ^ 100) (hs : s.1.natAbs ≤ 10 ^ 100) (K : Φ (pairD (fp n s)) τ) : WR (m_in_first_period [pairD s, .int n] τ) Φ := by
  unfold m_in_first_period b_in_first_period pairD
  try simp only [wr_ok, w_var, w_c, w_p, w_nil, w_cons, w_call, w_tup, w_lst, w_lstC, w_dicC, w_B, w_and, w_or, w_not, w_andV, w_orV, w_if, w_chain, w_fld, w_meth, w_make, w_bm, w_rev, w_sortIt, w_get2, w_callV,
  w_next, w_seq, w_drop, w_ret, w_retN, w_break, w_cont, w_ifS, w_asg, w_gname, w_gsub, w_gtup, w_gnil, w_gcons, w_par, w_setFld, w_while, w_for, w_items, w_range1, w_lc, w_def,
  der_int, der_bl, der_str, der_lst, der_frl, der_tup, der_dic, der_non, der_obj, der_raw, p_add, p_sub, p_mul, p_fdiv, p_mod, p_pow, p_neg, p_cmp, p_abs, p_min2, p_max2, p_eqI, p_notB, p_lenL, p_lenT, p_listL, newL_w, newLC_w, p_ixL, p_ixT,
  List.map_cons, List.map_nil, List.length_cons, List.length_nil, List.replicate_zero, List.replicate_succ, List.replicate, List.cons_append, List.nil_append, List.append_nil, List.getElem?_cons_zero, List.getElem?_cons_succ, List.set_cons_zero, List.set_cons_succ,
  List.zip_cons_cons, List.zip_nil_left, List.zip_nil_right, List.foldl_cons, List.foldl_nil, Nat.reduceAdd, Nat.reduceSub, Nat.zero_add, Nat.add_zero, Nat.reduceLeDiff, true_and, and_true, if_true, Bool.false_eq_true, if_false]
  have h1 : (s.1 / n).natAbs ≤ 10 ^ 100 := by
    have := Int.natAbs_ediv_le_natAbs s.1 n
    omega
  have h2 : (10 : Nat) ^ 100 < 10 ^ 120 := by decide
  exact ⟨by omega, ⟨by omega, bigd_of (by omega)⟩, ⟨big_of (by omega), big_of (by omega)⟩, K⟩
theorem items_of {δ : DEnv} {xs : List D} {sD : D} {f : DE} {Φ : List D → List D → Prop} (h : sD = .lst xs ∨ sD = .tup xs) (hf : f δ τ = .ok sD τ) (K : Φ xs τ) : WR (dItems f δ τ) Φ := by
  rw [w_items, hf]
  rcases h with rfl | rfl <;> (rw [wr_ok]; exact K)
theorem needed_then {n : Int} {ss : List (Int × Int)} {sD : D} (hsD : sD = .lst (ss.map pairD) ∨ sD = .tup (ss.map pairD)) (n1 : 1 ≤ n) (n2 : n ≤ 10 ^ 100) (h1 : 1 ≤ ss.length) (h2 : ss.length ≤ 100000) (hs : ∀ s ∈ ss, s.1.natAbs ≤ 10 ^ 100)
    (Q : ∀ rows, Rows n ss rows → Φ (.lst (rows.map pairD)) τ) : WR (m_needed_steps [.int n, sD] τ) Φ := by
  unfold m_needed_steps b_needed_steps
  refine w_exitP ?_
  rw [w_def]
  -- best = {}
  refine w_cut (fun δ σ => At δ σ [some (.int n), some sD, some (.cell τ.length), none, none, none, none, none, none] (τ ++ [.dic ([].map encI)])) ?_ ?_
  · try simp only [wr_ok, w_var, w_c, w_p, w_nil, w_cons, w_call, w_tup, w_lst, w_lstC, w_dicC, w_B, w_and, w_or, w_not, w_andV, w_orV, w_if, w_chain, w_fld, w_meth, w_make, w_bm, w_rev, w_sortIt, w_get2, w_callV,
  w_next, w_seq, w_drop, w_ret, w_retN, w_break, w_cont, w_ifS, w_asg, w_gname, w_gsub, w_gtup, w_gnil, w_gcons, w_par, w_setFld, w_while, w_for, w_items, w_range1, w_lc, w_def,
  der_int, der_bl, der_str, der_lst, der_frl, der_tup, der_dic, der_non, der_obj, der_raw, p_add, p_sub, p_mul, p_fdiv, p_mod, p_pow, p_neg, p_cmp, p_abs, p_min2, p_max2, p_eqI, p_notB, p_lenL, p_lenT, p_listL, newL_w, newLC_w, p_ixL, p_ixT,
  List.map_cons, List.map_nil, List.length_cons, List.length_nil, List.replicate_zero, List.replicate_succ, List.replicate, List.cons_append, List.nil_append, List.append_nil, List.getElem?_cons_zero, List.getElem?_cons_succ, List.set_cons_zero, List.set_cons_succ,
  List.zip_cons_cons, List.zip_nil_left, List.zip_nil_right, List.foldl_cons, List.foldl_nil, Nat.reduceAdd, Nat.reduceSub, Nat.zero_add, Nat.add_zero, Nat.reduceLeDiff, true_and, and_true, if_true, Bool.false_eq_true, if_false]
    exact ⟨rfl, rfl⟩
  rintro δ σ ⟨rfl, rfl⟩
  refine w_cut (fun δ σ => ∃ ks o1 o2 o3, At δ σ [some (.int n), some sD, some (.cell τ.length), o1, o2, o3, none, none, none] (τ ++ [.dic (ks.map encI)]) ∧ Best n ss ks) ?_ ?_
  · rw [w_for]
    refine items_of hsD rfl ?_
    refine w_forI (fun i δ σ => ∃ ks o1 o2 o3, At δ σ [some (.int n), some sD, some (.cell τ.length), o1, o2, o3, none, none, none] (τ ++ [.dic (ks.map encI)]) ∧ Best n (ss.take i) ks)
      ⟨[], none, none, none, ⟨rfl, rfl⟩, by simp, by simp, by simp, by simp⟩ ?_ ?_
    · rintro i y δ σ hi ⟨ks, o1, o2, o3, ⟨rfl, rfl⟩, b⟩
      rw [List.getElem?_map] at hi
      cases e : ss[i]? with
      | none => rw [e] at hi; cases hi
      | some s =>
        rw [e] at hi
        cases hi
        have hsm := List.mem_of_getElem? e
        try simp only [wr_ok, w_var, w_c, w_p, w_nil, w_cons, w_call, w_tup, w_lst, w_lstC, w_dicC, w_B, w_and, w_or, w_not, w_andV, w_orV, w_if, w_chain, w_fld, w_meth, w_make, w_bm, w_rev, w_sortIt, w_get2, w_callV,
  w_next, w_seq, w_drop, w_ret, w_retN, w_break, w_cont, w_ifS, w_asg, w_gname, w_gsub, w_gtup, w_gnil, w_gcons, w_par, w_setFld, w_while, w_for, w_items, w_range1, w_lc, w_def,
  der_int, der_bl, der_str, der_lst, der_frl, der_tup, der_dic, der_non, der_obj, der_raw, p_add, p_sub, p_mul, p_fdiv, p_mod, p_pow, p_neg, p_cmp, p_abs, p_min2, p_max2, p_eqI, p_notB, p_lenL, p_lenT, p_listL, newL_w, newLC_w, p_ixL, p_ixT,
  List.map_cons, List.map_nil, List.length_cons, List.length_nil, List.replicate_zero, List.replicate_succ, List.replicate, List.cons_append, List.nil_append, List.append_nil, List.getElem?_cons_zero, List.getElem?_cons_succ, List.set_cons_zero, List.set_cons_succ,
  List.zip_cons_cons, List.zip_nil_left, List.zip_nil_right, List.foldl_cons, List.foldl_nil, Nat.reduceAdd, Nat.reduceSub, Nat.zero_add, Nat.add_zero, Nat.reduceLeDiff, true_and, and_true, if_true, Bool.false_eq_true, if_false]
        refine fp_then n1 n2 (hs s hsm) ?_
        try simp only [wr_ok, w_var, w_c, w_p, w_nil, w_cons, w_call, w_tup, w_lst, w_lstC, w_dicC, w_B, w_and, w_or, w_not, w_andV, w_orV, w_if, w_chain, w_fld, w_meth, w_make, w_bm, w_rev, w_sortIt, w_get2, w_callV,
  w_next, w_seq, w_drop, w_ret, w_retN, w_break, w_cont, w_ifS, w_asg, w_gname, w_gsub, w_gtup, w_gnil, w_gcons, w_par, w_setFld, w_while, w_for, w_items, w_range1, w_lc, w_def,
  der_int, der_bl, der_str, der_lst, der_frl, der_tup, der_dic, der_non, der_obj, der_raw, p_add, p_sub, p_mul, p_fdiv, p_mod, p_pow, p_neg, p_cmp, p_abs, p_min2, p_max2, p_eqI, p_notB, p_lenL, p_lenT, p_listL, newL_w, newLC_w, p_ixL, p_ixT,
  List.map_cons, List.map_nil, List.length_cons, List.length_nil, List.replicate_zero, List.replicate_succ, List.replicate, List.cons_append, List.nil_append, List.append_nil, List.getElem?_cons_zero, List.getElem?_cons_succ, List.set_cons_zero, List.set_cons_succ,
  List.zip_cons_cons, List.zip_nil_left, List.zip_nil_right, List.foldl_cons, List.foldl_nil, Nat.reduceAdd, Nat.reduceSub, Nat.zero_add, Nat.add_zero, Nat.reduceLeDiff, true_and, and_true, if_true, Bool.false_eq_true, if_false, der_c0, der_pair]
        have el : lookD (.dic (ks.map encI)) (.int (fp n s).1) = some ((valI (fp n s).1 ks).map D.int) := by
          show some (valD (ks.map encI) (Sum.inl (fp n s).1)) = _
          rw [valI_enc]
        rw [el]
        have eg : ((valI (fp n s).1 ks).map D.int).getD (.int (fp n s).2) = .int ((valI (fp n s).1 ks).getD (fp n s).2) := by cases valI (fp n s).1 ks <;> with_unfolding_all rfl
        simp only [eg]
        try simp only [wr_ok, w_var, w_c, w_p, w_nil, w_cons, w_call, w_tup, w_lst, w_lstC, w_dicC, w_B, w_and, w_or, w_not, w_andV, w_orV, w_if, w_chain, w_fld, w_meth, w_make, w_bm, w_rev, w_sortIt, w_get2, w_callV,
  w_next, w_seq, w_drop, w_ret, w_retN, w_break, w_cont, w_ifS, w_asg, w_gname, w_gsub, w_gtup, w_gnil, w_gcons, w_par, w_setFld, w_while, w_for, w_items, w_range1, w_lc, w_def,
  der_int, der_bl, der_str, der_lst, der_frl, der_tup, der_dic, der_non, der_obj, der_raw, p_add, p_sub, p_mul, p_fdiv, p_mod, p_pow, p_neg, p_cmp, p_abs, p_min2, p_max2, p_eqI, p_notB, p_lenL, p_lenT, p_listL, newL_w, newLC_w, p_ixL, p_ixT,
  List.map_cons, List.map_nil, List.length_cons, List.length_nil, List.replicate_zero, List.replicate_succ, List.replicate, List.cons_append, List.nil_append, List.append_nil, List.getElem?_cons_zero, List.getElem?_cons_succ, List.set_cons_zero, List.set_cons_succ,
  List.zip_cons_cons, List.zip_nil_left, List.zip_nil_right, List.foldl_cons, List.foldl_nil, Nat.reduceAdd, Nat.reduceSub, Nat.zero_add, Nat.add_zero, Nat.reduceLeDiff, true_and, and_true, if_true, Bool.false_eq_true, if_false, p_setDC]
        have b' := b.step s
        have et : ss.take (i + 1) = ss.take i ++ [s] := by
          rw [List.take_add_one, e]; with_unfolding_all rfl
        rw [← et] at b'
        refine ⟨?_, _, _, _, _, ⟨rfl, ?_⟩, b'⟩
        · have h3 := b.len
          have h4 : (ss.take i).length ≤ ss.length := by rw [List.length_take]; omega
          rw [List.length_map]; unfold cap; omega
        · rw [putI_enc]
    · rintro δ σ ⟨ks, o1, o2, o3, ⟨rfl, rfl⟩, b⟩
      simp only [List.length_map, List.take_length] at b
      exact ⟨ks, o1, o2, o3, ⟨rfl, rfl⟩, b⟩
  rintro δ σ ⟨ks, o1, o2, o3, ⟨rfl, rfl⟩, b⟩
  have hkl : ks.length ≤ 100000 := Nat.le_trans b.len h2
  refine w_cut (fun δ σ => At δ σ [some (.int n), some sD, some (.cell τ.length), o1, o2, o3, some (.lst ((ks.mergeSort leII).map pairD)), none, none] (τ ++ [.dic (ks.map encI)])) (by try simp only [wr_ok, w_var, w_c, w_p, w_nil, w_cons, w_call, w_tup, w_lst, w_lstC, w_dicC, w_B, w_and, w_or, w_not, w_andV, w_orV, w_if, w_chain, w_fld, w_meth, w_make, w_bm, w_rev, w_sortIt, w_get2, w_callV,
  w_next, w_seq, w_drop, w_ret, w_retN, w_break, w_cont, w_ifS, w_asg, w_gname, w_gsub, w_gtup, w_gnil, w_gcons, w_par, w_setFld, w_while, w_for, w_items, w_range1, w_lc, w_def,
  der_int, der_bl, der_str, der_lst, der_frl, der_tup, der_dic, der_non, der_obj, der_raw, p_add, p_sub, p_mul, p_fdiv, p_mod, p_pow, p_neg, p_cmp, p_abs, p_min2, p_max2, p_eqI, p_notB, p_lenL, p_lenT, p_listL, newL_w, newLC_w, p_ixL, p_ixT,
  List.map_cons, List.map_nil, List.length_cons, List.length_nil, List.replicate_zero, List.replicate_succ, List.replicate, List.cons_append, List.nil_append, List.append_nil, List.getElem?_cons_zero, List.getElem?_cons_succ, List.set_cons_zero, List.set_cons_succ,
  List.zip_cons_cons, List.zip_nil_left, List.zip_nil_right, List.foldl_cons, List.foldl_nil, Nat.reduceAdd, Nat.reduceSub, Nat.zero_add, Nat.add_zero, Nat.reduceLeDiff, true_and, and_true, if_true, Bool.false_eq_true, if_false, p_sortIt]; exact ⟨by unfold cap; omega, rfl, rfl⟩) ?_
  rintro δ σ ⟨rfl, rfl⟩
  obtain ⟨x0, rest, er⟩ : ∃ x0 rest, ks.mergeSort leII = x0 :: rest := by
    cases e : ks.mergeSort leII with
    | cons x r => exact ⟨x, r, rfl⟩
    | nil =>
      exfalso
      have e2 : ks = [] := by
        have := congrArg List.length e
        rw [List.length_mergeSort] at this
        exact List.length_eq_zero_iff.mp (by simpa using this)
      obtain ⟨s, hs'⟩ := List.exists_mem_of_length_pos (show 0 < ss.length by omega)
      obtain ⟨q, hq, _⟩ := b.dom s hs'
      rw [e2] at hq; cases hq
  have up := sorted_up b.nd
  have hmem : ∀ x, x ∈ ks.mergeSort leII ↔ x ∈ ks := fun x => List.mem_mergeSort
  have hrl : (ks.mergeSort leII).length = ks.length := List.length_mergeSort _
  generalize ks.mergeSort leII = rows at er up hmem hrl ⊢
  generalize D.dic (ks.map encI) = bd
  generalize hσ : τ ++ [bd] = σ1
  refine w_cut (fun δ σ => At δ σ [some (.int n), some sD, some (.cell τ.length), o1, o2, o3, some (.lst (rows.map pairD)), some (.int (x0.2 + n)), some (.cell σ1.length)] (σ1 ++ [.lst (([] : List (Int × Int)).map pairD)])) ?_ ?_
  · rw [er]
    try simp only [wr_ok, w_var, w_c, w_p, w_nil, w_cons, w_call, w_tup, w_lst, w_lstC, w_dicC, w_B, w_and, w_or, w_not, w_andV, w_orV, w_if, w_chain, w_fld, w_meth, w_make, w_bm, w_rev, w_sortIt, w_get2, w_callV,
  w_next, w_seq, w_drop, w_ret, w_retN, w_break, w_cont, w_ifS, w_asg, w_gname, w_gsub, w_gtup, w_gnil, w_gcons, w_par, w_setFld, w_while, w_for, w_items, w_range1, w_lc, w_def,
  der_int, der_bl, der_str, der_lst, der_frl, der_tup, der_dic, der_non, der_obj, der_raw, p_add, p_sub, p_mul, p_fdiv, p_mod, p_pow, p_neg, p_cmp, p_abs, p_min2, p_max2, p_eqI, p_notB, p_lenL, p_lenT, p_listL, newL_w, newLC_w, p_ixL, p_ixT,
  List.map_cons, List.map_nil, List.length_cons, List.length_nil, List.replicate_zero, List.replicate_succ, List.replicate, List.cons_append, List.nil_append, List.append_nil, List.getElem?_cons_zero, List.getElem?_cons_succ, List.set_cons_zero, List.set_cons_succ,
  List.zip_cons_cons, List.zip_nil_left, List.zip_nil_right, List.foldl_cons, List.foldl_nil, Nat.reduceAdd, Nat.reduceSub, Nat.zero_add, Nat.add_zero, Nat.reduceLeDiff, true_and, and_true, if_true, Bool.false_eq_true, if_false, atI_zero, ix_pair1]
    exact ⟨rfl, rfl⟩
  rintro δ σ ⟨rfl, rfl⟩
  have hx0 : x0 ∈ rows := by rw [er]; exact List.mem_cons_self
  refine w_cut (fun δ σ => ∃ K L o1 o2 o3, At δ σ [some (.int n), some sD, some (.cell τ.length), o1, o2, o3, some (.lst (rows.map pairD)), some (.int L), some (.cell σ1.length)] (σ1 ++ [.lst (K.map pairD)]) ∧ Cut n rows K ∧ K.length ≤ ks.length) ?_ ?_
  · try simp only [wr_ok, w_var, w_c, w_p, w_nil, w_cons, w_call, w_tup, w_lst, w_lstC, w_dicC, w_B, w_and, w_or, w_not, w_andV, w_orV, w_if, w_chain, w_fld, w_meth, w_make, w_bm, w_rev, w_sortIt, w_get2, w_callV,
  w_next, w_seq, w_drop, w_ret, w_retN, w_break, w_cont, w_ifS, w_asg, w_gname, w_gsub, w_gtup, w_gnil, w_gcons, w_par, w_setFld, w_while, w_for, w_items, w_range1, w_lc, w_def,
  der_int, der_bl, der_str, der_lst, der_frl, der_tup, der_dic, der_non, der_obj, der_raw, p_add, p_sub, p_mul, p_fdiv, p_mod, p_pow, p_neg, p_cmp, p_abs, p_min2, p_max2, p_eqI, p_notB, p_lenL, p_lenT, p_listL, newL_w, newLC_w, p_ixL, p_ixT,
  List.map_cons, List.map_nil, List.length_cons, List.length_nil, List.replicate_zero, List.replicate_succ, List.replicate, List.cons_append, List.nil_append, List.append_nil, List.getElem?_cons_zero, List.getElem?_cons_succ, List.set_cons_zero, List.set_cons_succ,
  List.zip_cons_cons, List.zip_nil_left, List.zip_nil_right, List.foldl_cons, List.foldl_nil, Nat.reduceAdd, Nat.reduceSub, Nat.zero_add, Nat.add_zero, Nat.reduceLeDiff, true_and, and_true, if_true, Bool.false_eq_true, if_false]
    rw [← List.map_reverse]
    have dn : rows.reverse.Pairwise fun a b => b.1 < a.1 := by rw [List.pairwise_reverse]; exact up
    refine w_forI (fun i δ σ => ∃ K L o1 o2 o3, At δ σ [some (.int n), some sD, some (.cell τ.length), o1, o2, o3, some (.lst (rows.map pairD)), some (.int L), some (.cell σ1.length)] (σ1 ++ [.lst (K.map pairD)]) ∧ Kept n x0.2 (rows.reverse.take i) K L)
      ⟨[], _, o1, o2, o3, ⟨rfl, rfl⟩, by simp, by simp, .inl ⟨rfl, rfl⟩, by simp, Int.le_refl _, by simp, by simp⟩ ?_ ?_
    · rintro i y δ σ hi ⟨K, L, o1, o2, o3, ⟨rfl, rfl⟩, kp⟩
      rw [List.getElem?_map] at hi
      cases e : rows.reverse[i]? with
      | none => rw [e] at hi; cases hi
      | some x =>
        rw [e] at hi
        cases hi
        have et : rows.reverse.take (i + 1) = rows.reverse.take i ++ [x] := by
          rw [List.take_add_one, e]; with_unfolding_all rfl
        have hx : ∀ k ∈ rows.reverse.take i, x.1 < k.1 := fun k hk => by
          have h1 : rows.reverse = rows.reverse.take i ++ rows.reverse.drop i := (List.take_append_drop _ _).symm
          rw [h1, List.pairwise_append] at dn
          refine dn.2.2 k hk x ?_
          have : x ∈ rows.reverse.drop i := List.mem_of_getElem? (i := 0) (by rw [List.getElem?_drop]; simpa using e)
          exact this
        try simp only [wr_ok, w_var, w_c, w_p, w_nil, w_cons, w_call, w_tup, w_lst, w_lstC, w_dicC, w_B, w_and, w_or, w_not, w_andV, w_orV, w_if, w_chain, w_fld, w_meth, w_make, w_bm, w_rev, w_sortIt, w_get2, w_callV,
  w_next, w_seq, w_drop, w_ret, w_retN, w_break, w_cont, w_ifS, w_asg, w_gname, w_gsub, w_gtup, w_gnil, w_gcons, w_par, w_setFld, w_while, w_for, w_items, w_range1, w_lc, w_def,
  der_int, der_bl, der_str, der_lst, der_frl, der_tup, der_dic, der_non, der_obj, der_raw, p_add, p_sub, p_mul, p_fdiv, p_mod, p_pow, p_neg, p_cmp, p_abs, p_min2, p_max2, p_eqI, p_notB, p_lenL, p_lenT, p_listL, newL_w, newLC_w, p_ixL, p_ixT,
  List.map_cons, List.map_nil, List.length_cons, List.length_nil, List.replicate_zero, List.replicate_succ, List.replicate, List.cons_append, List.nil_append, List.append_nil, List.getElem?_cons_zero, List.getElem?_cons_succ, List.set_cons_zero, List.set_cons_succ,
  List.zip_cons_cons, List.zip_nil_left, List.zip_nil_right, List.foldl_cons, List.foldl_nil, Nat.reduceAdd, Nat.reduceSub, Nat.zero_add, Nat.add_zero, Nat.reduceLeDiff, true_and, and_true, if_true, Bool.false_eq_true, if_false, der_pair]
        split
        · rename_i hlt
          have hlt : x.2 < L := by simpa using hlt
          try simp only [wr_ok, w_var, w_c, w_p, w_nil, w_cons, w_call, w_tup, w_lst, w_lstC, w_dicC, w_B, w_and, w_or, w_not, w_andV, w_orV, w_if, w_chain, w_fld, w_meth, w_make, w_bm, w_rev, w_sortIt, w_get2, w_callV,
  w_next, w_seq, w_drop, w_ret, w_retN, w_break, w_cont, w_ifS, w_asg, w_gname, w_gsub, w_gtup, w_gnil, w_gcons, w_par, w_setFld, w_while, w_for, w_items, w_range1, w_lc, w_def,
  der_int, der_bl, der_str, der_lst, der_frl, der_tup, der_dic, der_non, der_obj, der_raw, p_add, p_sub, p_mul, p_fdiv, p_mod, p_pow, p_neg, p_cmp, p_abs, p_min2, p_max2, p_eqI, p_notB, p_lenL, p_lenT, p_listL, newL_w, newLC_w, p_ixL, p_ixT,
  List.map_cons, List.map_nil, List.length_cons, List.length_nil, List.replicate_zero, List.replicate_succ, List.replicate, List.cons_append, List.nil_append, List.append_nil, List.getElem?_cons_zero, List.getElem?_cons_succ, List.set_cons_zero, List.set_cons_succ,
  List.zip_cons_cons, List.zip_nil_left, List.zip_nil_right, List.foldl_cons, List.foldl_nil, Nat.reduceAdd, Nat.reduceSub, Nat.zero_add, Nat.add_zero, Nat.reduceLeDiff, true_and, and_true, if_true, Bool.false_eq_true, if_false, der_c0, isT_lst, p_append0]
          refine ⟨?_, K ++ [x], x.2, _, _, _, ⟨rfl, ?_⟩, ?_⟩
          · have h3 := kp.len
            have h4 : (rows.reverse.take i).length ≤ rows.length := by rw [List.length_take, List.length_reverse]; omega
            rw [List.length_map]; unfold cap; omega
          · rw [List.map_append]; with_unfolding_all rfl
          · rw [et]; exact kp.take hx hlt
        · rename_i hlt
          have hlt : ¬ x.2 < L := by simpa using hlt
          refine ⟨K, L, _, _, _, ⟨rfl, rfl⟩, ?_⟩
          rw [et]; exact kp.skip hx hlt
    · rintro δ σ ⟨K, L, o1, o2, o3, ⟨rfl, rfl⟩, kp⟩
      rw [List.length_map, List.take_length] at kp
      refine ⟨K, L, o1, o2, o3, ⟨rfl, rfl⟩, kp.cut n1 hx0, ?_⟩
      have := kp.len
      rw [List.length_reverse] at this
      omega
  rintro δ σ ⟨K, L, o1, o2, o3, ⟨rfl, rfl⟩, ct, hl⟩
  refine w_cut (fun δ σ => ∃ K : List (Int × Int), At δ σ [some (.int n), some sD, some (.cell τ.length), o1, o2, o3, some (.lst (rows.map pairD)), some (.int L), some (.cell σ1.length)] (σ1 ++ [.lst (K.map pairD)]) ∧ Rows n ss K.reverse) ?_ ?_
  · rw [w_while]
    have F : K.length < FUEL := by
      have : K.length ≤ 100000 := by omega
      exact Nat.lt_of_le_of_lt this (by unfold FUEL; decide)
    refine w_whileI (fun m δ σ => ∃ K : List (Int × Int), At δ σ [some (.int n), some sD, some (.cell τ.length), o1, o2, o3, some (.lst (rows.map pairD)), some (.int L), some (.cell σ1.length)] (σ1 ++ [.lst (K.map pairD)]) ∧ Cut n rows K ∧ K.length ≤ ks.length ∧ m = K.length) K.length F ⟨K, ⟨rfl, rfl⟩, ct, hl, rfl⟩ ?_
    rintro m δ σ ⟨K, ⟨rfl, rfl⟩, ct, hl, rfl⟩
    cases K with
    | nil => exact absurd rfl ct.ne
    | cons k0 K =>
      obtain ⟨kl, ekl⟩ : ∃ kl, (k0 :: K).getLast? = some kl := ⟨_, List.getLast?_eq_getLast (by simp)⟩
      have e1 : atI (pairD k0 :: K.map pairD) 0 = some (pairD k0) := atI_zero
      have e2 : atI (pairD k0 :: K.map pairD) (-1) = some (pairD kl) := atI_last (by rw [← List.map_cons, List.getLast?_map, ekl]; rfl)
      try simp only [wr_ok, w_var, w_c, w_p, w_nil, w_cons, w_call, w_tup, w_lst, w_lstC, w_dicC, w_B, w_and, w_or, w_not, w_andV, w_orV, w_if, w_chain, w_fld, w_meth, w_make, w_bm, w_rev, w_sortIt, w_get2, w_callV,
  w_next, w_seq, w_drop, w_ret, w_retN, w_break, w_cont, w_ifS, w_asg, w_gname, w_gsub, w_gtup, w_gnil, w_gcons, w_par, w_setFld, w_while, w_for, w_items, w_range1, w_lc, w_def,
  der_int, der_bl, der_str, der_lst, der_frl, der_tup, der_dic, der_non, der_obj, der_raw, p_add, p_sub, p_mul, p_fdiv, p_mod, p_pow, p_neg, p_cmp, p_abs, p_min2, p_max2, p_eqI, p_notB, p_lenL, p_lenT, p_listL, newL_w, newLC_w, p_ixL, p_ixT,
  List.map_cons, List.map_nil, List.length_cons, List.length_nil, List.replicate_zero, List.replicate_succ, List.replicate, List.cons_append, List.nil_append, List.append_nil, List.getElem?_cons_zero, List.getElem?_cons_succ, List.set_cons_zero, List.set_cons_succ,
  List.zip_cons_cons, List.zip_nil_left, List.zip_nil_right, List.foldl_cons, List.foldl_nil, Nat.reduceAdd, Nat.reduceSub, Nat.zero_add, Nat.add_zero, Nat.reduceLeDiff, true_and, and_true, if_true, Bool.false_eq_true, if_false, p_ixC, e1, e2, ix_pair1]
      split
      · rename_i hc
        have hc : kl.2 + n ≤ k0.2 := by simpa using hc
        try simp only [wr_ok, w_var, w_c, w_p, w_nil, w_cons, w_call, w_tup, w_lst, w_lstC, w_dicC, w_B, w_and, w_or, w_not, w_andV, w_orV, w_if, w_chain, w_fld, w_meth, w_make, w_bm, w_rev, w_sortIt, w_get2, w_callV,
  w_next, w_seq, w_drop, w_ret, w_retN, w_break, w_cont, w_ifS, w_asg, w_gname, w_gsub, w_gtup, w_gnil, w_gcons, w_par, w_setFld, w_while, w_for, w_items, w_range1, w_lc, w_def,
  der_int, der_bl, der_str, der_lst, der_frl, der_tup, der_dic, der_non, der_obj, der_raw, p_add, p_sub, p_mul, p_fdiv, p_mod, p_pow, p_neg, p_cmp, p_abs, p_min2, p_max2, p_eqI, p_notB, p_lenL, p_lenT, p_listL, newL_w, newLC_w, p_ixL, p_ixT,
  List.map_cons, List.map_nil, List.length_cons, List.length_nil, List.replicate_zero, List.replicate_succ, List.replicate, List.cons_append, List.nil_append, List.append_nil, List.getElem?_cons_zero, List.getElem?_cons_succ, List.set_cons_zero, List.set_cons_succ,
  List.zip_cons_cons, List.zip_nil_left, List.zip_nil_right, List.foldl_cons, List.foldl_nil, Nat.reduceAdd, Nat.reduceSub, Nat.zero_add, Nat.add_zero, Nat.reduceLeDiff, true_and, and_true, if_true, Bool.false_eq_true, if_false, der_c0, isT_lst, p_pop0]
        exact ⟨K.length, by simp, K, ⟨rfl, rfl⟩, ct.pop n1 ekl hc, by simp at hl; omega, rfl⟩
      · rename_i hc
        have hc : ¬ kl.2 + n ≤ k0.2 := by simpa using hc
        exact ⟨k0 :: K, ⟨rfl, rfl⟩, ct.rows n1 b hmem ekl hc (Nat.le_trans hl b.len)⟩
  rintro δ σ ⟨K, ⟨rfl, rfl⟩, R⟩
  try simp only [wr_ok, w_var, w_c, w_p, w_nil, w_cons, w_call, w_tup, w_lst, w_lstC, w_dicC, w_B, w_and, w_or, w_not, w_andV, w_orV, w_if, w_chain, w_fld, w_meth, w_make, w_bm, w_rev, w_sortIt, w_get2, w_callV,
  w_next, w_seq, w_drop, w_ret, w_retN, w_break, w_cont, w_ifS, w_asg, w_gname, w_gsub, w_gtup, w_gnil, w_gcons, w_par, w_setFld, w_while, w_for, w_items, w_range1, w_lc, w_def,
  der_int, der_bl, der_str, der_lst, der_frl, der_tup, der_dic, der_non, der_obj, der_raw, p_add, p_sub, p_mul, p_fdiv, p_mod, p_pow, p_neg, p_cmp, p_abs, p_min2, p_max2, p_eqI, p_notB, p_lenL, p_lenT, p_listL, newL_w, newLC_w, p_ixL, p_ixT,
  List.map_cons, List.map_nil, List.length_cons, List.length_nil, List.replicate_zero, List.replicate_succ, List.replicate, List.cons_append, List.nil_append, List.append_nil, List.getElem?_cons_zero, List.getElem?_cons_succ, List.set_cons_zero, List.set_cons_succ,
  List.zip_cons_cons, List.zip_nil_left, List.zip_nil_right, List.foldl_cons, List.foldl_nil, Nat.reduceAdd, Nat.reduceSub, Nat.zero_add, Nat.add_zero, Nat.reduceLeDiff, true_and, and_true, if_true, Bool.false_eq_true, if_false, der_c0]
  rw [← List.map_reverse]
  refine ⟨pla_pairs _, ?_, ?_⟩
  · rw [← hσ, List.append_assoc]; exact older_self _
  · rw [← hσ, List.append_assoc, List.take_left']
    · exact Q _ R
    · rfl
end
end DL

namespace DL
open PySem L2
/-! ### the plain law of values -/
structure IsVal (n : Int) (rows : List (Int × Int)) (t v : Int) : Prop where
  ex : ∃ k ∈ rows, ∃ q : Int, t ≤ k.1 + q * n ∧ v = k.2 + q * n
  le : ∀ k ∈ rows, ∀ q : Int, t ≤ k.1 + q * n → v ≤ k.2 + q * n
theorem IsVal.uniq {n t v u : Int} {rows : List (Int × Int)} (a : IsVal n rows t v) (b : IsVal n rows t u) : v = u := by
  obtain ⟨k, hk, q, h1, h2⟩ := a.ex
  obtain ⟨k', hk', q', h1', h2'⟩ := b.ex
  have := a.le k' hk' q' h1'
  have := b.le k hk q h1
  omega
theorem IsVal.mono {n s t v u : Int} {rows : List (Int × Int)} (a : IsVal n rows s v) (b : IsVal n rows t u) (h : s ≤ t) : v ≤ u := by
  obtain ⟨k, hk, q, h1, h2⟩ := b.ex
  have := a.le k hk q (by omega)
  omega
theorem IsVal.shift {n t v : Int} {rows : List (Int × Int)} (a : IsVal n rows t v) (j : Int) : IsVal n rows (t + j * n) (v + j * n) := by
  obtain ⟨k, hk, q, h1, h2⟩ := a.ex
  refine ⟨⟨k, hk, q + j, ?_, ?_⟩, fun k hk q h => ?_⟩
  · rw [Int.add_mul]; omega
  · rw [Int.add_mul]; omega
  · have := a.le k hk (q - j) (by rw [Int.sub_mul]; omega)
    rw [Int.sub_mul] at this; omega
theorem mul_up {n q T : Int} (hn : 1 ≤ n) (h : T + 1 ≤ q) : T * n + n ≤ q * n := by
  have := Int.mul_le_mul_of_nonneg_right h (show 0 ≤ n by omega)
  rw [Int.add_mul, Int.one_mul] at this; exact this
/-- the rows by their places -/
theorem Rows.at {n : Int} {ss rows : List (Int × Int)} (R : Rows n ss rows) {i j : Nat} (hi : i < rows.length) (hj : j < rows.length) (h : i < j) : rows[i].1 < rows[j].1 ∧ rows[i].2 < rows[j].2 :=
  List.pairwise_iff_getElem.mp R.up i j hi hj h
theorem Rows.atle {n : Int} {ss rows : List (Int × Int)} (R : Rows n ss rows) {i j : Nat} (hi : i < rows.length) (hj : j < rows.length) (h : i ≤ j) : rows[i].1 ≤ rows[j].1 ∧ rows[i].2 ≤ rows[j].2 := by
  rcases Nat.lt_or_eq_of_le h with h | h
  · have := R.at hi hj h; omega
  · subst h; omega
/-- the first row at or behind a time within the period -/
theorem Rows.val {n : Int} {ss rows : List (Int × Int)} (R : Rows n ss rows) (hn : 1 ≤ n) {t T o : Int} (et : t = T * n + o) (o0 : 0 ≤ o) (o1 : o < n) {i : Nat} (hi : i < rows.length) (h1 : ∀ j (h : j < rows.length), j < i → rows[j].1 < o) (h2 : o ≤ rows[i].1) : IsVal n rows t (rows[i].2 + T * n) := by
  refine ⟨⟨rows[i], List.getElem_mem hi, T, by omega, rfl⟩, fun k hk q h => ?_⟩
  obtain ⟨j, hj, rfl⟩ := List.getElem_of_mem hk
  have r := R.rng _ hk
  by_cases c : T + 1 ≤ q
  · have := mul_up hn c
    have := R.wrap _ hk _ (List.getElem_mem hi)
    omega
  · by_cases c2 : q + 1 ≤ T
    · have := mul_up hn c2; omega
    · have e : q = T := by omega
      subst e
      have hij : i ≤ j := by
        apply Nat.le_of_not_lt
        intro hlt
        have := h1 j hj hlt
        omega
      have := R.atle hi hj hij
      omega
theorem Rows.valW {n : Int} {ss rows : List (Int × Int)} (R : Rows n ss rows) (hn : 1 ≤ n) {t T o : Int} (et : t = T * n + o) (o0 : 0 ≤ o) (o1 : o < n) (h0 : 0 < rows.length) (h1 : ∀ j (h : j < rows.length), rows[j].1 < o) : IsVal n rows t (rows[0].2 + (T + 1) * n) := by
  have r0 := R.rng _ (List.getElem_mem h0)
  have e1 : (T + 1) * n = T * n + n := by rw [Int.add_mul, Int.one_mul]
  refine ⟨⟨rows[0], List.getElem_mem h0, T + 1, by omega, rfl⟩, fun k hk q h => ?_⟩
  obtain ⟨j, hj, rfl⟩ := List.getElem_of_mem hk
  have r := R.rng _ hk
  by_cases c : T + 1 + 1 ≤ q
  · have := mul_up hn c
    have := R.wrap _ hk _ (List.getElem_mem h0)
    omega
  · by_cases c2 : q ≤ T
    · have := h1 j hj
      have := Int.mul_le_mul_of_nonneg_right c2 (show 0 ≤ n by omega)
      omega
    · have e : q = T + 1 := by omega
      subst e
      have := R.atle h0 hj (Nat.zero_le _)
      omega
theorem Rows.flat {n : Int} {ss rows : List (Int × Int)} (R : Rows n ss rows) (hn : 1 ≤ n) {i : Nat} (hi : i < rows.length) {b t : Int} (hb : (0 < i ∧ ∃ h : i - 1 < rows.length, b = (rows[i - 1]'h).1) ∨ (i = 0 ∧ ∃ h : rows.length - 1 < rows.length, b = (rows[rows.length - 1]'h).1 - n)) (h1 : b < t) (h2 : t ≤ rows[i].1) : IsVal n rows t rows[i].2 := by
  refine ⟨⟨rows[i], List.getElem_mem hi, 0, by omega, by omega⟩, fun k hk q h => ?_⟩
  obtain ⟨j, hj, rfl⟩ := List.getElem_of_mem hk
  have r := R.rng _ hk
  by_cases c : 0 + 1 ≤ q
  · have := mul_up hn c
    have := R.wrap _ hk _ (List.getElem_mem hi)
    omega
  · by_cases c2 : q + 1 ≤ 0
    · have := mul_up hn c2
      rcases hb with ⟨z, hh, rfl⟩ | ⟨z, hh, rfl⟩
      · have := R.rng _ (List.getElem_mem hh); omega
      · have := R.atle hj hh (by omega); omega
    · have e : q = 0 := by omega
      subst e
      have hij : i ≤ j := by
        rcases hb with ⟨z, hh, rfl⟩ | ⟨z, hh, rfl⟩
        · apply Nat.le_of_not_lt
          intro hlt
          have := R.atle hj hh (by omega)
          omega
        · omega
      have := R.atle hi hj hij
      omega
theorem Rows.after {n : Int} {ss rows : List (Int × Int)} (R : Rows n ss rows) (hn : 1 ≤ n) {i : Nat} (hi : i < rows.length) {v : Int} (a : IsVal n rows (rows[i].1 + 1) v) : rows[i].2 < v := by
  obtain ⟨k, hk, q, h1, h2⟩ := a.ex
  obtain ⟨j, hj, rfl⟩ := List.getElem_of_mem hk
  have r := R.rng _ hk
  have ri := R.rng _ (List.getElem_mem hi)
  by_cases c : 0 + 1 ≤ q
  · have := mul_up hn c
    have := R.wrap _ hk _ (List.getElem_mem hi)
    omega
  · by_cases c2 : q + 1 ≤ 0
    · have := mul_up hn c2; omega
    · have e : q = 0 := by omega
      subst e
      have hij : i < j := by
        apply Nat.lt_of_not_le
        intro hle
        have := R.atle hj hi hle
        omega
      have := R.at hi hj hij
      omega
/-! ### the methods -/
section
variable {τ : List D} {Φ : D → List D → Prop} {v n : Int}
theorem p_isInt : WR (pIsI [.int v, .raw (.ty "int")] τ) Φ = Φ (.bl true) τ := (by with_unfolding_all rfl)
theorem p_isBool : WR (pIsI [.int v, .raw (.ty "bool")] τ) Φ = Φ (.bl false) τ := (by with_unfolding_all rfl)
theorem p_isTup {xs : List D} : WR (pIsI [.tup xs, .raw (.ty "tuple")] τ) Φ = Φ (.bl true) τ := (by with_unfolding_all rfl)
theorem p_isLT {xs : List D} : WR (pIsI [.lst xs, .tup [.raw (.ty "list"), .raw (.ty "tuple")]] τ) Φ = Φ (.bl true) τ := (by with_unfolding_all rfl)
theorem p_isTT {xs : List D} : WR (pIsI [.tup xs, .tup [.raw (.ty "list"), .raw (.ty "tuple")]] τ) Φ = Φ (.bl true) τ := (by with_unfolding_all rfl)
theorem int_in_then {lo hi : Int} : WR (m_is_int_in [.int v, .int lo, .int hi] τ) Φ = Φ (.bl (decide (lo ≤ v ∧ v ≤ hi))) τ := by
  unfold m_is_int_in b_is_int_in m_is_int b_is_int
  try simp only [wr_ok, w_var, w_c, w_p, w_nil, w_cons, w_call, w_tup, w_lst, w_lstC, w_dicC, w_B, w_and, w_or, w_not, w_andV, w_orV, w_if, w_chain, w_fld, w_meth, w_make, w_bm, w_rev, w_sortIt, w_get2, w_callV,
  w_next, w_seq, w_drop, w_ret, w_retN, w_break, w_cont, w_ifS, w_asg, w_gname, w_gsub, w_gtup, w_gnil, w_gcons, w_par, w_setFld, w_while, w_for, w_items, w_range1, w_lc, w_yes, w_def,
  der_int, der_bl, der_str, der_lst, der_frl, der_tup, der_dic, der_non, der_obj, der_raw, p_add, p_sub, p_mul, p_fdiv, p_mod, p_pow, p_neg, p_cmp, p_abs, p_min2, p_max2, p_eqI, p_notB, p_lenL, p_lenT, p_listL, newL_w, newLC_w, p_ixL, p_ixT,
  List.map_cons, List.map_nil, List.length_cons, List.length_nil, List.replicate_zero, List.replicate_succ, List.replicate, List.cons_append, List.nil_append, List.append_nil, List.getElem?_cons_zero, List.getElem?_cons_succ, List.set_cons_zero, List.set_cons_succ,
  List.zip_cons_cons, List.zip_nil_left, List.zip_nil_right, List.foldl_cons, List.foldl_nil, Nat.reduceAdd, Nat.reduceSub, Nat.zero_add, Nat.add_zero, Nat.reduceLeDiff, true_and, and_true, if_true, Bool.false_eq_true, if_false, p_isInt, p_isBool, Bool.not_false]
  by_cases h : lo ≤ v
  · simp [h]
  · simp [h]
theorem blsOf_true : ∀ k : Nat, blsOf τ (List.replicate k (.bl true)) = some (List.replicate k true)
  | 0 => rfl
  | k + 1 => by
    rw [List.replicate_succ, List.replicate_succ]
    unfold blsOf
    rw [blsOf_true k]; with_unfolding_all rfl
theorem p_allT {xs : List D} : WR (pAll [.lst (xs.map fun _ => D.bl true)] τ) Φ = Φ (.bl true) τ := by
  have e : blsOf τ (xs.map fun _ => D.bl true) = some (List.replicate xs.length true) := by
    rw [show (xs.map fun _ => D.bl true) = List.replicate xs.length (.bl true) by simp [List.map_const']]
    exact blsOf_true _
  unfold pAll
  simp only [der_lst, e]
  have : (List.replicate xs.length true).all id = true := by simp
  rw [this]; with_unfolding_all rfl
theorem service_then {s : Int × Int} (h : (-10 ^ 30 ≤ s.1 ∧ s.1 ≤ 10 ^ 30) ∧ -10 ^ 30 ≤ s.2 ∧ s.2 ≤ 10 ^ 30) (K : Φ (.bl true) τ) : WR (m_is_service [pairD s] τ) Φ := by
  unfold m_is_service b_is_service pairD
  try simp only [wr_ok, w_var, w_c, w_p, w_nil, w_cons, w_call, w_tup, w_lst, w_lstC, w_dicC, w_B, w_and, w_or, w_not, w_andV, w_orV, w_if, w_chain, w_fld, w_meth, w_make, w_bm, w_rev, w_sortIt, w_get2, w_callV,
  w_next, w_seq, w_drop, w_ret, w_retN, w_break, w_cont, w_ifS, w_asg, w_gname, w_gsub, w_gtup, w_gnil, w_gcons, w_par, w_setFld, w_while, w_for, w_items, w_range1, w_lc, w_yes, w_def,
  der_int, der_bl, der_str, der_lst, der_frl, der_tup, der_dic, der_non, der_obj, der_raw, p_add, p_sub, p_mul, p_fdiv, p_mod, p_pow, p_neg, p_cmp, p_abs, p_min2, p_max2, p_eqI, p_notB, p_lenL, p_lenT, p_listL, newL_w, newLC_w, p_ixL, p_ixT,
  List.map_cons, List.map_nil, List.length_cons, List.length_nil, List.replicate_zero, List.replicate_succ, List.replicate, List.cons_append, List.nil_append, List.append_nil, List.getElem?_cons_zero, List.getElem?_cons_succ, List.set_cons_zero, List.set_cons_succ,
  List.zip_cons_cons, List.zip_nil_left, List.zip_nil_right, List.foldl_cons, List.foldl_nil, Nat.reduceAdd, Nat.reduceSub, Nat.zero_add, Nat.add_zero, Nat.reduceLeDiff, true_and, and_true, if_true, Bool.false_eq_true, if_false, p_isTup, Bool.not_true]
  refine ⟨by unfold cap; decide, ?_⟩
  refine w_lcmap (F := fun _ => .bl true) ?_ ?_
  · intro x hx
    simp only [List.mem_cons, List.not_mem_nil, or_false] at hx
    rcases hx with rfl | rfl
    · try simp only [wr_ok, w_var, w_c, w_p, w_nil, w_cons, w_call, w_tup, w_lst, w_lstC, w_dicC, w_B, w_and, w_or, w_not, w_andV, w_orV, w_if, w_chain, w_fld, w_meth, w_make, w_bm, w_rev, w_sortIt, w_get2, w_callV,
  w_next, w_seq, w_drop, w_ret, w_retN, w_break, w_cont, w_ifS, w_asg, w_gname, w_gsub, w_gtup, w_gnil, w_gcons, w_par, w_setFld, w_while, w_for, w_items, w_range1, w_lc, w_yes, w_def,
  der_int, der_bl, der_str, der_lst, der_frl, der_tup, der_dic, der_non, der_obj, der_raw, p_add, p_sub, p_mul, p_fdiv, p_mod, p_pow, p_neg, p_cmp, p_abs, p_min2, p_max2, p_eqI, p_notB, p_lenL, p_lenT, p_listL, newL_w, newLC_w, p_ixL, p_ixT,
  List.map_cons, List.map_nil, List.length_cons, List.length_nil, List.replicate_zero, List.replicate_succ, List.replicate, List.cons_append, List.nil_append, List.append_nil, List.getElem?_cons_zero, List.getElem?_cons_succ, List.set_cons_zero, List.set_cons_succ,
  List.zip_cons_cons, List.zip_nil_left, List.zip_nil_right, List.foldl_cons, List.foldl_nil, Nat.reduceAdd, Nat.reduceSub, Nat.zero_add, Nat.add_zero, Nat.reduceLeDiff, true_and, and_true, if_true, Bool.false_eq_true, if_false, int_in_then, wipeD]
      rw [decide_eq_true (by exact h.1)]
    · try simp only [wr_ok, w_var, w_c, w_p, w_nil, w_cons, w_call, w_tup, w_lst, w_lstC, w_dicC, w_B, w_and, w_or, w_not, w_andV, w_orV, w_if, w_chain, w_fld, w_meth, w_make, w_bm, w_rev, w_sortIt, w_get2, w_callV,
  w_next, w_seq, w_drop, w_ret, w_retN, w_break, w_cont, w_ifS, w_asg, w_gname, w_gsub, w_gtup, w_gnil, w_gcons, w_par, w_setFld, w_while, w_for, w_items, w_range1, w_lc, w_yes, w_def,
  der_int, der_bl, der_str, der_lst, der_frl, der_tup, der_dic, der_non, der_obj, der_raw, p_add, p_sub, p_mul, p_fdiv, p_mod, p_pow, p_neg, p_cmp, p_abs, p_min2, p_max2, p_eqI, p_notB, p_lenL, p_lenT, p_listL, newL_w, newLC_w, p_ixL, p_ixT,
  List.map_cons, List.map_nil, List.length_cons, List.length_nil, List.replicate_zero, List.replicate_succ, List.replicate, List.cons_append, List.nil_append, List.append_nil, List.getElem?_cons_zero, List.getElem?_cons_succ, List.set_cons_zero, List.set_cons_succ,
  List.zip_cons_cons, List.zip_nil_left, List.zip_nil_right, List.foldl_cons, List.foldl_nil, Nat.reduceAdd, Nat.reduceSub, Nat.zero_add, Nat.add_zero, Nat.reduceLeDiff, true_and, and_true, if_true, Bool.false_eq_true, if_false, int_in_then, wipeD]
      rw [decide_eq_true (by exact h.2)]
  · rw [p_allT]; exact K
theorem are_services_then {ss : List (Int × Int)} {sD : D} (hsD : sD = .lst (ss.map pairD) ∨ sD = .tup (ss.map pairD)) {most least : Int} (h1 : least ≤ ss.length) (h2 : (ss.length : Int) ≤ most) (h3 : ss.length ≤ cap) (h : ∀ s ∈ ss, (-10 ^ 30 ≤ s.1 ∧ s.1 ≤ 10 ^ 30) ∧ -10 ^ 30 ≤ s.2 ∧ s.2 ≤ 10 ^ 30) (K : Φ (.bl true) τ) :
    WR (m_are_services [sD, .int most, .int least] τ) Φ := by
  unfold m_are_services b_are_services
  have e1 : least ≤ ((ss.map pairD).length : Int) := by simpa using h1
  have e2 : ((ss.map pairD).length : Int) ≤ most := by simpa using h2
  rw [w_def]
  refine w_cut (fun δ τ' => At δ τ' [some sD, some (.int most), some (.int least), none] τ) ?_ ?_
  · rcases hsD with rfl | rfl
    · try simp only [wr_ok, w_var, w_c, w_p, w_nil, w_cons, w_call, w_tup, w_lst, w_lstC, w_dicC, w_B, w_and, w_or, w_not, w_andV, w_orV, w_if, w_chain, w_fld, w_meth, w_make, w_bm, w_rev, w_sortIt, w_get2, w_callV,
  w_next, w_seq, w_drop, w_ret, w_retN, w_break, w_cont, w_ifS, w_asg, w_gname, w_gsub, w_gtup, w_gnil, w_gcons, w_par, w_setFld, w_while, w_for, w_items, w_range1, w_lc, w_yes, w_def,
  der_int, der_bl, der_str, der_lst, der_frl, der_tup, der_dic, der_non, der_obj, der_raw, p_add, p_sub, p_mul, p_fdiv, p_mod, p_pow, p_neg, p_cmp, p_abs, p_min2, p_max2, p_eqI, p_notB, p_lenL, p_lenT, p_listL, newL_w, newLC_w, p_ixL, p_ixT,
  List.map_cons, List.map_nil, List.length_cons, List.length_nil, List.replicate_zero, List.replicate_succ, List.replicate, List.cons_append, List.nil_append, List.append_nil, List.getElem?_cons_zero, List.getElem?_cons_succ, List.set_cons_zero, List.set_cons_succ,
  List.zip_cons_cons, List.zip_nil_left, List.zip_nil_right, List.foldl_cons, List.foldl_nil, Nat.reduceAdd, Nat.reduceSub, Nat.zero_add, Nat.add_zero, Nat.reduceLeDiff, true_and, and_true, if_true, Bool.false_eq_true, if_false, p_isLT, Bool.not_true, decide_eq_true e1, decide_eq_true e2]
      exact ⟨rfl, rfl⟩
    · try simp only [wr_ok, w_var, w_c, w_p, w_nil, w_cons, w_call, w_tup, w_lst, w_lstC, w_dicC, w_B, w_and, w_or, w_not, w_andV, w_orV, w_if, w_chain, w_fld, w_meth, w_make, w_bm, w_rev, w_sortIt, w_get2, w_callV,
  w_next, w_seq, w_drop, w_ret, w_retN, w_break, w_cont, w_ifS, w_asg, w_gname, w_gsub, w_gtup, w_gnil, w_gcons, w_par, w_setFld, w_while, w_for, w_items, w_range1, w_lc, w_yes, w_def,
  der_int, der_bl, der_str, der_lst, der_frl, der_tup, der_dic, der_non, der_obj, der_raw, p_add, p_sub, p_mul, p_fdiv, p_mod, p_pow, p_neg, p_cmp, p_abs, p_min2, p_max2, p_eqI, p_notB, p_lenL, p_lenT, p_listL, newL_w, newLC_w, p_ixL, p_ixT,
  List.map_cons, List.map_nil, List.length_cons, List.length_nil, List.replicate_zero, List.replicate_succ, List.replicate, List.cons_append, List.nil_append, List.append_nil, List.getElem?_cons_zero, List.getElem?_cons_succ, List.set_cons_zero, List.set_cons_succ,
  List.zip_cons_cons, List.zip_nil_left, List.zip_nil_right, List.foldl_cons, List.foldl_nil, Nat.reduceAdd, Nat.reduceSub, Nat.zero_add, Nat.add_zero, Nat.reduceLeDiff, true_and, and_true, if_true, Bool.false_eq_true, if_false, p_isTT, Bool.not_true, decide_eq_true e1, decide_eq_true e2]
      exact ⟨rfl, rfl⟩
  rintro δ σ ⟨rfl, rfl⟩
  rw [w_ret, w_p, w_cons, w_lc]
  refine items_of hsD rfl ?_
  try simp only [wr_ok, w_var, w_c, w_p, w_nil, w_cons, w_call, w_tup, w_lst, w_lstC, w_dicC, w_B, w_and, w_or, w_not, w_andV, w_orV, w_if, w_chain, w_fld, w_meth, w_make, w_bm, w_rev, w_sortIt, w_get2, w_callV,
  w_next, w_seq, w_drop, w_ret, w_retN, w_break, w_cont, w_ifS, w_asg, w_gname, w_gsub, w_gtup, w_gnil, w_gcons, w_par, w_setFld, w_while, w_for, w_items, w_range1, w_lc, w_yes, w_def,
  der_int, der_bl, der_str, der_lst, der_frl, der_tup, der_dic, der_non, der_obj, der_raw, p_add, p_sub, p_mul, p_fdiv, p_mod, p_pow, p_neg, p_cmp, p_abs, p_min2, p_max2, p_eqI, p_notB, p_lenL, p_lenT, p_listL, newL_w, newLC_w, p_ixL, p_ixT,
  List.map_cons, List.map_nil, List.length_cons, List.length_nil, List.replicate_zero, List.replicate_succ, List.replicate, List.cons_append, List.nil_append, List.append_nil, List.getElem?_cons_zero, List.getElem?_cons_succ, List.set_cons_zero, List.set_cons_succ,
  List.zip_cons_cons, List.zip_nil_left, List.zip_nil_right, List.foldl_cons, List.foldl_nil, Nat.reduceAdd, Nat.reduceSub, Nat.zero_add, Nat.add_zero, Nat.reduceLeDiff, true_and, and_true, if_true, Bool.false_eq_true, if_false]
  refine ⟨by simpa using h3, ?_⟩
  refine w_lcmap (F := fun _ => .bl true) ?_ ?_
  · intro x hx
    obtain ⟨s, hs, rfl⟩ := List.mem_map.mp hx
    try simp only [wr_ok, w_var, w_c, w_p, w_nil, w_cons, w_call, w_tup, w_lst, w_lstC, w_dicC, w_B, w_and, w_or, w_not, w_andV, w_orV, w_if, w_chain, w_fld, w_meth, w_make, w_bm, w_rev, w_sortIt, w_get2, w_callV,
  w_next, w_seq, w_drop, w_ret, w_retN, w_break, w_cont, w_ifS, w_asg, w_gname, w_gsub, w_gtup, w_gnil, w_gcons, w_par, w_setFld, w_while, w_for, w_items, w_range1, w_lc, w_yes, w_def,
  der_int, der_bl, der_str, der_lst, der_frl, der_tup, der_dic, der_non, der_obj, der_raw, p_add, p_sub, p_mul, p_fdiv, p_mod, p_pow, p_neg, p_cmp, p_abs, p_min2, p_max2, p_eqI, p_notB, p_lenL, p_lenT, p_listL, newL_w, newLC_w, p_ixL, p_ixT,
  List.map_cons, List.map_nil, List.length_cons, List.length_nil, List.replicate_zero, List.replicate_succ, List.replicate, List.cons_append, List.nil_append, List.append_nil, List.getElem?_cons_zero, List.getElem?_cons_succ, List.set_cons_zero, List.set_cons_succ,
  List.zip_cons_cons, List.zip_nil_left, List.zip_nil_right, List.foldl_cons, List.foldl_nil, Nat.reduceAdd, Nat.reduceSub, Nat.zero_add, Nat.add_zero, Nat.reduceLeDiff, true_and, and_true, if_true, Bool.false_eq_true, if_false, wipeD]
    exact service_then (h s hs) ⟨rfl, rfl⟩
  · rw [p_allT]; exact K
/-- a map as data -/
def mapF (n : Int) (rows : List (Int × Int)) : List (Str × D) := [("length", .int n), ("rows", .lst (rows.map pairD))]
theorem kf : ¬ (("length" : Str) = "rows") := by decide +kernel
theorem kf1 : (("length" : Str) == ("length" : Str)) = true := by decide +kernel
theorem kf2 : (("rows" : Str) == ("length" : Str)) = false := by decide +kernel
theorem kf3 : (("rows" : Str) == ("rows" : Str)) = true := by decide +kernel
theorem look_length {rows : List (Int × Int)} : lookF "length" (mapF n rows) = some (.int n) := by
  simp only [lookF, mapF, List.lookup_cons, kf1]
theorem look_rows {rows : List (Int × Int)} : lookF "rows" (mapF n rows) = some (.lst (rows.map pairD)) := by
  simp only [lookF, mapF, List.lookup_cons, kf2, kf3]
theorem pla_mapF {C : PySem.Addr} {rows : List (Int × Int)} : Pla (.obj C (mapF n rows)) := pla_obj fun d hd => by
  simp only [mapF, List.mem_cons, List.not_mem_nil, or_false] at hd
  rcases hd with rfl | rfl
  · exact pla_int _
  · exact pla_pairs _
structure Svs (ss : List (Int × Int)) : Prop where
  s1 : 1 ≤ ss.length
  s2 : ss.length ≤ 200
  sv : ∀ s ∈ ss, (-10 ^ 30 ≤ s.1 ∧ s.1 ≤ 10 ^ 30) ∧ -10 ^ 30 ≤ s.2 ∧ s.2 ≤ 10 ^ 30
theorem init_then {C : PySem.Addr} {ss : List (Int × Int)} {sD : D} (hsD : sD = .lst (ss.map pairD) ∨ sD = .tup (ss.map pairD)) (n1 : 1 ≤ n) (n2 : n ≤ 10 ^ 18) (hs : Svs ss) (K : ∀ rows, Rows n ss rows → Φ .non (τ ++ [.obj C (mapF n rows)])) :
    WR (m_StepMap_init C [.cell τ.length, .int n, sD] (τ ++ [.obj C []])) Φ := by
  unfold m_StepMap_init b_StepMap_init
  have e1 : (decide (1 ≤ n ∧ n ≤ 1000000000000000000)) = true := decide_eq_true ⟨n1, n2⟩
  try simp only [wr_ok, w_var, w_c, w_p, w_nil, w_cons, w_call, w_tup, w_lst, w_lstC, w_dicC, w_B, w_and, w_or, w_not, w_andV, w_orV, w_if, w_chain, w_fld, w_meth, w_make, w_bm, w_rev, w_sortIt, w_get2, w_callV,
  w_next, w_seq, w_drop, w_ret, w_retN, w_break, w_cont, w_ifS, w_asg, w_gname, w_gsub, w_gtup, w_gnil, w_gcons, w_par, w_setFld, w_while, w_for, w_items, w_range1, w_lc, w_yes, w_def,
  der_int, der_bl, der_str, der_lst, der_frl, der_tup, der_dic, der_non, der_obj, der_raw, p_add, p_sub, p_mul, p_fdiv, p_mod, p_pow, p_neg, p_cmp, p_abs, p_min2, p_max2, p_eqI, p_notB, p_lenL, p_lenT, p_listL, newL_w, newLC_w, p_ixL, p_ixT,
  List.map_cons, List.map_nil, List.length_cons, List.length_nil, List.replicate_zero, List.replicate_succ, List.replicate, List.cons_append, List.nil_append, List.append_nil, List.getElem?_cons_zero, List.getElem?_cons_succ, List.set_cons_zero, List.set_cons_succ,
  List.zip_cons_cons, List.zip_nil_left, List.zip_nil_right, List.foldl_cons, List.foldl_nil, Nat.reduceAdd, Nat.reduceSub, Nat.zero_add, Nat.add_zero, Nat.reduceLeDiff, true_and, and_true, if_true, Bool.false_eq_true, if_false, int_in_then, e1, Bool.not_true]
  have c1 := hs.s1
  have c2 := hs.s2
  refine are_services_then hsD (by omega) (by omega) (by unfold cap; omega) hs.sv ?_
  try simp only [wr_ok, w_var, w_c, w_p, w_nil, w_cons, w_call, w_tup, w_lst, w_lstC, w_dicC, w_B, w_and, w_or, w_not, w_andV, w_orV, w_if, w_chain, w_fld, w_meth, w_make, w_bm, w_rev, w_sortIt, w_get2, w_callV,
  w_next, w_seq, w_drop, w_ret, w_retN, w_break, w_cont, w_ifS, w_asg, w_gname, w_gsub, w_gtup, w_gnil, w_gcons, w_par, w_setFld, w_while, w_for, w_items, w_range1, w_lc, w_yes, w_def,
  der_int, der_bl, der_str, der_lst, der_frl, der_tup, der_dic, der_non, der_obj, der_raw, p_add, p_sub, p_mul, p_fdiv, p_mod, p_pow, p_neg, p_cmp, p_abs, p_min2, p_max2, p_eqI, p_notB, p_lenL, p_lenT, p_listL, newL_w, newLC_w, p_ixL, p_ixT,
  List.map_cons, List.map_nil, List.length_cons, List.length_nil, List.replicate_zero, List.replicate_succ, List.replicate, List.cons_append, List.nil_append, List.append_nil, List.getElem?_cons_zero, List.getElem?_cons_succ, List.set_cons_zero, List.set_cons_succ,
  List.zip_cons_cons, List.zip_nil_left, List.zip_nil_right, List.foldl_cons, List.foldl_nil, Nat.reduceAdd, Nat.reduceSub, Nat.zero_add, Nat.add_zero, Nat.reduceLeDiff, true_and, and_true, if_true, Bool.false_eq_true, if_false, Bool.not_true, gx0, sx0]
  refine ⟨by decide, ?_⟩
  refine needed_then hsD n1 (by omega) c1 (by omega) (fun s h => by have := hs.sv s h; omega) fun rows R => ?_
  try simp only [wr_ok, w_var, w_c, w_p, w_nil, w_cons, w_call, w_tup, w_lst, w_lstC, w_dicC, w_B, w_and, w_or, w_not, w_andV, w_orV, w_if, w_chain, w_fld, w_meth, w_make, w_bm, w_rev, w_sortIt, w_get2, w_callV,
  w_next, w_seq, w_drop, w_ret, w_retN, w_break, w_cont, w_ifS, w_asg, w_gname, w_gsub, w_gtup, w_gnil, w_gcons, w_par, w_setFld, w_while, w_for, w_items, w_range1, w_lc, w_yes, w_def,
  der_int, der_bl, der_str, der_lst, der_frl, der_tup, der_dic, der_non, der_obj, der_raw, p_add, p_sub, p_mul, p_fdiv, p_mod, p_pow, p_neg, p_cmp, p_abs, p_min2, p_max2, p_eqI, p_notB, p_lenL, p_lenT, p_listL, newL_w, newLC_w, p_ixL, p_ixT,
  List.map_cons, List.map_nil, List.length_cons, List.length_nil, List.replicate_zero, List.replicate_succ, List.replicate, List.cons_append, List.nil_append, List.append_nil, List.getElem?_cons_zero, List.getElem?_cons_succ, List.set_cons_zero, List.set_cons_succ,
  List.zip_cons_cons, List.zip_nil_left, List.zip_nil_right, List.foldl_cons, List.foldl_nil, Nat.reduceAdd, Nat.reduceSub, Nat.zero_add, Nat.add_zero, Nat.reduceLeDiff, true_and, and_true, if_true, Bool.false_eq_true, if_false, gx0, sx0, putD]
  refine ⟨by decide, ?_⟩
  rw [if_neg kf]
  exact K rows R
/-- a new map, frozen -/
theorem make_then {C : PySem.Addr} {ss : List (Int × Int)} {sD : D} (hsD : sD = .lst (ss.map pairD) ∨ sD = .tup (ss.map pairD)) (n1 : 1 ≤ n) (n2 : n ≤ 10 ^ 18) (hs : Svs ss) (K : ∀ rows, Rows n ss rows → Φ (.obj C (mapF n rows)) τ) {δ : DEnv} {f g : DE} (hf : f δ τ = .ok (.int n) τ) (hg : g δ τ = .ok sD τ) :
    WR (dFrz (dMake C (m_StepMap_init C) [] [f, g]) δ τ) Φ := by
  rw [w_frz]
  refine w_exitD ?_
  try simp only [wr_ok, w_var, w_c, w_p, w_nil, w_cons, w_call, w_tup, w_lst, w_lstC, w_dicC, w_B, w_and, w_or, w_not, w_andV, w_orV, w_if, w_chain, w_fld, w_meth, w_make, w_bm, w_rev, w_sortIt, w_get2, w_callV,
  w_next, w_seq, w_drop, w_ret, w_retN, w_break, w_cont, w_ifS, w_asg, w_gname, w_gsub, w_gtup, w_gnil, w_gcons, w_par, w_setFld, w_while, w_for, w_items, w_range1, w_lc, w_yes, w_def,
  der_int, der_bl, der_str, der_lst, der_frl, der_tup, der_dic, der_non, der_obj, der_raw, p_add, p_sub, p_mul, p_fdiv, p_mod, p_pow, p_neg, p_cmp, p_abs, p_min2, p_max2, p_eqI, p_notB, p_lenL, p_lenT, p_listL, newL_w, newLC_w, p_ixL, p_ixT,
  List.map_cons, List.map_nil, List.length_cons, List.length_nil, List.replicate_zero, List.replicate_succ, List.replicate, List.cons_append, List.nil_append, List.append_nil, List.getElem?_cons_zero, List.getElem?_cons_succ, List.set_cons_zero, List.set_cons_succ,
  List.zip_cons_cons, List.zip_nil_left, List.zip_nil_right, List.foldl_cons, List.foldl_nil, Nat.reduceAdd, Nat.reduceSub, Nat.zero_add, Nat.add_zero, Nat.reduceLeDiff, true_and, and_true, if_true, Bool.false_eq_true, if_false]
  rw [hf]
  try simp only [wr_ok, w_var, w_c, w_p, w_nil, w_cons, w_call, w_tup, w_lst, w_lstC, w_dicC, w_B, w_and, w_or, w_not, w_andV, w_orV, w_if, w_chain, w_fld, w_meth, w_make, w_bm, w_rev, w_sortIt, w_get2, w_callV,
  w_next, w_seq, w_drop, w_ret, w_retN, w_break, w_cont, w_ifS, w_asg, w_gname, w_gsub, w_gtup, w_gnil, w_gcons, w_par, w_setFld, w_while, w_for, w_items, w_range1, w_lc, w_yes, w_def,
  der_int, der_bl, der_str, der_lst, der_frl, der_tup, der_dic, der_non, der_obj, der_raw, p_add, p_sub, p_mul, p_fdiv, p_mod, p_pow, p_neg, p_cmp, p_abs, p_min2, p_max2, p_eqI, p_notB, p_lenL, p_lenT, p_listL, newL_w, newLC_w, p_ixL, p_ixT,
  List.map_cons, List.map_nil, List.length_cons, List.length_nil, List.replicate_zero, List.replicate_succ, List.replicate, List.cons_append, List.nil_append, List.append_nil, List.getElem?_cons_zero, List.getElem?_cons_succ, List.set_cons_zero, List.set_cons_succ,
  List.zip_cons_cons, List.zip_nil_left, List.zip_nil_right, List.foldl_cons, List.foldl_nil, Nat.reduceAdd, Nat.reduceSub, Nat.zero_add, Nat.add_zero, Nat.reduceLeDiff, true_and, and_true, if_true, Bool.false_eq_true, if_false]
  rw [hg]
  try simp only [wr_ok, w_var, w_c, w_p, w_nil, w_cons, w_call, w_tup, w_lst, w_lstC, w_dicC, w_B, w_and, w_or, w_not, w_andV, w_orV, w_if, w_chain, w_fld, w_meth, w_make, w_bm, w_rev, w_sortIt, w_get2, w_callV,
  w_next, w_seq, w_drop, w_ret, w_retN, w_break, w_cont, w_ifS, w_asg, w_gname, w_gsub, w_gtup, w_gnil, w_gcons, w_par, w_setFld, w_while, w_for, w_items, w_range1, w_lc, w_yes, w_def,
  der_int, der_bl, der_str, der_lst, der_frl, der_tup, der_dic, der_non, der_obj, der_raw, p_add, p_sub, p_mul, p_fdiv, p_mod, p_pow, p_neg, p_cmp, p_abs, p_min2, p_max2, p_eqI, p_notB, p_lenL, p_lenT, p_listL, newL_w, newLC_w, p_ixL, p_ixT,
  List.map_cons, List.map_nil, List.length_cons, List.length_nil, List.replicate_zero, List.replicate_succ, List.replicate, List.cons_append, List.nil_append, List.append_nil, List.getElem?_cons_zero, List.getElem?_cons_succ, List.set_cons_zero, List.set_cons_succ,
  List.zip_cons_cons, List.zip_nil_left, List.zip_nil_right, List.foldl_cons, List.foldl_nil, Nat.reduceAdd, Nat.reduceSub, Nat.zero_add, Nat.add_zero, Nat.reduceLeDiff, true_and, and_true, if_true, Bool.false_eq_true, if_false]
  refine init_then hsD n1 n2 hs fun rows R => ?_
  refine ⟨.obj C (mapF n rows), ?_, older_self _, by simpa using K rows R⟩
  show celF τ.length (τ ++ [D.obj C (mapF n rows)]) 6 τ.length = some (D.obj C (mapF n rows))
  show (if τ.length < τ.length then some (.cell τ.length) else ((τ ++ [D.obj C (mapF n rows)])[τ.length]?).bind (frzD (celF τ.length (τ ++ [D.obj C (mapF n rows)]) 5))) = _
  rw [if_neg (by omega), gx0]
  exact pla_mapF _
theorem atI_map {rows : List (Int × Int)} {j : Int} (h0 : 0 ≤ j) (h1 : j < rows.length) : atI (rows.map pairD) j = some (pairD (rows[j.toNat]'(by omega))) := by
  obtain ⟨d, e1, e2⟩ := atI_nat (xs := rows.map pairD) h0 (by simpa using h1)
  rw [e1]
  rw [List.getElem?_map, List.getElem?_eq_getElem (by omega)] at e2
  exact e2.symm
theorem index_then {C : PySem.Addr} {ss rows : List (Int × Int)} {t : Int} (R : Rows n ss rows) (n1 : 1 ≤ n) (hl : rows.length ≤ 1000)
    (K : ∀ i : Nat, i ≤ rows.length → (∀ j (h : j < rows.length), j < i → rows[j].1 < t % n) → (∀ h : i < rows.length, t % n ≤ (rows[i]'h).1) → Φ (.int i) τ) : WR (m_StepMap_step_index C [.obj C (mapF n rows), .int t] τ) Φ := by
  unfold m_StepMap_step_index b_StepMap_step_index
  try simp only [wr_ok, w_var, w_c, w_p, w_nil, w_cons, w_call, w_tup, w_lst, w_lstC, w_dicC, w_B, w_and, w_or, w_not, w_andV, w_orV, w_if, w_chain, w_fld, w_meth, w_make, w_bm, w_rev, w_sortIt, w_get2, w_callV,
  w_next, w_seq, w_drop, w_ret, w_retN, w_break, w_cont, w_ifS, w_asg, w_gname, w_gsub, w_gtup, w_gnil, w_gcons, w_par, w_setFld, w_while, w_for, w_items, w_range1, w_lc, w_yes, w_def,
  der_int, der_bl, der_str, der_lst, der_frl, der_tup, der_dic, der_non, der_obj, der_raw, p_add, p_sub, p_mul, p_fdiv, p_mod, p_pow, p_neg, p_cmp, p_abs, p_min2, p_max2, p_eqI, p_notB, p_lenL, p_lenT, p_listL, newL_w, newLC_w, p_ixL, p_ixT,
  List.map_cons, List.map_nil, List.length_cons, List.length_nil, List.replicate_zero, List.replicate_succ, List.replicate, List.cons_append, List.nil_append, List.append_nil, List.getElem?_cons_zero, List.getElem?_cons_succ, List.set_cons_zero, List.set_cons_succ,
  List.zip_cons_cons, List.zip_nil_left, List.zip_nil_right, List.foldl_cons, List.foldl_nil, Nat.reduceAdd, Nat.reduceSub, Nat.zero_add, Nat.add_zero, Nat.reduceLeDiff, true_and, and_true, if_true, Bool.false_eq_true, if_false, look_rows, look_length]
  refine ⟨by omega, ?_⟩
  refine w_whileI (fun m δ σ => ∃ (lo hi : Nat) (o : Option D), At δ σ [some (.obj C (mapF n rows)), some (.int t), some (.int (t % n)), some (.int lo), some (.int hi), o] τ ∧ lo ≤ hi ∧ hi ≤ rows.length ∧ m = hi - lo ∧ (∀ j (h : j < rows.length), j < lo → rows[j].1 < t % n) ∧ (∀ j (h : j < rows.length), hi ≤ j → t % n ≤ rows[j].1))
    rows.length ?_ ⟨0, rows.length, none, ⟨by simp, rfl⟩, by omega, by omega, by omega, fun j h h2 => by omega, fun j h h2 => by omega⟩ ?_
  · exact Nat.lt_of_le_of_lt hl (by unfold FUEL; decide)
  · rintro m δ σ ⟨lo, hi, o, ⟨rfl, rfl⟩, h1, h2, rfl, h3, h4⟩
    try simp only [wr_ok, w_var, w_c, w_p, w_nil, w_cons, w_call, w_tup, w_lst, w_lstC, w_dicC, w_B, w_and, w_or, w_not, w_andV, w_orV, w_if, w_chain, w_fld, w_meth, w_make, w_bm, w_rev, w_sortIt, w_get2, w_callV,
  w_next, w_seq, w_drop, w_ret, w_retN, w_break, w_cont, w_ifS, w_asg, w_gname, w_gsub, w_gtup, w_gnil, w_gcons, w_par, w_setFld, w_while, w_for, w_items, w_range1, w_lc, w_yes, w_def,
  der_int, der_bl, der_str, der_lst, der_frl, der_tup, der_dic, der_non, der_obj, der_raw, p_add, p_sub, p_mul, p_fdiv, p_mod, p_pow, p_neg, p_cmp, p_abs, p_min2, p_max2, p_eqI, p_notB, p_lenL, p_lenT, p_listL, newL_w, newLC_w, p_ixL, p_ixT,
  List.map_cons, List.map_nil, List.length_cons, List.length_nil, List.replicate_zero, List.replicate_succ, List.replicate, List.cons_append, List.nil_append, List.append_nil, List.getElem?_cons_zero, List.getElem?_cons_succ, List.set_cons_zero, List.set_cons_succ,
  List.zip_cons_cons, List.zip_nil_left, List.zip_nil_right, List.foldl_cons, List.foldl_nil, Nat.reduceAdd, Nat.reduceSub, Nat.zero_add, Nat.add_zero, Nat.reduceLeDiff, true_and, and_true, if_true, Bool.false_eq_true, if_false, look_rows]
    split
    · rename_i hc
      have hc : lo < hi := by simpa using hc
      have em : ((lo : Int) + hi) / 2 = (((lo + hi) / 2 : Nat) : Int) := by omega
      have hm : (lo + hi) / 2 < rows.length := by omega
      refine ⟨⟨by decide, bigd_of (by decide)⟩, ?_⟩
      rw [em, atI_map (by omega) (by omega)]
      try simp only [wr_ok, w_var, w_c, w_p, w_nil, w_cons, w_call, w_tup, w_lst, w_lstC, w_dicC, w_B, w_and, w_or, w_not, w_andV, w_orV, w_if, w_chain, w_fld, w_meth, w_make, w_bm, w_rev, w_sortIt, w_get2, w_callV,
  w_next, w_seq, w_drop, w_ret, w_retN, w_break, w_cont, w_ifS, w_asg, w_gname, w_gsub, w_gtup, w_gnil, w_gcons, w_par, w_setFld, w_while, w_for, w_items, w_range1, w_lc, w_yes, w_def,
  der_int, der_bl, der_str, der_lst, der_frl, der_tup, der_dic, der_non, der_obj, der_raw, p_add, p_sub, p_mul, p_fdiv, p_mod, p_pow, p_neg, p_cmp, p_abs, p_min2, p_max2, p_eqI, p_notB, p_lenL, p_lenT, p_listL, newL_w, newLC_w, p_ixL, p_ixT,
  List.map_cons, List.map_nil, List.length_cons, List.length_nil, List.replicate_zero, List.replicate_succ, List.replicate, List.cons_append, List.nil_append, List.append_nil, List.getElem?_cons_zero, List.getElem?_cons_succ, List.set_cons_zero, List.set_cons_succ,
  List.zip_cons_cons, List.zip_nil_left, List.zip_nil_right, List.foldl_cons, List.foldl_nil, Nat.reduceAdd, Nat.reduceSub, Nat.zero_add, Nat.add_zero, Nat.reduceLeDiff, true_and, and_true, if_true, Bool.false_eq_true, if_false, ix_pair0]
      split
      · rename_i hd
        have hd : rows[(lo + hi) / 2].1 < t % n := of_decide_eq_true hd
        refine ⟨hi - ((lo + hi) / 2 + 1), by omega, (lo + hi) / 2 + 1, hi, _, ⟨rfl, rfl⟩, by omega, h2, rfl, fun j h hj => ?_, h4⟩
        have := R.atle h hm (by omega)
        omega
      · rename_i hd
        have hd : ¬ rows[(lo + hi) / 2].1 < t % n := fun z => hd (decide_eq_true z)
        refine ⟨(lo + hi) / 2 - lo, by omega, lo, (lo + hi) / 2, _, ⟨rfl, rfl⟩, by omega, by omega, rfl, h3, fun j h hj => ?_⟩
        have := R.atle hm h (by omega)
        omega
    · rename_i hc
      have hc : ¬ lo < hi := by simpa using hc
      have e : lo = hi := by omega
      subst e
      try simp only [wr_ok, w_var, w_c, w_p, w_nil, w_cons, w_call, w_tup, w_lst, w_lstC, w_dicC, w_B, w_and, w_or, w_not, w_andV, w_orV, w_if, w_chain, w_fld, w_meth, w_make, w_bm, w_rev, w_sortIt, w_get2, w_callV,
  w_next, w_seq, w_drop, w_ret, w_retN, w_break, w_cont, w_ifS, w_asg, w_gname, w_gsub, w_gtup, w_gnil, w_gcons, w_par, w_setFld, w_while, w_for, w_items, w_range1, w_lc, w_yes, w_def,
  der_int, der_bl, der_str, der_lst, der_frl, der_tup, der_dic, der_non, der_obj, der_raw, p_add, p_sub, p_mul, p_fdiv, p_mod, p_pow, p_neg, p_cmp, p_abs, p_min2, p_max2, p_eqI, p_notB, p_lenL, p_lenT, p_listL, newL_w, newLC_w, p_ixL, p_ixT,
  List.map_cons, List.map_nil, List.length_cons, List.length_nil, List.replicate_zero, List.replicate_succ, List.replicate, List.cons_append, List.nil_append, List.append_nil, List.getElem?_cons_zero, List.getElem?_cons_succ, List.set_cons_zero, List.set_cons_succ,
  List.zip_cons_cons, List.zip_nil_left, List.zip_nil_right, List.foldl_cons, List.foldl_nil, Nat.reduceAdd, Nat.reduceSub, Nat.zero_add, Nat.add_zero, Nat.reduceLeDiff, true_and, and_true, if_true, Bool.false_eq_true, if_false]
      exact K lo h2 h3 fun h => h4 lo h (by omega)
theorem apply_then {C : PySem.Addr} {ss rows : List (Int × Int)} {t : Int} (R : Rows n ss rows) (n1 : 1 ≤ n) (n2 : n ≤ 10 ^ 100) (hl : rows.length ≤ 1000) (ht : t.natAbs ≤ 10 ^ 100) (K : ∀ v, IsVal n rows t v → Φ (.int v) τ) : WR (m_StepMap_apply C [.obj C (mapF n rows), .int t] τ) Φ := by
  have lk : lookF "step_index" (mapF n rows) = none := by
    have a1 : (("step_index" : Str) == ("length" : Str)) = false := by decide +kernel
    have a2 : (("step_index" : Str) == ("rows" : Str)) = false := by decide +kernel
    simp only [lookF, mapF, List.lookup_cons, a1, a2]; with_unfolding_all rfl
  have o0 := Int.emod_nonneg t (show n ≠ 0 by omega)
  have o1 := Int.emod_lt_of_pos t (show 0 < n by omega)
  have et : t = t / n * n + t % n := by have := Int.mul_ediv_add_emod t n; rw [Int.mul_comm] at this; omega
  have bt : (t / n).natAbs ≤ 10 ^ 100 := by have := Int.natAbs_ediv_le_natAbs t n; omega
  have b2 : (10 : Nat) ^ 100 < 10 ^ 119 := by decide
  have h0 : 0 < rows.length := List.length_pos_iff.mpr R.ne
  unfold m_StepMap_apply b_StepMap_apply
  try simp only [wr_ok, w_var, w_c, w_p, w_nil, w_cons, w_call, w_tup, w_lst, w_lstC, w_dicC, w_B, w_and, w_or, w_not, w_andV, w_orV, w_if, w_chain, w_fld, w_meth, w_make, w_bm, w_rev, w_sortIt, w_get2, w_callV,
  w_next, w_seq, w_drop, w_ret, w_retN, w_break, w_cont, w_ifS, w_asg, w_gname, w_gsub, w_gtup, w_gnil, w_gcons, w_par, w_setFld, w_while, w_for, w_items, w_range1, w_lc, w_yes, w_def,
  der_int, der_bl, der_str, der_lst, der_frl, der_tup, der_dic, der_non, der_obj, der_raw, p_add, p_sub, p_mul, p_fdiv, p_mod, p_pow, p_neg, p_cmp, p_abs, p_min2, p_max2, p_eqI, p_notB, p_lenL, p_lenT, p_listL, newL_w, newLC_w, p_ixL, p_ixT,
  List.map_cons, List.map_nil, List.length_cons, List.length_nil, List.replicate_zero, List.replicate_succ, List.replicate, List.cons_append, List.nil_append, List.append_nil, List.getElem?_cons_zero, List.getElem?_cons_succ, List.set_cons_zero, List.set_cons_succ,
  List.zip_cons_cons, List.zip_nil_left, List.zip_nil_right, List.foldl_cons, List.foldl_nil, Nat.reduceAdd, Nat.reduceSub, Nat.zero_add, Nat.add_zero, Nat.reduceLeDiff, true_and, and_true, if_true, Bool.false_eq_true, if_false, look_rows, look_length, lk]
  refine ⟨⟨by omega, bigd_of (by omega)⟩, ?_⟩
  refine index_then R n1 hl fun i hi h1 h2 => ?_
  try simp only [wr_ok, w_var, w_c, w_p, w_nil, w_cons, w_call, w_tup, w_lst, w_lstC, w_dicC, w_B, w_and, w_or, w_not, w_andV, w_orV, w_if, w_chain, w_fld, w_meth, w_make, w_bm, w_rev, w_sortIt, w_get2, w_callV,
  w_next, w_seq, w_drop, w_ret, w_retN, w_break, w_cont, w_ifS, w_asg, w_gname, w_gsub, w_gtup, w_gnil, w_gcons, w_par, w_setFld, w_while, w_for, w_items, w_range1, w_lc, w_yes, w_def,
  der_int, der_bl, der_str, der_lst, der_frl, der_tup, der_dic, der_non, der_obj, der_raw, p_add, p_sub, p_mul, p_fdiv, p_mod, p_pow, p_neg, p_cmp, p_abs, p_min2, p_max2, p_eqI, p_notB, p_lenL, p_lenT, p_listL, newL_w, newLC_w, p_ixL, p_ixT,
  List.map_cons, List.map_nil, List.length_cons, List.length_nil, List.replicate_zero, List.replicate_succ, List.replicate, List.cons_append, List.nil_append, List.append_nil, List.getElem?_cons_zero, List.getElem?_cons_succ, List.set_cons_zero, List.set_cons_succ,
  List.zip_cons_cons, List.zip_nil_left, List.zip_nil_right, List.foldl_cons, List.foldl_nil, Nat.reduceAdd, Nat.reduceSub, Nat.zero_add, Nat.add_zero, Nat.reduceLeDiff, true_and, and_true, if_true, Bool.false_eq_true, if_false, look_rows, look_length]
  split
  · rename_i hc
    have hc : i = rows.length := by simp at hc; omega
    rw [atI_map (by omega) (by omega)]
    try simp only [wr_ok, w_var, w_c, w_p, w_nil, w_cons, w_call, w_tup, w_lst, w_lstC, w_dicC, w_B, w_and, w_or, w_not, w_andV, w_orV, w_if, w_chain, w_fld, w_meth, w_make, w_bm, w_rev, w_sortIt, w_get2, w_callV,
  w_next, w_seq, w_drop, w_ret, w_retN, w_break, w_cont, w_ifS, w_asg, w_gname, w_gsub, w_gtup, w_gnil, w_gcons, w_par, w_setFld, w_while, w_for, w_items, w_range1, w_lc, w_yes, w_def,
  der_int, der_bl, der_str, der_lst, der_frl, der_tup, der_dic, der_non, der_obj, der_raw, p_add, p_sub, p_mul, p_fdiv, p_mod, p_pow, p_neg, p_cmp, p_abs, p_min2, p_max2, p_eqI, p_notB, p_lenL, p_lenT, p_listL, newL_w, newLC_w, p_ixL, p_ixT,
  List.map_cons, List.map_nil, List.length_cons, List.length_nil, List.replicate_zero, List.replicate_succ, List.replicate, List.cons_append, List.nil_append, List.append_nil, List.getElem?_cons_zero, List.getElem?_cons_succ, List.set_cons_zero, List.set_cons_succ,
  List.zip_cons_cons, List.zip_nil_left, List.zip_nil_right, List.foldl_cons, List.foldl_nil, Nat.reduceAdd, Nat.reduceSub, Nat.zero_add, Nat.add_zero, Nat.reduceLeDiff, true_and, and_true, if_true, Bool.false_eq_true, if_false, ix_pair1]
    exact ⟨⟨big_of (by omega), big_of (by omega)⟩, K _ (R.valW n1 et o0 o1 h0 fun j h => h1 j h (by omega))⟩
  · rename_i hc
    have hc : ¬ i = rows.length := by simp at hc; omega
    have hi : i < rows.length := by omega
    rw [atI_map (by omega) (by omega)]
    try simp only [wr_ok, w_var, w_c, w_p, w_nil, w_cons, w_call, w_tup, w_lst, w_lstC, w_dicC, w_B, w_and, w_or, w_not, w_andV, w_orV, w_if, w_chain, w_fld, w_meth, w_make, w_bm, w_rev, w_sortIt, w_get2, w_callV,
  w_next, w_seq, w_drop, w_ret, w_retN, w_break, w_cont, w_ifS, w_asg, w_gname, w_gsub, w_gtup, w_gnil, w_gcons, w_par, w_setFld, w_while, w_for, w_items, w_range1, w_lc, w_yes, w_def,
  der_int, der_bl, der_str, der_lst, der_frl, der_tup, der_dic, der_non, der_obj, der_raw, p_add, p_sub, p_mul, p_fdiv, p_mod, p_pow, p_neg, p_cmp, p_abs, p_min2, p_max2, p_eqI, p_notB, p_lenL, p_lenT, p_listL, newL_w, newLC_w, p_ixL, p_ixT,
  List.map_cons, List.map_nil, List.length_cons, List.length_nil, List.replicate_zero, List.replicate_succ, List.replicate, List.cons_append, List.nil_append, List.append_nil, List.getElem?_cons_zero, List.getElem?_cons_succ, List.set_cons_zero, List.set_cons_succ,
  List.zip_cons_cons, List.zip_nil_left, List.zip_nil_right, List.foldl_cons, List.foldl_nil, Nat.reduceAdd, Nat.reduceSub, Nat.zero_add, Nat.add_zero, Nat.reduceLeDiff, true_and, and_true, if_true, Bool.false_eq_true, if_false, ix_pair1]
    exact ⟨⟨big_of (by omega), big_of (by omega)⟩, K _ (R.val n1 et o0 o1 hi (fun j h hj => h1 j h hj) (h2 hi))⟩
end
end DL

namespace DL
open PySem L2
section
variable {τ : List D} {δ : DEnv} {Φ : D → List D → Prop} {n B : Int} {p : D} {r : List D}
theorem w_dispC {fs : List (DE × DE)} : WR (dDispC fs δ τ) Φ = WR (dArgs (pairArgs fs) δ τ) (fun ds τ => match toPairs ds with | some kds => kds.length ≤ 15 ∧ Φ (.cell τ.length) (τ ++ [.dic (mergeD [] kds)]) | none => False) := by
  unfold dDispC; rw [wr_bind]; congr 1; funext ds τ
  cases toPairs ds with
  | none => with_unfolding_all rfl
  | some kds =>
    show WR (if kds.length ≤ 15 then R.ok (D.cell τ.length) (τ ++ [.dic (mergeD [] kds)]) else .bad) Φ = _
    split <;> simp [WR, WR0, *]
theorem w_slF {fo : DE} {l h : DO} {xs : List D} {a b : Option Int} (e1 : fo δ τ = .ok (.frl xs) τ) (e2 : l δ τ = .ok a τ) (e3 : h δ τ = .ok b τ) (K : Φ (.lst (cutD xs a b)) τ) : WR (dSl false fo l h δ τ) Φ := by
  unfold dSl
  rw [e1, R.bind_ok, e2, R.bind_ok, e3, R.bind_ok]
  show WR (R.ok (.lst (cutD xs a b)) τ) Φ
  rw [wr_ok]; exact K
theorem cut_ints (ns : List Int) (a b : Option Int) : ∃ c : List Int, cutD (ns.map .int) a b = c.map .int := by
  unfold cutD
  rw [← List.map_drop, ← List.map_take]
  exact ⟨_, rfl⟩
theorem pen_then {ns : List Int} (K : ∀ p', PenOk 0 p' → Φ (.cell 0) [p']) : WR (m__law_pen [.frl (ns.map .int)] []) Φ := by
  obtain ⟨c, ec⟩ := cut_ints ns none (some 63)
  unfold m__law_pen b__law_pen
  try simp only [wr_ok, w_var, w_c, w_p, w_nil, w_cons, w_call, w_tup, w_lst, w_lstC, w_dicC, w_B, w_and, w_or, w_not, w_andV, w_orV, w_if, w_chain, w_fld, w_meth, w_make, w_bm, w_rev, w_sortIt, w_get2, w_callV,
  w_next, w_seq, w_drop, w_ret, w_retN, w_break, w_cont, w_ifS, w_asg, w_gname, w_gsub, w_gtup, w_gnil, w_gcons, w_par, w_setFld, w_while, w_for, w_items, w_range1, w_lc, w_yes, w_def,
  der_int, der_bl, der_str, der_lst, der_frl, der_tup, der_dic, der_non, der_obj, der_raw, p_add, p_sub, p_mul, p_fdiv, p_mod, p_pow, p_neg, p_cmp, p_abs, p_min2, p_max2, p_eqI, p_notB, p_lenL, p_lenT, p_listL, newL_w, newLC_w, p_ixL, p_ixT,
  List.map_cons, List.map_nil, List.length_cons, List.length_nil, List.replicate_zero, List.replicate_succ, List.replicate, List.cons_append, List.nil_append, List.append_nil, List.getElem?_cons_zero, List.getElem?_cons_succ, List.set_cons_zero, List.set_cons_succ,
  List.zip_cons_cons, List.zip_nil_left, List.zip_nil_right, List.foldl_cons, List.foldl_nil, Nat.reduceAdd, Nat.reduceSub, Nat.zero_add, Nat.add_zero, Nat.reduceLeDiff, true_and, and_true, if_true, Bool.false_eq_true, if_false, w_dispC, pairArgs]
  refine w_slF (a := none) (b := some 63) rfl rfl rfl ?_
  rw [ec]
  have e : mergeD [] [(Sum.inr ("cells" : Str), D.lst (c.map D.int)), (Sum.inr ("turn" : Str), D.int 0), (Sum.inr ("left" : Str), D.int 0)] = [(Sum.inr ("cells" : Str), D.lst (c.map D.int)), (Sum.inr ("turn" : Str), D.int 0), (Sum.inr ("left" : Str), D.int 0)] := by
    simp only [mergeD, putKD, if_neg k1, if_neg k2, if_neg k3]
  try simp only [wr_ok, w_var, w_c, w_p, w_nil, w_cons, w_call, w_tup, w_lst, w_lstC, w_dicC, w_B, w_and, w_or, w_not, w_andV, w_orV, w_if, w_chain, w_fld, w_meth, w_make, w_bm, w_rev, w_sortIt, w_get2, w_callV,
  w_next, w_seq, w_drop, w_ret, w_retN, w_break, w_cont, w_ifS, w_asg, w_gname, w_gsub, w_gtup, w_gnil, w_gcons, w_par, w_setFld, w_while, w_for, w_items, w_range1, w_lc, w_yes, w_def,
  der_int, der_bl, der_str, der_lst, der_frl, der_tup, der_dic, der_non, der_obj, der_raw, p_add, p_sub, p_mul, p_fdiv, p_mod, p_pow, p_neg, p_cmp, p_abs, p_min2, p_max2, p_eqI, p_notB, p_lenL, p_lenT, p_listL, newL_w, newLC_w, p_ixL, p_ixT,
  List.map_cons, List.map_nil, List.length_cons, List.length_nil, List.replicate_zero, List.replicate_succ, List.replicate, List.cons_append, List.nil_append, List.append_nil, List.getElem?_cons_zero, List.getElem?_cons_succ, List.set_cons_zero, List.set_cons_succ,
  List.zip_cons_cons, List.zip_nil_left, List.zip_nil_right, List.foldl_cons, List.foldl_nil, Nat.reduceAdd, Nat.reduceSub, Nat.zero_add, Nat.add_zero, Nat.reduceLeDiff, true_and, and_true, if_true, Bool.false_eq_true, if_false]
  refine ⟨by simp, ?_⟩
  rw [e]
  exact K _ ⟨c, 0, 0, rfl, by omega, by omega, by omega⟩
end
end DL

namespace DL
open PySem L2
/-! ### rows are what the values say -/
theorem fp_arr (n : Int) (s : Int × Int) (q : Int) : (fp n s).1 + q * n = s.1 + (q - s.1 / n) * n ∧ (fp n s).2 + q * n = s.2 + (q - s.1 / n) * n := by
  have := Int.mul_ediv_add_emod s.1 n
  have e : n * (s.1 / n) = s.1 / n * n := Int.mul_comm _ _
  unfold fp
  rw [Int.sub_mul]
  constructor
  · show s.1 % n + q * n = _; omega
  · show s.2 - s.1 / n * n + q * n = _; omega
theorem Rows.isval {n : Int} {ss rows : List (Int × Int)} (R : Rows n ss rows) (hn : 1 ≤ n) {t v : Int} : IsVal n rows t v ↔ IsVal n ss t v := by
  have up : IsVal n rows t v → IsVal n ss t v := fun h => by
    obtain ⟨k, hk, q, h1, h2⟩ := h.ex
    refine ⟨?_, fun s hs q hq => ?_⟩
    · obtain ⟨s, hs, rfl⟩ := R.sub k hk
      obtain ⟨e1, e2⟩ := fp_arr n s q
      exact ⟨s, hs, q - s.1 / n, by omega, by omega⟩
    · obtain ⟨k, hk, d⟩ := R.dom s hs
      obtain ⟨e1, e2⟩ := fp_arr n s (q + s.1 / n)
      have e3 : q + s.1 / n - s.1 / n = q := by omega
      rw [e3] at e1 e2
      have f1 : (fp n s).1 < n := Int.emod_lt_of_pos _ (by omega)
      have k0 := (R.rng k hk).1
      rcases d with ⟨d1, d2⟩ | d
      · have := h.le k hk (q + s.1 / n) (by omega)
        omega
      · have e4 : (q + s.1 / n + 1) * n = (q + s.1 / n) * n + n := by rw [Int.add_mul, Int.one_mul]
        have := h.le k hk (q + s.1 / n + 1) (by omega)
        omega
  refine ⟨up, fun h => ?_⟩
  refine ⟨?_, fun k hk q hq => ?_⟩
  · obtain ⟨s, hs, q, h1, h2⟩ := h.ex
    obtain ⟨k, hk, d⟩ := R.dom s hs
    obtain ⟨e1, e2⟩ := fp_arr n s (q + s.1 / n)
    have e3 : q + s.1 / n - s.1 / n = q := by omega
    rw [e3] at e1 e2
    have f1 : (fp n s).1 < n := Int.emod_lt_of_pos _ (by omega)
    have k0 := (R.rng k hk).1
    obtain ⟨u, hu, eu⟩ := R.sub k hk
    have low : ∀ q' : Int, t ≤ k.1 + q' * n → v ≤ k.2 + q' * n := fun q' hq' => by
      obtain ⟨g1, g2⟩ := fp_arr n u q'
      rw [← eu] at g1 g2
      have := h.le u hu (q' - u.1 / n) (by omega)
      omega
    rcases d with ⟨d1, d2⟩ | d
    · have := low (q + s.1 / n) (by omega)
      exact ⟨k, hk, q + s.1 / n, by omega, by omega⟩
    · have e4 : (q + s.1 / n + 1) * n = (q + s.1 / n) * n + n := by rw [Int.add_mul, Int.one_mul]
      have := low (q + s.1 / n + 1) (by omega)
      exact ⟨k, hk, q + s.1 / n + 1, by omega, by omega⟩
  · obtain ⟨s, hs, rfl⟩ := R.sub k hk
    obtain ⟨e1, e2⟩ := fp_arr n s q
    have := h.le s hs (q - s.1 / n) (by omega)
    omega
/-- there is a value at every time -/
theorem Rows.exval {n : Int} {ss rows : List (Int × Int)} (R : Rows n ss rows) (hn : 1 ≤ n) (t : Int) : ∃ v, IsVal n rows t v := by
  have o0 := Int.emod_nonneg t (show n ≠ 0 by omega)
  have o1 := Int.emod_lt_of_pos t (show 0 < n by omega)
  have et : t = t / n * n + t % n := by have := Int.mul_ediv_add_emod t n; rw [Int.mul_comm] at this; omega
  have h0 : 0 < rows.length := List.length_pos_iff.mpr R.ne
  have H : ∀ i, i ≤ rows.length → (∀ j (h : j < rows.length), j < i → rows[j].1 < t % n) ∨ ∃ m, ∃ h : m < rows.length, t % n ≤ rows[m].1 ∧ ∀ j (h : j < rows.length), j < m → rows[j].1 < t % n := by
    intro i
    induction i with
    | zero => exact fun _ => .inl fun j h z => by omega
    | succ i ih =>
      intro hi
      rcases ih (by omega) with h | h
      · by_cases c : rows[i].1 < t % n
        · refine .inl fun j hj z => ?_
          by_cases e : j = i
          · subst e; exact c
          · exact h j hj (by omega)
        · exact .inr ⟨i, by omega, by omega, h⟩
      · exact .inr h
  rcases H rows.length (Nat.le_refl _) with h | ⟨m, hm, h1, h2⟩
  · exact ⟨_, R.valW hn et o0 o1 h0 fun j hj => h j hj hj⟩
  · exact ⟨_, R.val hn et o0 o1 hm h2 h1⟩
theorem Rows.subset {n : Int} {ss rows ss' rows' : List (Int × Int)} (R : Rows n ss rows) (R' : Rows n ss' rows') (hn : 1 ≤ n) (h : ∀ t v, IsVal n ss t v → IsVal n ss' t v) : ∀ k ∈ rows, k ∈ rows' := by
  intro k hk
  obtain ⟨i, hi, rfl⟩ := List.getElem_of_mem hk
  have f : IsVal n rows rows[i].1 rows[i].2 := by
    by_cases h0 : 0 < i
    · exact R.flat hn hi (b := (rows[i - 1]'(by omega)).1) (.inl ⟨h0, by omega, rfl⟩) (R.at (by omega) hi (by omega)).1 (Int.le_refl _)
    · have hl : rows.length - 1 < rows.length := by omega
      have r1 := R.rng _ (List.getElem_mem hl)
      have r2 := R.rng _ (List.getElem_mem hi)
      exact R.flat hn hi (b := rows[rows.length - 1].1 - n) (.inr ⟨by omega, hl, rfl⟩) (by omega) (Int.le_refl _)
  have f' := (R'.isval hn).mpr (h _ _ ((R.isval hn).mp f))
  obtain ⟨v, hv⟩ := R.exval hn (rows[i].1 + 1)
  have ha := R.after hn hi hv
  have hv' := (R'.isval hn).mpr (h _ _ ((R.isval hn).mp hv))
  obtain ⟨k', hk', q, h1, h2⟩ := f'.ex
  have ri := R.rng _ (List.getElem_mem hi)
  have rk := R'.rng k' hk'
  have h3 : ¬ rows[i].1 + 1 ≤ k'.1 + q * n := fun z => by have := hv'.le k' hk' q z; omega
  have h4 : rows[i].1 = k'.1 + q * n := by omega
  have hq : q = 0 := by
    by_cases c : 0 + 1 ≤ q
    · have := mul_up hn c; omega
    · by_cases c2 : q + 1 ≤ 0
      · have := mul_up hn c2; omega
      · omega
  subst hq
  have : rows[i] = k' := Prod.ext (by omega) (by omega)
  rw [this]; exact hk'
theorem eq_of_subset : ∀ {as bs : List (Int × Int)}, as.Pairwise (fun a b => a.1 < b.1 ∧ a.2 < b.2) → bs.Pairwise (fun a b => a.1 < b.1 ∧ a.2 < b.2) → (∀ x, x ∈ as ↔ x ∈ bs) → as = bs
  | [], [], _, _, _ => rfl
  | [], b :: bs, _, _, h => absurd ((h b).mpr List.mem_cons_self) (by simp)
  | a :: as, [], _, _, h => absurd ((h a).mp List.mem_cons_self) (by simp)
  | a :: as, b :: bs, ha, hb, h => by
    obtain ⟨a1, a2⟩ := List.pairwise_cons.mp ha
    obtain ⟨b1, b2⟩ := List.pairwise_cons.mp hb
    have e : a = b := by
      rcases List.mem_cons.mp ((h a).mp List.mem_cons_self) with e | e
      · exact e
      · rcases List.mem_cons.mp ((h b).mpr List.mem_cons_self) with e2 | e2
        · exact e2.symm
        · have := b1 a e; have := a1 b e2; omega
    subst e
    rw [eq_of_subset a2 b2 fun x => ?_]
    constructor
    · intro hx
      rcases List.mem_cons.mp ((h x).mp (List.mem_cons_of_mem _ hx)) with e | e
      · subst e; have := a1 x hx; omega
      · exact e
    · intro hx
      rcases List.mem_cons.mp ((h x).mpr (List.mem_cons_of_mem _ hx)) with e | e
      · subst e; have := b1 x hx; omega
      · exact e
/-- the same values: the same rows -/
theorem Rows.unique {n : Int} {ss rows ss' rows' : List (Int × Int)} (R : Rows n ss rows) (R' : Rows n ss' rows') (hn : 1 ≤ n) (h : ∀ t v, IsVal n ss t v ↔ IsVal n ss' t v) : rows = rows' :=
  eq_of_subset R.up R'.up fun x => ⟨R.subset R' hn (fun t v => (h t v).mp) x, R'.subset R hn (fun t v => (h t v).mpr) x⟩
end DL

namespace DL
open PySem L2
/-! ### maps as functions -/
def itr (f : Int → Int) : Nat → Int → Int
  | 0, t => t
  | k + 1, t => f (itr f k t)
/-- a map in normal form -/
def Mp (n : Int) (rows : List (Int × Int)) : Prop := Rows n rows rows
theorem fp_self {n : Int} {k : Int × Int} (h0 : 0 ≤ k.1) (h1 : k.1 < n) : fp n k = k := by
  have e1 : k.1 % n = k.1 := Int.emod_eq_of_lt h0 h1
  have e2 : k.1 / n = 0 := Int.ediv_eq_zero_of_lt h0 h1
  unfold fp
  rw [e1, e2]
  exact Prod.ext rfl (by simp)
theorem Rows.mp {n : Int} {ss rows : List (Int × Int)} (R : Rows n ss rows) : Mp n rows :=
  ⟨R.ne, R.up, R.rng, R.wrap, fun k hk => ⟨k, hk, (fp_self (R.rng k hk).1 (R.rng k hk).2).symm⟩, fun s hs => ⟨s, hs, .inl (by rw [fp_self (R.rng s hs).1 (R.rng s hs).2]; exact ⟨Int.le_refl _, Int.le_refl _⟩)⟩, Nat.le_refl _⟩
open Classical in
noncomputable def val (n : Int) (rows : List (Int × Int)) (t : Int) : Int := if h : ∃ v, IsVal n rows t v then h.choose else 0
theorem Mp.val {n : Int} {rows : List (Int × Int)} (M : Mp n rows) (hn : 1 ≤ n) (t : Int) : IsVal n rows t (val n rows t) := by
  have h := Rows.exval M hn t
  unfold DL.val
  rw [dif_pos h]
  exact h.choose_spec
theorem val_shift {n : Int} {rows : List (Int × Int)} (M : Mp n rows) (hn : 1 ≤ n) (t j : Int) : DL.val n rows (t + j * n) = DL.val n rows t + j * n := (M.val hn _).uniq ((M.val hn t).shift j)
/-- arrivals within bounds -/
def Bd (M : Int) (rows : List (Int × Int)) : Prop := ∀ k ∈ rows, -M ≤ k.2 ∧ k.2 ≤ M
theorem val_bound {n C : Int} {rows : List (Int × Int)} (M : Mp n rows) (hn : 1 ≤ n) (b : Bd C rows) (t : Int) : t - C - 2 * n ≤ DL.val n rows t ∧ DL.val n rows t ≤ t + C + 2 * n := by
  obtain ⟨k, hk, q, h1, h2⟩ := (M.val hn t).ex
  have r := M.rng k hk
  have bk := b k hk
  constructor
  · omega
  · -- the first departure of the row at or behind t
    have et : t = t / n * n + t % n := by have := Int.mul_ediv_add_emod t n; rw [Int.mul_comm] at this; omega
    have o0 := Int.emod_nonneg t (show n ≠ 0 by omega)
    have o1 := Int.emod_lt_of_pos t (show 0 < n by omega)
    have e : (t / n + 1) * n = t / n * n + n := by rw [Int.add_mul, Int.one_mul]
    have := (M.val hn t).le k hk (t / n + 1) (by omega)
    omega
end DL

namespace DL
open PySem L2
section
variable {τ : List D} {Φ : D → List D → Prop}
theorem abs_nat (i : Int) : (if i < 0 then -i else i) = (i.natAbs : Int) := by split <;> omega
theorem gcd_then {a b : Int} (hb : b.natAbs < 10 ^ 40) (K : Φ (.int (Int.gcd a b)) τ) : WR (m_gcd [.int a, .int b] τ) Φ := by
  unfold m_gcd b_gcd
  rw [w_def]
  refine w_cut (fun δ τ' => At δ τ' [some (.int a.natAbs), some (.int b.natAbs)] τ) (by try simp only [wr_ok, w_var, w_c, w_p, w_nil, w_cons, w_call, w_tup, w_lst, w_lstC, w_dicC, w_B, w_and, w_or, w_not, w_andV, w_orV, w_if, w_chain, w_fld, w_meth, w_make, w_bm, w_rev, w_sortIt, w_get2, w_callV,
  w_next, w_seq, w_drop, w_ret, w_retN, w_break, w_cont, w_ifS, w_asg, w_gname, w_gsub, w_gtup, w_gnil, w_gcons, w_par, w_setFld, w_while, w_for, w_items, w_range1, w_lc, w_yes, w_def,
  der_int, der_bl, der_str, der_lst, der_frl, der_tup, der_dic, der_non, der_obj, der_raw, p_add, p_sub, p_mul, p_fdiv, p_mod, p_pow, p_neg, p_cmp, p_abs, p_min2, p_max2, p_eqI, p_notB, p_lenL, p_lenT, p_listL, newL_w, newLC_w, p_ixL, p_ixT,
  List.map_cons, List.map_nil, List.length_cons, List.length_nil, List.replicate_zero, List.replicate_succ, List.replicate, List.cons_append, List.nil_append, List.append_nil, List.getElem?_cons_zero, List.getElem?_cons_succ, List.set_cons_zero, List.set_cons_succ,
  List.zip_cons_cons, List.zip_nil_left, List.zip_nil_right, List.foldl_cons, List.foldl_nil, Nat.reduceAdd, Nat.reduceSub, Nat.zero_add, Nat.add_zero, Nat.reduceLeDiff, true_and, and_true, if_true, Bool.false_eq_true, if_false, abs_nat]; exact ⟨rfl, rfl⟩) ?_
  rintro δ σ ⟨rfl, rfl⟩
  refine w_cut (fun δ τ' => At δ τ' [some (.int (Int.gcd a b)), some (.int 0)] σ) ?_ ?_
  · rw [w_while]
    refine w_whileI (fun m δ τ' => ∃ x : Nat, At δ τ' [some (.int x), some (.int m)] σ ∧ Nat.gcd x m = Int.gcd a b) b.natAbs (by unfold FUEL; omega) ⟨a.natAbs, ⟨rfl, rfl⟩, rfl⟩ ?_
    rintro m δ τ' ⟨x, ⟨rfl, rfl⟩, hg⟩
    simp only [w_B, w_p, w_cons, w_nil, w_var, w_c, List.getElem?_cons_succ, List.getElem?_cons_zero, p_cmp, der_bl]
    split
    · rename_i hc
      have hc : 0 < (m : Int) := of_decide_eq_true hc
      try simp only [wr_ok, w_var, w_c, w_p, w_nil, w_cons, w_call, w_tup, w_lst, w_lstC, w_dicC, w_B, w_and, w_or, w_not, w_andV, w_orV, w_if, w_chain, w_fld, w_meth, w_make, w_bm, w_rev, w_sortIt, w_get2, w_callV,
  w_next, w_seq, w_drop, w_ret, w_retN, w_break, w_cont, w_ifS, w_asg, w_gname, w_gsub, w_gtup, w_gnil, w_gcons, w_par, w_setFld, w_while, w_for, w_items, w_range1, w_lc, w_yes, w_def,
  der_int, der_bl, der_str, der_lst, der_frl, der_tup, der_dic, der_non, der_obj, der_raw, p_add, p_sub, p_mul, p_fdiv, p_mod, p_pow, p_neg, p_cmp, p_abs, p_min2, p_max2, p_eqI, p_notB, p_lenL, p_lenT, p_listL, newL_w, newLC_w, p_ixL, p_ixT,
  List.map_cons, List.map_nil, List.length_cons, List.length_nil, List.replicate_zero, List.replicate_succ, List.replicate, List.cons_append, List.nil_append, List.append_nil, List.getElem?_cons_zero, List.getElem?_cons_succ, List.set_cons_zero, List.set_cons_succ,
  List.zip_cons_cons, List.zip_nil_left, List.zip_nil_right, List.foldl_cons, List.foldl_nil, Nat.reduceAdd, Nat.reduceSub, Nat.zero_add, Nat.add_zero, Nat.reduceLeDiff, true_and, and_true, if_true, Bool.false_eq_true, if_false]
      refine ⟨by omega, x % m, Nat.mod_lt _ (by omega), m, ⟨rfl, rfl⟩, ?_⟩
      rw [← hg, Nat.gcd_comm x m, Nat.gcd_rec m x, Nat.gcd_comm]
    · rename_i hc
      have hc : ¬ 0 < (m : Int) := fun z => hc (decide_eq_true z)
      have hm : m = 0 := by omega
      subst hm
      rw [Nat.gcd_zero_right] at hg
      rw [← hg]
      exact ⟨rfl, rfl⟩
  rintro δ σ' ⟨rfl, rfl⟩
  try simp only [wr_ok, w_var, w_c, w_p, w_nil, w_cons, w_call, w_tup, w_lst, w_lstC, w_dicC, w_B, w_and, w_or, w_not, w_andV, w_orV, w_if, w_chain, w_fld, w_meth, w_make, w_bm, w_rev, w_sortIt, w_get2, w_callV,
  w_next, w_seq, w_drop, w_ret, w_retN, w_break, w_cont, w_ifS, w_asg, w_gname, w_gsub, w_gtup, w_gnil, w_gcons, w_par, w_setFld, w_while, w_for, w_items, w_range1, w_lc, w_yes, w_def,
  der_int, der_bl, der_str, der_lst, der_frl, der_tup, der_dic, der_non, der_obj, der_raw, p_add, p_sub, p_mul, p_fdiv, p_mod, p_pow, p_neg, p_cmp, p_abs, p_min2, p_max2, p_eqI, p_notB, p_lenL, p_lenT, p_listL, newL_w, newLC_w, p_ixL, p_ixT,
  List.map_cons, List.map_nil, List.length_cons, List.length_nil, List.replicate_zero, List.replicate_succ, List.replicate, List.cons_append, List.nil_append, List.append_nil, List.getElem?_cons_zero, List.getElem?_cons_succ, List.set_cons_zero, List.set_cons_succ,
  List.zip_cons_cons, List.zip_nil_left, List.zip_nil_right, List.foldl_cons, List.foldl_nil, Nat.reduceAdd, Nat.reduceSub, Nat.zero_add, Nat.add_zero, Nat.reduceLeDiff, true_and, and_true, if_true, Bool.false_eq_true, if_false]
  exact K
/-- a fraction in lowest terms -/
def frD (a b : Int) : D := .tup [.int (a / (Int.gcd a b : Nat)), .int (b / (Int.gcd a b : Nat))]
theorem reduced_then {a b : Int} (ha : a.natAbs < 10 ^ 120) (b1 : 1 ≤ b) (hb : b < 10 ^ 40) (K : Φ (frD a b) τ) : WR (m_reduced [.int a, .int b] τ) Φ := by
  unfold m_reduced b_reduced
  have g0 : Int.gcd a b ≠ 0 := fun z => by
    have := (Int.gcd_eq_zero_iff.mp z).2
    omega
  have g1 : Int.gcd a b ≤ b.natAbs := Int.gcd_le_natAbs_right (a := a) (by omega)
  try simp only [wr_ok, w_var, w_c, w_p, w_nil, w_cons, w_call, w_tup, w_lst, w_lstC, w_dicC, w_B, w_and, w_or, w_not, w_andV, w_orV, w_if, w_chain, w_fld, w_meth, w_make, w_bm, w_rev, w_sortIt, w_get2, w_callV,
  w_next, w_seq, w_drop, w_ret, w_retN, w_break, w_cont, w_ifS, w_asg, w_gname, w_gsub, w_gtup, w_gnil, w_gcons, w_par, w_setFld, w_while, w_for, w_items, w_range1, w_lc, w_yes, w_def,
  der_int, der_bl, der_str, der_lst, der_frl, der_tup, der_dic, der_non, der_obj, der_raw, p_add, p_sub, p_mul, p_fdiv, p_mod, p_pow, p_neg, p_cmp, p_abs, p_min2, p_max2, p_eqI, p_notB, p_lenL, p_lenT, p_listL, newL_w, newLC_w, p_ixL, p_ixT,
  List.map_cons, List.map_nil, List.length_cons, List.length_nil, List.replicate_zero, List.replicate_succ, List.replicate, List.cons_append, List.nil_append, List.append_nil, List.getElem?_cons_zero, List.getElem?_cons_succ, List.set_cons_zero, List.set_cons_succ,
  List.zip_cons_cons, List.zip_nil_left, List.zip_nil_right, List.foldl_cons, List.foldl_nil, Nat.reduceAdd, Nat.reduceSub, Nat.zero_add, Nat.add_zero, Nat.reduceLeDiff, true_and, and_true, if_true, Bool.false_eq_true, if_false]
  refine gcd_then (by omega) ?_
  try simp only [wr_ok, w_var, w_c, w_p, w_nil, w_cons, w_call, w_tup, w_lst, w_lstC, w_dicC, w_B, w_and, w_or, w_not, w_andV, w_orV, w_if, w_chain, w_fld, w_meth, w_make, w_bm, w_rev, w_sortIt, w_get2, w_callV,
  w_next, w_seq, w_drop, w_ret, w_retN, w_break, w_cont, w_ifS, w_asg, w_gname, w_gsub, w_gtup, w_gnil, w_gcons, w_par, w_setFld, w_while, w_for, w_items, w_range1, w_lc, w_yes, w_def,
  der_int, der_bl, der_str, der_lst, der_frl, der_tup, der_dic, der_non, der_obj, der_raw, p_add, p_sub, p_mul, p_fdiv, p_mod, p_pow, p_neg, p_cmp, p_abs, p_min2, p_max2, p_eqI, p_notB, p_lenL, p_lenT, p_listL, newL_w, newLC_w, p_ixL, p_ixT,
  List.map_cons, List.map_nil, List.length_cons, List.length_nil, List.replicate_zero, List.replicate_succ, List.replicate, List.cons_append, List.nil_append, List.append_nil, List.getElem?_cons_zero, List.getElem?_cons_succ, List.set_cons_zero, List.set_cons_succ,
  List.zip_cons_cons, List.zip_nil_left, List.zip_nil_right, List.foldl_cons, List.foldl_nil, Nat.reduceAdd, Nat.reduceSub, Nat.zero_add, Nat.add_zero, Nat.reduceLeDiff, true_and, and_true, if_true, Bool.false_eq_true, if_false]
  refine ⟨⟨by omega, bigd_of (by omega)⟩, ⟨by omega, bigd_of (by omega)⟩, ?_⟩
  exact K
theorem law_fraction_then {a b : Int} (ha : a.natAbs < 10 ^ 120) (b1 : 1 ≤ b) (hb : b < 10 ^ 40) (K : Φ (frD a b) τ) : WR (m__law_fraction [.int a, .int b] τ) Φ := reduced_then ha b1 hb K
end
end DL

namespace DL
open PySem L2
section
variable {τ : List D} {Φ : D → List D → Prop} {n : Int}
theorem intsOf_map {l : List Int} : intsOf τ (l.map D.int) = some l := by
  induction l with
  | nil => rfl
  | cons x xs ih =>
    show (match der τ (D.int x), intsOf τ (xs.map D.int) with
      | .int i, some r => some (i :: r)
      | _, _ => none) = _
    rw [ih]; with_unfolding_all rfl
theorem p_minL {m : Int} {l : List Int} : WR (pMin [.lst ((m :: l).map D.int)] τ) Φ = Φ (.int (leastI m l)) τ := by
  unfold pMin
  simp only [der_lst, intsOf_map]
  with_unfolding_all rfl
/-- the arrival of the first departure of a service behind a time -/
def nxt (n x : Int) (s : Int × Int) : Int := s.2 + n * (0 - (s.1 - x) / n)
theorem nxt_ok {n x : Int} (hn : 1 ≤ n) (s : Int × Int) : x ≤ s.1 + (0 - (s.1 - x) / n) * n ∧ ∀ q : Int, x ≤ s.1 + q * n → nxt n x s ≤ s.2 + q * n := by
  have e := Int.mul_ediv_add_emod (s.1 - x) n
  have r0 := Int.emod_nonneg (s.1 - x) (show n ≠ 0 by omega)
  have r1 := Int.emod_lt_of_pos (s.1 - x) (show 0 < n by omega)
  have e2 : (0 - (s.1 - x) / n) * n = -(n * ((s.1 - x) / n)) := by rw [Int.zero_sub, Int.neg_mul, Int.mul_comm]
  refine ⟨by omega, fun q hq => ?_⟩
  unfold nxt
  have h : 0 - (s.1 - x) / n ≤ q := by
    rcases Int.lt_or_le q (0 - (s.1 - x) / n) with z | z
    · exfalso
      have h1 : (q + 1) * n ≤ (0 - (s.1 - x) / n) * n := Int.mul_le_mul_of_nonneg_right (by omega) (by omega)
      rw [Int.add_mul, Int.one_mul] at h1
      omega
    · exact z
  have := Int.mul_le_mul_of_nonneg_left h (show 0 ≤ n by omega)
  rw [Int.mul_comm n q] at this
  omega
theorem law_value_then {ss : List (Int × Int)} {x : Int} (n1 : 1 ≤ n) (n2 : n ≤ 10 ^ 100) (h1 : 1 ≤ ss.length) (h2 : ss.length ≤ 100000) (hx : x.natAbs ≤ 10 ^ 100) (hs : ∀ s ∈ ss, s.1.natAbs ≤ 10 ^ 100) (K : ∀ v, IsVal n ss x v → Φ (.int v) τ) :
    WR (m__law_value [.int n, .lst (ss.map pairD), .int x] τ) Φ := by
  unfold m__law_value b__law_value
  try simp only [wr_ok, w_var, w_c, w_p, w_nil, w_cons, w_call, w_tup, w_lst, w_lstC, w_dicC, w_B, w_and, w_or, w_not, w_andV, w_orV, w_if, w_chain, w_fld, w_meth, w_make, w_bm, w_rev, w_sortIt, w_get2, w_callV,
  w_next, w_seq, w_drop, w_ret, w_retN, w_break, w_cont, w_ifS, w_asg, w_gname, w_gsub, w_gtup, w_gnil, w_gcons, w_par, w_setFld, w_while, w_for, w_items, w_range1, w_lc, w_yes, w_def,
  der_int, der_bl, der_str, der_lst, der_frl, der_tup, der_dic, der_non, der_obj, der_raw, p_add, p_sub, p_mul, p_fdiv, p_mod, p_pow, p_neg, p_cmp, p_abs, p_min2, p_max2, p_eqI, p_notB, p_lenL, p_lenT, p_listL, newL_w, newLC_w, p_ixL, p_ixT,
  List.map_cons, List.map_nil, List.length_cons, List.length_nil, List.replicate_zero, List.replicate_succ, List.replicate, List.cons_append, List.nil_append, List.append_nil, List.getElem?_cons_zero, List.getElem?_cons_succ, List.set_cons_zero, List.set_cons_succ,
  List.zip_cons_cons, List.zip_nil_left, List.zip_nil_right, List.foldl_cons, List.foldl_nil, Nat.reduceAdd, Nat.reduceSub, Nat.zero_add, Nat.add_zero, Nat.reduceLeDiff, true_and, and_true, if_true, Bool.false_eq_true, if_false, wipeD]
  refine ⟨by rw [List.length_map]; unfold cap; omega, ?_⟩
  refine w_lcmap2 (u := pairD) (v := fun s => .int (nxt n x s)) (fun s hs' => ?_) ?_
  · have b := hs s hs'
    try simp only [wr_ok, w_var, w_c, w_p, w_nil, w_cons, w_call, w_tup, w_lst, w_lstC, w_dicC, w_B, w_and, w_or, w_not, w_andV, w_orV, w_if, w_chain, w_fld, w_meth, w_make, w_bm, w_rev, w_sortIt, w_get2, w_callV,
  w_next, w_seq, w_drop, w_ret, w_retN, w_break, w_cont, w_ifS, w_asg, w_gname, w_gsub, w_gtup, w_gnil, w_gcons, w_par, w_setFld, w_while, w_for, w_items, w_range1, w_lc, w_yes, w_def,
  der_int, der_bl, der_str, der_lst, der_frl, der_tup, der_dic, der_non, der_obj, der_raw, p_add, p_sub, p_mul, p_fdiv, p_mod, p_pow, p_neg, p_cmp, p_abs, p_min2, p_max2, p_eqI, p_notB, p_lenL, p_lenT, p_listL, newL_w, newLC_w, p_ixL, p_ixT,
  List.map_cons, List.map_nil, List.length_cons, List.length_nil, List.replicate_zero, List.replicate_succ, List.replicate, List.cons_append, List.nil_append, List.append_nil, List.getElem?_cons_zero, List.getElem?_cons_succ, List.set_cons_zero, List.set_cons_succ,
  List.zip_cons_cons, List.zip_nil_left, List.zip_nil_right, List.foldl_cons, List.foldl_nil, Nat.reduceAdd, Nat.reduceSub, Nat.zero_add, Nat.add_zero, Nat.reduceLeDiff, true_and, and_true, if_true, Bool.false_eq_true, if_false, der_pair, w_yes, wipeD]
    have e := Int.mul_ediv_add_emod (s.1 - x) n
    have r0 := Int.emod_nonneg (s.1 - x) (show n ≠ 0 by omega)
    have hd : ((s.1 - x) / n).natAbs ≤ 10 ^ 101 := by
      have h1 : (s.1 - x) / n ≤ 10 ^ 101 := by
        refine Int.ediv_le_of_le_mul (by omega) ?_
        have : (10 : Int) ^ 101 * 1 ≤ 10 ^ 101 * n := Int.mul_le_mul_of_nonneg_left n1 (by decide)
        omega
      have h2 : -10 ^ 101 ≤ (s.1 - x) / n := by
        refine Int.le_ediv_of_mul_le (by omega) ?_
        have : (10 : Int) ^ 101 * 1 ≤ 10 ^ 101 * n := Int.mul_le_mul_of_nonneg_left n1 (by decide)
        rw [Int.neg_mul]
        omega
      omega
    refine ⟨⟨by omega, bigd_of (by omega)⟩, ⟨big_of (by omega), big_of (by omega)⟩, rfl⟩
  · have em : ss.map (fun s => D.int (nxt n x s)) = (ss.map (nxt n x)).map D.int := by rw [List.map_map]; with_unfolding_all rfl
    rw [em]
    cases ss with
    | nil => simp at h1
    | cons s0 st =>
      rw [List.map_cons]
      try simp only [wr_ok, w_var, w_c, w_p, w_nil, w_cons, w_call, w_tup, w_lst, w_lstC, w_dicC, w_B, w_and, w_or, w_not, w_andV, w_orV, w_if, w_chain, w_fld, w_meth, w_make, w_bm, w_rev, w_sortIt, w_get2, w_callV,
  w_next, w_seq, w_drop, w_ret, w_retN, w_break, w_cont, w_ifS, w_asg, w_gname, w_gsub, w_gtup, w_gnil, w_gcons, w_par, w_setFld, w_while, w_for, w_items, w_range1, w_lc, w_yes, w_def,
  der_int, der_bl, der_str, der_lst, der_frl, der_tup, der_dic, der_non, der_obj, der_raw, p_add, p_sub, p_mul, p_fdiv, p_mod, p_pow, p_neg, p_cmp, p_abs, p_min2, p_max2, p_eqI, p_notB, p_lenL, p_lenT, p_listL, newL_w, newLC_w, p_ixL, p_ixT,
  List.map_cons, List.map_nil, List.length_cons, List.length_nil, List.replicate_zero, List.replicate_succ, List.replicate, List.cons_append, List.nil_append, List.append_nil, List.getElem?_cons_zero, List.getElem?_cons_succ, List.set_cons_zero, List.set_cons_succ,
  List.zip_cons_cons, List.zip_nil_left, List.zip_nil_right, List.foldl_cons, List.foldl_nil, Nat.reduceAdd, Nat.reduceSub, Nat.zero_add, Nat.add_zero, Nat.reduceLeDiff, true_and, and_true, if_true, Bool.false_eq_true, if_false]
      show WR (pMin [.lst ((nxt n x s0 :: st.map (nxt n x)).map D.int)] τ) Φ
      rw [p_minL]
      refine K _ ?_
      obtain ⟨m1, m2, m3⟩ := leastI_spec (st.map (nxt n x)) (nxt n x s0)
      have all : ∀ s ∈ s0 :: st, leastI (nxt n x s0) (st.map (nxt n x)) ≤ nxt n x s := fun s hs => by
        rcases List.mem_cons.mp hs with rfl | hs
        · exact m2
        · exact m3 _ (List.mem_map.mpr ⟨s, hs, rfl⟩)
      refine ⟨?_, fun s hs q hq => Int.le_trans (all s hs) ((nxt_ok n1 s).2 q hq)⟩
      have ex : ∃ s ∈ s0 :: st, leastI (nxt n x s0) (st.map (nxt n x)) = nxt n x s := by
        rcases m1 with m1 | m1
        · exact ⟨s0, List.mem_cons_self, m1⟩
        · obtain ⟨s, hs, e⟩ := List.mem_map.mp m1
          exact ⟨s, List.mem_cons_of_mem _ hs, e.symm⟩
      obtain ⟨s, hs, e⟩ := ex
      refine ⟨s, hs, 0 - (s.1 - x) / n, (nxt_ok n1 s).1, ?_⟩
      rw [e, nxt, Int.mul_comm n]
end
end DL

namespace DL
open PySem L2
/-! ### orbits -/
/-- x, f x, .. : k distinct classes, the next one is that of place s -/
structure Orb (n : Int) (f : Int → Int) (x : Int) (k s : Nat) : Prop where
  dis : ∀ i j, i < j → j < k → itr f i x % n ≠ itr f j x % n
  lt : s < k
  back : itr f k x % n = itr f s x % n
theorem Orb.uniq {n x : Int} {f : Int → Int} {k s k' s' : Nat} (a : Orb n f x k s) (b : Orb n f x k' s') : k = k' ∧ s = s' := by
  have h1 : k = k' := by
    rcases Nat.lt_trichotomy k k' with h | h | h
    · exact absurd a.back.symm (b.dis s k a.lt h)
    · exact h
    · exact absurd b.back.symm (a.dis s' k' b.lt h)
  subst h1
  refine ⟨rfl, ?_⟩
  have e : itr f s x % n = itr f s' x % n := by rw [← a.back, b.back]
  rcases Nat.lt_trichotomy s s' with h | h | h
  · exact absurd e (a.dis s s' h b.lt)
  · exact h
  · exact absurd e.symm (a.dis s' s h a.lt)
theorem nodup_le {α : Type} [DecidableEq α] : ∀ {l m : List α}, l.Nodup → (∀ x ∈ l, x ∈ m) → l.length ≤ m.length
  | [], _, _, _ => Nat.zero_le _
  | x :: l, m, h, hs => by
    have hx : x ∈ m := hs x List.mem_cons_self
    have h2 := List.nodup_cons.mp h
    have := nodup_le (l := l) (m := m.erase x) h2.2 fun y hy => (List.mem_erase_of_ne (fun e => h2.1 (by rw [← e]; exact hy))).mpr (hs y (List.mem_cons_of_mem _ hy))
    rw [List.length_erase_of_mem hx] at this
    have := List.length_pos_of_mem hx
    rw [List.length_cons]; omega
theorem orb_bound {n x : Int} {f : Int → Int} {k : Nat} {rows : List (Int × Int)} (dis : ∀ i j, i < j → j < k → itr f i x % n ≠ itr f j x % n) (hf : ∀ t, ∃ r ∈ rows, ∃ q : Int, f t = r.2 + q * n) : k ≤ rows.length + 1 := by
  have h := nodup_le (l := (List.range (k - 1)).map fun i => itr f (i + 1) x % n) (m := rows.map fun r => r.2 % n) ?_ ?_
  · simp only [List.length_map, List.length_range] at h; omega
  · rw [List.nodup_iff_pairwise_ne, List.pairwise_map]
    refine List.Pairwise.imp_of_mem ?_ (List.pairwise_lt_range (n := k - 1))
    intro a b ha hb hab
    have := List.mem_range.mp hb
    exact dis (a + 1) (b + 1) (by omega) (by omega)
  · intro y hy
    obtain ⟨i, _, rfl⟩ := List.mem_map.mp hy
    obtain ⟨r, hr, q, e⟩ := hf (itr f i x)
    refine List.mem_map.mpr ⟨r, hr, ?_⟩
    show r.2 % n = f (itr f i x) % n
    rw [e, Int.add_mul_emod_self_right]
/-- what the walk has seen -/
def sdD (n : Int) (f : Int → Int) (x : Int) (k : Nat) : List (Key × D) := (List.range k).map fun i => (Sum.inl (itr f i x % n), D.int i)
def tmD (f : Int → Int) (x : Int) (k : Nat) : List D := (List.range k).map fun i => D.int (itr f i x)
theorem valD_app {κ : Type} [DecidableEq κ] {l m : List (κ × D)} {c : κ} : valD (l ++ m) c = (valD l c).or (valD m c) := by
  induction l with
  | nil => rfl
  | cons p l ih =>
    show (if p.1 = c then some p.2 else valD (l ++ m) c) = (if p.1 = c then some p.2 else valD l c).or _
    split
    · rfl
    · exact ih
theorem putKD_app {κ : Type} [DecidableEq κ] {l : List (κ × D)} {c : κ} {d : D} (h : valD l c = none) : putKD c d l = l ++ [(c, d)] := by
  induction l with
  | nil => rfl
  | cons p l ih =>
    have h : (if p.1 = c then some p.2 else valD l c) = none := h
    show (if p.1 = c then (p.1, d) :: l else p :: putKD c d l) = _
    split at h
    · cases h
    · rename_i hc
      rw [if_neg hc, ih h]; with_unfolding_all rfl
theorem sd_none {n x c : Int} {f : Int → Int} : ∀ {k : Nat}, (∀ i, i < k → itr f i x % n ≠ c) → valD (sdD n f x k) (Sum.inl c) = none
  | 0, _ => rfl
  | k + 1, h => by
    unfold sdD
    rw [List.range_succ, List.map_append, valD_app]
    have e : valD (sdD n f x k) (Sum.inl c) = none := sd_none fun i hi => h i (by omega)
    unfold sdD at e
    rw [e]
    show (if (Sum.inl (itr f k x % n) : Key) = Sum.inl c then some (D.int k) else none) = none
    rw [if_neg (fun z => h k (by omega) (by injection z))]
theorem sd_some {n x c : Int} {f : Int → Int} {s : Nat} : ∀ {k : Nat}, (∀ i j, i < j → j < k → itr f i x % n ≠ itr f j x % n) → s < k → itr f s x % n = c → valD (sdD n f x k) (Sum.inl c) = some (.int s)
  | 0, _, h, _ => absurd h (Nat.not_lt_zero _)
  | k + 1, dis, hs, e => by
    unfold sdD
    rw [List.range_succ, List.map_append, valD_app]
    by_cases h : s < k
    · have z : valD (sdD n f x k) (Sum.inl c) = some (.int s) := sd_some (fun i j h1 h2 => dis i j h1 (by omega)) h e
      unfold sdD at z
      rw [z]; with_unfolding_all rfl
    · have hk : s = k := by omega
      subst hk
      have z : valD (sdD n f x s) (Sum.inl c) = none := sd_none fun i hi e' => dis i s hi (by omega) (by rw [e', e])
      unfold sdD at z
      rw [z]
      show (if (Sum.inl (itr f s x % n) : Key) = Sum.inl c then some (D.int s) else none) = _
      rw [e, if_pos rfl]
theorem sd_put {n x : Int} {f : Int → Int} {k : Nat} (h : ∀ i, i < k → itr f i x % n ≠ itr f k x % n) : putKD (Sum.inl (itr f k x % n)) (.int k) (sdD n f x k) = sdD n f x (k + 1) := by
  rw [putKD_app (sd_none h)]
  unfold sdD
  rw [List.range_succ, List.map_append]; with_unfolding_all rfl
theorem tm_app {x : Int} {f : Int → Int} {k : Nat} : tmD f x k ++ [.int (itr f k x)] = tmD f x (k + 1) := by
  unfold tmD
  rw [List.range_succ, List.map_append]; with_unfolding_all rfl
section
variable {σ : List D} {Φ : D → List D → Prop} {k : Nat} {kds : List (Key × D)} {xs : List D} {c : Int}
theorem p_inC {neg : Bool} (h : σ[k]? = some (.dic kds)) : WR (pIn neg [.int c, .cell k] σ) Φ = Φ (.bl (if neg then !(valD kds (Sum.inl c)).isSome else (valD kds (Sum.inl c)).isSome)) σ := by
  have e : der σ (.cell k) = .dic kds := by rw [der_cell, h]; with_unfolding_all rfl
  rw [p_in, e]; with_unfolding_all rfl
theorem p_setC {v : D} (h : σ[k]? = some (.dic kds)) : WR (pSet [.cell k, .int c, v] σ) Φ = (kds.length < cap ∧ Φ .non (σ.set k (.dic (putKD (Sum.inl c) v kds)))) := by
  unfold pSet
  simp only [h, keyOf]
  split <;> simp [WR, WR0, *]
theorem p_ixDC (h : σ[k]? = some (.dic kds)) : WR (pIx [.cell k, .int c] σ) Φ = (match valD kds (Sum.inl c) with | some d => Φ d σ | none => False) := by
  have e : der σ (.cell k) = .dic kds := by rw [der_cell, h]; with_unfolding_all rfl
  unfold pIx
  simp only [e, der_int, lookD, keyOf, Option.map_some]
  cases valD kds (Sum.inl c) <;> with_unfolding_all rfl
theorem p_ixLC (h : σ[k]? = some (.lst xs)) : WR (pIx [.cell k, .int c] σ) Φ = (match atI xs c with | some d => Φ d σ | none => False) := by
  have e : der σ (.cell k) = .lst xs := by rw [der_cell, h]; with_unfolding_all rfl
  unfold pIx
  simp only [e, der_int]
  cases atI xs c <;> with_unfolding_all rfl
theorem p_lenC (h : σ[k]? = some (.lst xs)) : WR (pLen [.cell k] σ) Φ = Φ (.int xs.length) σ := by
  have e : der σ (.cell k) = .lst xs := by rw [der_cell, h]; with_unfolding_all rfl
  unfold pLen
  simp only [e]; with_unfolding_all rfl
theorem p_appC {y : D} (h : σ[k]? = some (.lst xs)) : WR (pAppend [.cell k, y] σ) Φ = (xs.length < cap ∧ Φ .non (σ.set k (.lst (xs ++ [y])))) := by
  unfold pAppend
  simp only [h]
  split <;> simp [WR, WR0, *]
end
end DL

namespace DL
open PySem L2
section
variable {τ : List D} {Φ : D → List D → Prop} {n : Int}
theorem g2a {a b : D} : (τ ++ [a, b])[τ.length]? = some a := by simp
theorem g2b {a b : D} : (τ ++ [a, b])[τ.length + 1]? = some b := by simp
theorem s2a {a b c : D} : (τ ++ [a, b]).set τ.length c = τ ++ [c, b] := by simp
theorem s2b {a b c : D} : (τ ++ [a, b]).set (τ.length + 1) c = τ ++ [a, c] := by
  rw [List.set_append, if_neg (by omega), Nat.add_sub_cancel_left]; with_unfolding_all rfl
theorem app2 {a b : D} : τ ++ [a] ++ [b] = τ ++ [a, b] := by simp
theorem len1 {a : D} : (τ ++ [a]).length = τ.length + 1 := by simp
theorem law_turn_then {ss rows : List (Int × Int)} {x : Int} {f : Int → Int} (n1 : 1 ≤ n) (n2 : n ≤ 10 ^ 100) (h1 : 1 ≤ ss.length) (h2 : ss.length ≤ 1000) (hs : ∀ s ∈ ss, s.1.natAbs ≤ 10 ^ 100) (hl : rows.length ≤ 1000)
    (hB : ∀ k : Nat, k ≤ 1002 → (itr f k x).natAbs ≤ 10 ^ 100) (hv : ∀ t v, IsVal n ss t v → v = f t) (hf : ∀ t, ∃ r ∈ rows, ∃ q : Int, f t = r.2 + q * n)
    (K : ∀ k s, Orb n f x k s → k ≤ 1001 → Φ (.tup [.int s, .int ((itr f k x - itr f s x) / n), .int (k - s)]) τ) : WR (m__law_turn [.int n, .lst (ss.map pairD), .int x] τ) Φ := by
  unfold m__law_turn b__law_turn
  refine w_exitP ?_
  rw [w_def]
  generalize hsD : D.lst (ss.map pairD) = sD
  refine w_cut (fun δ τ' => At δ τ' [some (.int n), some sD, some (.int x), some (.cell τ.length), some (.cell (τ.length + 1)), none] (τ ++ [.dic [], .lst []])) (by try simp only [wr_ok, w_var, w_c, w_p, w_nil, w_cons, w_call, w_tup, w_lst, w_lstC, w_dicC, w_B, w_and, w_or, w_not, w_andV, w_orV, w_if, w_chain, w_fld, w_meth, w_make, w_bm, w_rev, w_sortIt, w_get2, w_callV,
  w_next, w_seq, w_drop, w_ret, w_retN, w_break, w_cont, w_ifS, w_asg, w_gname, w_gsub, w_gtup, w_gnil, w_gcons, w_par, w_setFld, w_while, w_for, w_items, w_range1, w_lc, w_yes, w_def,
  der_int, der_bl, der_str, der_lst, der_frl, der_tup, der_dic, der_non, der_obj, der_raw, p_add, p_sub, p_mul, p_fdiv, p_mod, p_pow, p_neg, p_cmp, p_abs, p_min2, p_max2, p_eqI, p_notB, p_lenL, p_lenT, p_listL, newL_w, newLC_w, p_ixL, p_ixT,
  List.map_cons, List.map_nil, List.length_cons, List.length_nil, List.replicate_zero, List.replicate_succ, List.replicate, List.cons_append, List.nil_append, List.append_nil, List.getElem?_cons_zero, List.getElem?_cons_succ, List.set_cons_zero, List.set_cons_succ,
  List.zip_cons_cons, List.zip_nil_left, List.zip_nil_right, List.foldl_cons, List.foldl_nil, Nat.reduceAdd, Nat.reduceSub, Nat.zero_add, Nat.add_zero, Nat.reduceLeDiff, true_and, and_true, if_true, Bool.false_eq_true, if_false, len1, app2]; exact ⟨rfl, rfl⟩) ?_
  rintro δ σ ⟨rfl, rfl⟩
  refine w_cut (fun δ τ' => ∃ k s, Orb n f x k s ∧ k ≤ 1001 ∧ At δ τ' [some (.int n), some sD, some (.int (itr f k x)), some (.cell τ.length), some (.cell (τ.length + 1)), none] (τ ++ [.dic (sdD n f x k), .lst (tmD f x k)])) ?_ ?_
  · rw [w_while]
    refine w_whileI (fun m δ τ' => ∃ k : Nat, At δ τ' [some (.int n), some sD, some (.int (itr f k x)), some (.cell τ.length), some (.cell (τ.length + 1)), none] (τ ++ [.dic (sdD n f x k), .lst (tmD f x k)]) ∧ (∀ i j, i < j → j < k → itr f i x % n ≠ itr f j x % n) ∧ m = rows.length + 2 - k)
      (rows.length + 2) (by unfold FUEL; omega) ⟨0, ⟨rfl, rfl⟩, fun _ _ _ h => absurd h (Nat.not_lt_zero _), rfl⟩ ?_
    rintro m δ τ' ⟨k, ⟨rfl, rfl⟩, dis, hm⟩
    have hk := orb_bound dis hf
    have hb := hB k (by omega)
    simp only [w_B, w_p, w_cons, w_nil, w_var, w_c, List.getElem?_cons_succ, List.getElem?_cons_zero, p_mod, der_bl]
    refine ⟨by omega, ?_⟩
    rw [p_inC g2a]
    simp only [der_bl, if_true]
    by_cases hc : ∃ i, i < k ∧ itr f i x % n = itr f k x % n
    · obtain ⟨s, hsk, he⟩ := hc
      rw [sd_some dis hsk he]
      simp only [Option.isSome_some, Bool.not_true, Bool.false_eq_true, if_false]
      exact ⟨k, s, ⟨dis, hsk, he.symm⟩, by omega, rfl, rfl⟩
    · have hno : ∀ i, i < k → itr f i x % n ≠ itr f k x % n := fun i hi e => hc ⟨i, hi, e⟩
      rw [sd_none hno]
      simp only [Option.isSome_none, Bool.not_false, if_true]
      have tl : (tmD f x k).length = k := by simp [tmD]
      have sl : (sdD n f x k).length = k := by simp [sdD]
      have dis' : ∀ i j, i < j → j < k + 1 → itr f i x % n ≠ itr f j x % n := fun i j h3 h4 => by
        by_cases h5 : j < k
        · exact dis i j h3 h5
        · have : j = k := by omega
          subst this; exact hno i h3
      have isT0 : isT "list" (der (τ ++ [D.dic (sdD n f x (k + 1)), D.lst (tmD f x k)]) (.cell (τ.length + 1))) = true := by rw [der_cell, g2b]; with_unfolding_all rfl
      try simp only [wr_ok, w_var, w_c, w_p, w_nil, w_cons, w_call, w_tup, w_lst, w_lstC, w_dicC, w_B, w_and, w_or, w_not, w_andV, w_orV, w_if, w_chain, w_fld, w_meth, w_make, w_bm, w_rev, w_sortIt, w_get2, w_callV,
  w_next, w_seq, w_drop, w_ret, w_retN, w_break, w_cont, w_ifS, w_asg, w_gname, w_gsub, w_gtup, w_gnil, w_gcons, w_par, w_setFld, w_while, w_for, w_items, w_range1, w_lc, w_yes, w_def,
  der_int, der_bl, der_str, der_lst, der_frl, der_tup, der_dic, der_non, der_obj, der_raw, p_add, p_sub, p_mul, p_fdiv, p_mod, p_pow, p_neg, p_cmp, p_abs, p_min2, p_max2, p_eqI, p_notB, p_lenL, p_lenT, p_listL, newL_w, newLC_w, p_ixL, p_ixT,
  List.map_cons, List.map_nil, List.length_cons, List.length_nil, List.replicate_zero, List.replicate_succ, List.replicate, List.cons_append, List.nil_append, List.append_nil, List.getElem?_cons_zero, List.getElem?_cons_succ, List.set_cons_zero, List.set_cons_succ,
  List.zip_cons_cons, List.zip_nil_left, List.zip_nil_right, List.foldl_cons, List.foldl_nil, Nat.reduceAdd, Nat.reduceSub, Nat.zero_add, Nat.add_zero, Nat.reduceLeDiff, true_and, and_true, if_true, Bool.false_eq_true, if_false, p_lenC g2b]
      refine ⟨by omega, ?_⟩
      rw [p_setC g2a, tl]
      refine ⟨by rw [sl]; unfold cap; omega, ?_⟩
      rw [s2a, sd_put hno]
      try simp only [wr_ok, w_var, w_c, w_p, w_nil, w_cons, w_call, w_tup, w_lst, w_lstC, w_dicC, w_B, w_and, w_or, w_not, w_andV, w_orV, w_if, w_chain, w_fld, w_meth, w_make, w_bm, w_rev, w_sortIt, w_get2, w_callV,
  w_next, w_seq, w_drop, w_ret, w_retN, w_break, w_cont, w_ifS, w_asg, w_gname, w_gsub, w_gtup, w_gnil, w_gcons, w_par, w_setFld, w_while, w_for, w_items, w_range1, w_lc, w_yes, w_def,
  der_int, der_bl, der_str, der_lst, der_frl, der_tup, der_dic, der_non, der_obj, der_raw, p_add, p_sub, p_mul, p_fdiv, p_mod, p_pow, p_neg, p_cmp, p_abs, p_min2, p_max2, p_eqI, p_notB, p_lenL, p_lenT, p_listL, newL_w, newLC_w, p_ixL, p_ixT,
  List.map_cons, List.map_nil, List.length_cons, List.length_nil, List.replicate_zero, List.replicate_succ, List.replicate, List.cons_append, List.nil_append, List.append_nil, List.getElem?_cons_zero, List.getElem?_cons_succ, List.set_cons_zero, List.set_cons_succ,
  List.zip_cons_cons, List.zip_nil_left, List.zip_nil_right, List.foldl_cons, List.foldl_nil, Nat.reduceAdd, Nat.reduceSub, Nat.zero_add, Nat.add_zero, Nat.reduceLeDiff, true_and, and_true, if_true, Bool.false_eq_true, if_false, isT0]
      rw [p_appC g2b]
      refine ⟨by rw [tl]; unfold cap; omega, ?_⟩
      rw [s2b, tm_app]
      try simp only [wr_ok, w_var, w_c, w_p, w_nil, w_cons, w_call, w_tup, w_lst, w_lstC, w_dicC, w_B, w_and, w_or, w_not, w_andV, w_orV, w_if, w_chain, w_fld, w_meth, w_make, w_bm, w_rev, w_sortIt, w_get2, w_callV,
  w_next, w_seq, w_drop, w_ret, w_retN, w_break, w_cont, w_ifS, w_asg, w_gname, w_gsub, w_gtup, w_gnil, w_gcons, w_par, w_setFld, w_while, w_for, w_items, w_range1, w_lc, w_yes, w_def,
  der_int, der_bl, der_str, der_lst, der_frl, der_tup, der_dic, der_non, der_obj, der_raw, p_add, p_sub, p_mul, p_fdiv, p_mod, p_pow, p_neg, p_cmp, p_abs, p_min2, p_max2, p_eqI, p_notB, p_lenL, p_lenT, p_listL, newL_w, newLC_w, p_ixL, p_ixT,
  List.map_cons, List.map_nil, List.length_cons, List.length_nil, List.replicate_zero, List.replicate_succ, List.replicate, List.cons_append, List.nil_append, List.append_nil, List.getElem?_cons_zero, List.getElem?_cons_succ, List.set_cons_zero, List.set_cons_succ,
  List.zip_cons_cons, List.zip_nil_left, List.zip_nil_right, List.foldl_cons, List.foldl_nil, Nat.reduceAdd, Nat.reduceSub, Nat.zero_add, Nat.add_zero, Nat.reduceLeDiff, true_and, and_true, if_true, Bool.false_eq_true, if_false]
      rw [← hsD]
      refine law_value_then n1 n2 h1 (Nat.le_trans h2 (by decide)) hb hs fun v hv' => ?_
      rw [hv _ _ hv', hsD]
      exact ⟨rows.length + 2 - (k + 1), by omega, k + 1, ⟨rfl, rfl⟩, dis', rfl⟩
  rintro δ σ ⟨k, s, O, hk, rfl, rfl⟩
  have hb := hB k (by omega)
  have hb2 := hB s (by have := O.lt; omega)
  have tl : (tmD f x k).length = k := by simp [tmD]
  have at1 : atI (tmD f x k) (s : Int) = some (.int (itr f s x)) := by
    obtain ⟨d, e1, e2⟩ := atI_nat (xs := tmD f x k) (j := (s : Int)) (by omega) (by rw [tl]; have := O.lt; omega)
    rw [e1]
    unfold tmD at e2
    rw [Int.toNat_natCast, List.getElem?_map, List.getElem?_range O.lt] at e2
    exact e2.symm
  refine w_cut (fun δ τ' => At δ τ' [some (.int n), some sD, some (.int (itr f k x)), some (.cell τ.length), some (.cell (τ.length + 1)), some (.int s)] (τ ++ [.dic (sdD n f x k), .lst (tmD f x k)])) ?_ ?_
  · try simp only [wr_ok, w_var, w_c, w_p, w_nil, w_cons, w_call, w_tup, w_lst, w_lstC, w_dicC, w_B, w_and, w_or, w_not, w_andV, w_orV, w_if, w_chain, w_fld, w_meth, w_make, w_bm, w_rev, w_sortIt, w_get2, w_callV,
  w_next, w_seq, w_drop, w_ret, w_retN, w_break, w_cont, w_ifS, w_asg, w_gname, w_gsub, w_gtup, w_gnil, w_gcons, w_par, w_setFld, w_while, w_for, w_items, w_range1, w_lc, w_yes, w_def,
  der_int, der_bl, der_str, der_lst, der_frl, der_tup, der_dic, der_non, der_obj, der_raw, p_add, p_sub, p_mul, p_fdiv, p_mod, p_pow, p_neg, p_cmp, p_abs, p_min2, p_max2, p_eqI, p_notB, p_lenL, p_lenT, p_listL, newL_w, newLC_w, p_ixL, p_ixT,
  List.map_cons, List.map_nil, List.length_cons, List.length_nil, List.replicate_zero, List.replicate_succ, List.replicate, List.cons_append, List.nil_append, List.append_nil, List.getElem?_cons_zero, List.getElem?_cons_succ, List.set_cons_zero, List.set_cons_succ,
  List.zip_cons_cons, List.zip_nil_left, List.zip_nil_right, List.foldl_cons, List.foldl_nil, Nat.reduceAdd, Nat.reduceSub, Nat.zero_add, Nat.add_zero, Nat.reduceLeDiff, true_and, and_true, if_true, Bool.false_eq_true, if_false]
    refine ⟨by omega, ?_⟩
    rw [p_ixDC g2a, sd_some O.dis O.lt O.back.symm]
    try simp only [wr_ok, w_var, w_c, w_p, w_nil, w_cons, w_call, w_tup, w_lst, w_lstC, w_dicC, w_B, w_and, w_or, w_not, w_andV, w_orV, w_if, w_chain, w_fld, w_meth, w_make, w_bm, w_rev, w_sortIt, w_get2, w_callV,
  w_next, w_seq, w_drop, w_ret, w_retN, w_break, w_cont, w_ifS, w_asg, w_gname, w_gsub, w_gtup, w_gnil, w_gcons, w_par, w_setFld, w_while, w_for, w_items, w_range1, w_lc, w_yes, w_def,
  der_int, der_bl, der_str, der_lst, der_frl, der_tup, der_dic, der_non, der_obj, der_raw, p_add, p_sub, p_mul, p_fdiv, p_mod, p_pow, p_neg, p_cmp, p_abs, p_min2, p_max2, p_eqI, p_notB, p_lenL, p_lenT, p_listL, newL_w, newLC_w, p_ixL, p_ixT,
  List.map_cons, List.map_nil, List.length_cons, List.length_nil, List.replicate_zero, List.replicate_succ, List.replicate, List.cons_append, List.nil_append, List.append_nil, List.getElem?_cons_zero, List.getElem?_cons_succ, List.set_cons_zero, List.set_cons_succ,
  List.zip_cons_cons, List.zip_nil_left, List.zip_nil_right, List.foldl_cons, List.foldl_nil, Nat.reduceAdd, Nat.reduceSub, Nat.zero_add, Nat.add_zero, Nat.reduceLeDiff, true_and, and_true, if_true, Bool.false_eq_true, if_false]
    exact ⟨rfl, rfl⟩
  rintro δ σ ⟨rfl, rfl⟩
  try simp only [wr_ok, w_var, w_c, w_p, w_nil, w_cons, w_call, w_tup, w_lst, w_lstC, w_dicC, w_B, w_and, w_or, w_not, w_andV, w_orV, w_if, w_chain, w_fld, w_meth, w_make, w_bm, w_rev, w_sortIt, w_get2, w_callV,
  w_next, w_seq, w_drop, w_ret, w_retN, w_break, w_cont, w_ifS, w_asg, w_gname, w_gsub, w_gtup, w_gnil, w_gcons, w_par, w_setFld, w_while, w_for, w_items, w_range1, w_lc, w_yes, w_def,
  der_int, der_bl, der_str, der_lst, der_frl, der_tup, der_dic, der_non, der_obj, der_raw, p_add, p_sub, p_mul, p_fdiv, p_mod, p_pow, p_neg, p_cmp, p_abs, p_min2, p_max2, p_eqI, p_notB, p_lenL, p_lenT, p_listL, newL_w, newLC_w, p_ixL, p_ixT,
  List.map_cons, List.map_nil, List.length_cons, List.length_nil, List.replicate_zero, List.replicate_succ, List.replicate, List.cons_append, List.nil_append, List.append_nil, List.getElem?_cons_zero, List.getElem?_cons_succ, List.set_cons_zero, List.set_cons_succ,
  List.zip_cons_cons, List.zip_nil_left, List.zip_nil_right, List.foldl_cons, List.foldl_nil, Nat.reduceAdd, Nat.reduceSub, Nat.zero_add, Nat.add_zero, Nat.reduceLeDiff, true_and, and_true, if_true, Bool.false_eq_true, if_false, p_ixLC g2b, at1, p_lenC g2b]
  refine ⟨⟨by omega, bigd_of (by omega)⟩, ?_⟩
  rw [tl]
  refine ⟨pla_tup fun d hd => ?_, older_self _, by simpa using K k s O hk⟩
  simp only [List.mem_cons, List.not_mem_nil, or_false] at hd
  rcases hd with rfl | rfl | rfl <;> exact pla_int _
end
end DL

namespace DL
open PySem L2
section
variable {τ : List D} {Φ : D → List D → Prop} {n : Int}
theorem g3a {a b c : D} : (τ ++ [a, b, c])[τ.length]? = some a := by simp
theorem g3b {a b c : D} : (τ ++ [a, b, c])[τ.length + 1]? = some b := by simp
theorem g3c {a b c : D} : (τ ++ [a, b, c])[τ.length + 2]? = some c := by simp
theorem s3a {a b c d : D} : (τ ++ [a, b, c]).set τ.length d = τ ++ [d, b, c] := by simp
theorem s3b {a b c d : D} : (τ ++ [a, b, c]).set (τ.length + 1) d = τ ++ [a, d, c] := by
  rw [List.set_append, if_neg (by omega), Nat.add_sub_cancel_left]; with_unfolding_all rfl
theorem s3c {a b c d : D} : (τ ++ [a, b, c]).set (τ.length + 2) d = τ ++ [a, b, d] := by
  rw [List.set_append, if_neg (by omega), Nat.add_sub_cancel_left]; with_unfolding_all rfl
theorem app3 {a b c : D} : τ ++ [a, b] ++ [c] = τ ++ [a, b, c] := by simp
theorem len2 {a b : D} : (τ ++ [a, b]).length = τ.length + 2 := by simp
/-- a track's fields while it is made -/
def trF (τ : List D) : List (Str × D) := [("times", .cell (τ.length + 1))]
theorem tr_times {τ : List D} : lookF "times" (trF τ) = some (.cell (τ.length + 1)) := (rfl)
theorem track_init_then {C T : PySem.Addr} {rows : List (Int × Int)} {x : Int} (R : Mp n rows) (n1 : 1 ≤ n) (n2 : n ≤ 10 ^ 100) (hl : rows.length ≤ 1000)
    (hB : ∀ k : Nat, k ≤ 1002 → (itr (DL.val n rows) k x).natAbs ≤ 10 ^ 100)
    (K : ∀ k s, Orb n (DL.val n rows) x k s → k ≤ 1001 → Φ .non (τ ++ [.obj T (putD "gain" (.int (itr (DL.val n rows) k x - itr (DL.val n rows) s x)) (putD "start" (.int s) (trF τ))), .lst (tmD (DL.val n rows) x k), .dic (sdD n (DL.val n rows) x k)])) :
    WR (m_Track_init C T [.cell τ.length, .obj C (mapF n rows), .int x] (τ ++ [.obj T []])) Φ := by
  have hf : ∀ t, ∃ r ∈ rows, ∃ q : Int, DL.val n rows t = r.2 + q * n := fun t => by
    obtain ⟨r, hr, q, _, e⟩ := (R.val n1 t).ex
    exact ⟨r, hr, q, e⟩
  have hv : ∀ t v, IsVal n rows t v → v = DL.val n rows t := fun t v h => h.uniq (R.val n1 t)
  generalize DL.val n rows = f at hB K hf hv
  unfold m_Track_init b_Track_init
  rw [w_def]
  refine w_cut (fun δ τ' => At δ τ' [some (.cell τ.length), some (.obj C (mapF n rows)), some (.int x), none] (τ ++ [.obj T (trF τ), .lst []])) ?_ ?_
  · try simp only [wr_ok, w_var, w_c, w_p, w_nil, w_cons, w_call, w_tup, w_lst, w_lstC, w_dicC, w_B, w_and, w_or, w_not, w_andV, w_orV, w_if, w_chain, w_fld, w_meth, w_make, w_bm, w_rev, w_sortIt, w_get2, w_callV,
  w_next, w_seq, w_drop, w_ret, w_retN, w_break, w_cont, w_ifS, w_asg, w_gname, w_gsub, w_gtup, w_gnil, w_gcons, w_par, w_setFld, w_while, w_for, w_items, w_range1, w_lc, w_yes, w_def,
  der_int, der_bl, der_str, der_lst, der_frl, der_tup, der_dic, der_non, der_obj, der_raw, p_add, p_sub, p_mul, p_fdiv, p_mod, p_pow, p_neg, p_cmp, p_abs, p_min2, p_max2, p_eqI, p_notB, p_lenL, p_lenT, p_listL, newL_w, newLC_w, p_ixL, p_ixT,
  List.map_cons, List.map_nil, List.length_cons, List.length_nil, List.replicate_zero, List.replicate_succ, List.replicate, List.cons_append, List.nil_append, List.append_nil, List.getElem?_cons_zero, List.getElem?_cons_succ, List.set_cons_zero, List.set_cons_succ,
  List.zip_cons_cons, List.zip_nil_left, List.zip_nil_right, List.foldl_cons, List.foldl_nil, Nat.reduceAdd, Nat.reduceSub, Nat.zero_add, Nat.add_zero, Nat.reduceLeDiff, true_and, and_true, if_true, Bool.false_eq_true, if_false, len1, app2, g2a, s2a, putD]
    exact ⟨by decide, rfl, rfl⟩
  rintro δ σ ⟨rfl, rfl⟩
  refine w_cut (fun δ τ' => At δ τ' [some (.cell τ.length), some (.obj C (mapF n rows)), some (.int x), some (.cell (τ.length + 2))] (τ ++ [.obj T (trF τ), .lst [], .dic []])) ?_ ?_
  · try simp only [wr_ok, w_var, w_c, w_p, w_nil, w_cons, w_call, w_tup, w_lst, w_lstC, w_dicC, w_B, w_and, w_or, w_not, w_andV, w_orV, w_if, w_chain, w_fld, w_meth, w_make, w_bm, w_rev, w_sortIt, w_get2, w_callV,
  w_next, w_seq, w_drop, w_ret, w_retN, w_break, w_cont, w_ifS, w_asg, w_gname, w_gsub, w_gtup, w_gnil, w_gcons, w_par, w_setFld, w_while, w_for, w_items, w_range1, w_lc, w_yes, w_def,
  der_int, der_bl, der_str, der_lst, der_frl, der_tup, der_dic, der_non, der_obj, der_raw, p_add, p_sub, p_mul, p_fdiv, p_mod, p_pow, p_neg, p_cmp, p_abs, p_min2, p_max2, p_eqI, p_notB, p_lenL, p_lenT, p_listL, newL_w, newLC_w, p_ixL, p_ixT,
  List.map_cons, List.map_nil, List.length_cons, List.length_nil, List.replicate_zero, List.replicate_succ, List.replicate, List.cons_append, List.nil_append, List.append_nil, List.getElem?_cons_zero, List.getElem?_cons_succ, List.set_cons_zero, List.set_cons_succ,
  List.zip_cons_cons, List.zip_nil_left, List.zip_nil_right, List.foldl_cons, List.foldl_nil, Nat.reduceAdd, Nat.reduceSub, Nat.zero_add, Nat.add_zero, Nat.reduceLeDiff, true_and, and_true, if_true, Bool.false_eq_true, if_false, len2, app3]
    exact ⟨rfl, rfl⟩
  rintro δ σ ⟨rfl, rfl⟩
  refine w_cut (fun δ τ' => ∃ k s, Orb n f x k s ∧ k ≤ 1001 ∧ At δ τ' [some (.cell τ.length), some (.obj C (mapF n rows)), some (.int (itr f k x)), some (.cell (τ.length + 2))] (τ ++ [.obj T (trF τ), .lst (tmD f x k), .dic (sdD n f x k)])) ?_ ?_
  · rw [w_while]
    refine w_whileI (fun m δ τ' => ∃ k : Nat, At δ τ' [some (.cell τ.length), some (.obj C (mapF n rows)), some (.int (itr f k x)), some (.cell (τ.length + 2))] (τ ++ [.obj T (trF τ), .lst (tmD f x k), .dic (sdD n f x k)]) ∧ (∀ i j, i < j → j < k → itr f i x % n ≠ itr f j x % n) ∧ m = rows.length + 2 - k)
      (rows.length + 2) (by unfold FUEL; omega) ⟨0, ⟨rfl, rfl⟩, fun _ _ _ h => absurd h (Nat.not_lt_zero _), rfl⟩ ?_
    rintro m δ τ' ⟨k, ⟨rfl, rfl⟩, dis, hm⟩
    have hk := orb_bound dis hf
    have hb := hB k (by omega)
    have do0 : ∀ {a b : D}, der (τ ++ [D.obj T (trF τ), a, b]) (.cell τ.length) = .obj T (trF τ) := fun {a b} => by rw [der_cell, g3a]; with_unfolding_all rfl
    simp only [w_B, w_p, w_cons, w_nil, w_var, w_c, w_fld, der_obj, look_length, true_and, List.getElem?_cons_succ, List.getElem?_cons_zero, p_mod, der_bl]
    refine ⟨by omega, ?_⟩
    rw [p_inC g3c]
    simp only [der_bl, if_true]
    by_cases hc : ∃ i, i < k ∧ itr f i x % n = itr f k x % n
    · obtain ⟨s, hsk, he⟩ := hc
      rw [sd_some dis hsk he]
      simp only [Option.isSome_some, Bool.not_true, Bool.false_eq_true, if_false]
      exact ⟨k, s, ⟨dis, hsk, he.symm⟩, by omega, rfl, rfl⟩
    · have hno : ∀ i, i < k → itr f i x % n ≠ itr f k x % n := fun i hi e => hc ⟨i, hi, e⟩
      rw [sd_none hno]
      simp only [Option.isSome_none, Bool.not_false, if_true]
      have tl : (tmD f x k).length = k := by simp [tmD]
      have sl : (sdD n f x k).length = k := by simp [sdD]
      have dis' : ∀ i j, i < j → j < k + 1 → itr f i x % n ≠ itr f j x % n := fun i j h3 h4 => by
        by_cases h5 : j < k
        · exact dis i j h3 h5
        · have : j = k := by omega
          subst this; exact hno i h3
      have isT0 : isT "list" (der (τ ++ [D.obj T (trF τ), D.lst (tmD f x k), D.dic (sdD n f x (k + 1))]) (.cell (τ.length + 1))) = true := by rw [der_cell, g3b]; with_unfolding_all rfl
      try simp only [wr_ok, w_var, w_c, w_p, w_nil, w_cons, w_call, w_tup, w_lst, w_lstC, w_dicC, w_B, w_and, w_or, w_not, w_andV, w_orV, w_if, w_chain, w_fld, w_meth, w_make, w_bm, w_rev, w_sortIt, w_get2, w_callV,
  w_next, w_seq, w_drop, w_ret, w_retN, w_break, w_cont, w_ifS, w_asg, w_gname, w_gsub, w_gtup, w_gnil, w_gcons, w_par, w_setFld, w_while, w_for, w_items, w_range1, w_lc, w_yes, w_def,
  der_int, der_bl, der_str, der_lst, der_frl, der_tup, der_dic, der_non, der_obj, der_raw, p_add, p_sub, p_mul, p_fdiv, p_mod, p_pow, p_neg, p_cmp, p_abs, p_min2, p_max2, p_eqI, p_notB, p_lenL, p_lenT, p_listL, newL_w, newLC_w, p_ixL, p_ixT,
  List.map_cons, List.map_nil, List.length_cons, List.length_nil, List.replicate_zero, List.replicate_succ, List.replicate, List.cons_append, List.nil_append, List.append_nil, List.getElem?_cons_zero, List.getElem?_cons_succ, List.set_cons_zero, List.set_cons_succ,
  List.zip_cons_cons, List.zip_nil_left, List.zip_nil_right, List.foldl_cons, List.foldl_nil, Nat.reduceAdd, Nat.reduceSub, Nat.zero_add, Nat.add_zero, Nat.reduceLeDiff, true_and, and_true, if_true, Bool.false_eq_true, if_false, do0, tr_times, look_length, p_lenC g3b]
      refine ⟨by omega, ?_⟩
      rw [p_setC g3c, tl]
      refine ⟨by rw [sl]; unfold cap; omega, ?_⟩
      rw [s3c, sd_put hno]
      try simp only [wr_ok, w_var, w_c, w_p, w_nil, w_cons, w_call, w_tup, w_lst, w_lstC, w_dicC, w_B, w_and, w_or, w_not, w_andV, w_orV, w_if, w_chain, w_fld, w_meth, w_make, w_bm, w_rev, w_sortIt, w_get2, w_callV,
  w_next, w_seq, w_drop, w_ret, w_retN, w_break, w_cont, w_ifS, w_asg, w_gname, w_gsub, w_gtup, w_gnil, w_gcons, w_par, w_setFld, w_while, w_for, w_items, w_range1, w_lc, w_yes, w_def,
  der_int, der_bl, der_str, der_lst, der_frl, der_tup, der_dic, der_non, der_obj, der_raw, p_add, p_sub, p_mul, p_fdiv, p_mod, p_pow, p_neg, p_cmp, p_abs, p_min2, p_max2, p_eqI, p_notB, p_lenL, p_lenT, p_listL, newL_w, newLC_w, p_ixL, p_ixT,
  List.map_cons, List.map_nil, List.length_cons, List.length_nil, List.replicate_zero, List.replicate_succ, List.replicate, List.cons_append, List.nil_append, List.append_nil, List.getElem?_cons_zero, List.getElem?_cons_succ, List.set_cons_zero, List.set_cons_succ,
  List.zip_cons_cons, List.zip_nil_left, List.zip_nil_right, List.foldl_cons, List.foldl_nil, Nat.reduceAdd, Nat.reduceSub, Nat.zero_add, Nat.add_zero, Nat.reduceLeDiff, true_and, and_true, if_true, Bool.false_eq_true, if_false, do0, tr_times, isT0]
      rw [p_appC g3b]
      refine ⟨by rw [tl]; unfold cap; omega, ?_⟩
      rw [s3b, tm_app]
      have lk : lookF "apply" (mapF n rows) = none := by
        have a1 : (("apply" : Str) == ("length" : Str)) = false := by decide +kernel
        have a2 : (("apply" : Str) == ("rows" : Str)) = false := by decide +kernel
        simp only [lookF, mapF, List.lookup_cons, a1, a2]; with_unfolding_all rfl
      try simp only [wr_ok, w_var, w_c, w_p, w_nil, w_cons, w_call, w_tup, w_lst, w_lstC, w_dicC, w_B, w_and, w_or, w_not, w_andV, w_orV, w_if, w_chain, w_fld, w_meth, w_make, w_bm, w_rev, w_sortIt, w_get2, w_callV,
  w_next, w_seq, w_drop, w_ret, w_retN, w_break, w_cont, w_ifS, w_asg, w_gname, w_gsub, w_gtup, w_gnil, w_gcons, w_par, w_setFld, w_while, w_for, w_items, w_range1, w_lc, w_yes, w_def,
  der_int, der_bl, der_str, der_lst, der_frl, der_tup, der_dic, der_non, der_obj, der_raw, p_add, p_sub, p_mul, p_fdiv, p_mod, p_pow, p_neg, p_cmp, p_abs, p_min2, p_max2, p_eqI, p_notB, p_lenL, p_lenT, p_listL, newL_w, newLC_w, p_ixL, p_ixT,
  List.map_cons, List.map_nil, List.length_cons, List.length_nil, List.replicate_zero, List.replicate_succ, List.replicate, List.cons_append, List.nil_append, List.append_nil, List.getElem?_cons_zero, List.getElem?_cons_succ, List.set_cons_zero, List.set_cons_succ,
  List.zip_cons_cons, List.zip_nil_left, List.zip_nil_right, List.foldl_cons, List.foldl_nil, Nat.reduceAdd, Nat.reduceSub, Nat.zero_add, Nat.add_zero, Nat.reduceLeDiff, true_and, and_true, if_true, Bool.false_eq_true, if_false, lk]
      refine apply_then R n1 n2 hl hb fun v hv' => ?_
      rw [hv _ _ hv']
      exact ⟨rows.length + 2 - (k + 1), by omega, k + 1, ⟨rfl, rfl⟩, dis', rfl⟩
  rintro δ σ ⟨k, s, O, hk, rfl, rfl⟩
  have do0 : ∀ {a b : D} {F : List (Str × D)}, der (τ ++ [D.obj T F, a, b]) (.cell τ.length) = .obj T F := fun {a b F} => by rw [der_cell, g3a]; with_unfolding_all rfl
  have tl : (tmD f x k).length = k := by simp [tmD]
  have at1 : atI (tmD f x k) (s : Int) = some (.int (itr f s x)) := by
    obtain ⟨d, e1, e2⟩ := atI_nat (xs := tmD f x k) (j := (s : Int)) (by omega) (by rw [tl]; have := O.lt; omega)
    rw [e1]
    unfold tmD at e2
    rw [Int.toNat_natCast, List.getElem?_map, List.getElem?_range O.lt] at e2
    exact e2.symm
  refine w_cut (fun δ τ' => At δ τ' [some (.cell τ.length), some (.obj C (mapF n rows)), some (.int (itr f k x)), some (.cell (τ.length + 2))] (τ ++ [.obj T (putD "start" (.int s) (trF τ)), .lst (tmD f x k), .dic (sdD n f x k)])) ?_ ?_
  · try simp only [wr_ok, w_var, w_c, w_p, w_nil, w_cons, w_call, w_tup, w_lst, w_lstC, w_dicC, w_B, w_and, w_or, w_not, w_andV, w_orV, w_if, w_chain, w_fld, w_meth, w_make, w_bm, w_rev, w_sortIt, w_get2, w_callV,
  w_next, w_seq, w_drop, w_ret, w_retN, w_break, w_cont, w_ifS, w_asg, w_gname, w_gsub, w_gtup, w_gnil, w_gcons, w_par, w_setFld, w_while, w_for, w_items, w_range1, w_lc, w_yes, w_def,
  der_int, der_bl, der_str, der_lst, der_frl, der_tup, der_dic, der_non, der_obj, der_raw, p_add, p_sub, p_mul, p_fdiv, p_mod, p_pow, p_neg, p_cmp, p_abs, p_min2, p_max2, p_eqI, p_notB, p_lenL, p_lenT, p_listL, newL_w, newLC_w, p_ixL, p_ixT,
  List.map_cons, List.map_nil, List.length_cons, List.length_nil, List.replicate_zero, List.replicate_succ, List.replicate, List.cons_append, List.nil_append, List.append_nil, List.getElem?_cons_zero, List.getElem?_cons_succ, List.set_cons_zero, List.set_cons_succ,
  List.zip_cons_cons, List.zip_nil_left, List.zip_nil_right, List.foldl_cons, List.foldl_nil, Nat.reduceAdd, Nat.reduceSub, Nat.zero_add, Nat.add_zero, Nat.reduceLeDiff, true_and, and_true, if_true, Bool.false_eq_true, if_false, look_length]
    refine ⟨by omega, ?_⟩
    rw [p_ixDC g3c, sd_some O.dis O.lt O.back.symm]
    try simp only [wr_ok, w_var, w_c, w_p, w_nil, w_cons, w_call, w_tup, w_lst, w_lstC, w_dicC, w_B, w_and, w_or, w_not, w_andV, w_orV, w_if, w_chain, w_fld, w_meth, w_make, w_bm, w_rev, w_sortIt, w_get2, w_callV,
  w_next, w_seq, w_drop, w_ret, w_retN, w_break, w_cont, w_ifS, w_asg, w_gname, w_gsub, w_gtup, w_gnil, w_gcons, w_par, w_setFld, w_while, w_for, w_items, w_range1, w_lc, w_yes, w_def,
  der_int, der_bl, der_str, der_lst, der_frl, der_tup, der_dic, der_non, der_obj, der_raw, p_add, p_sub, p_mul, p_fdiv, p_mod, p_pow, p_neg, p_cmp, p_abs, p_min2, p_max2, p_eqI, p_notB, p_lenL, p_lenT, p_listL, newL_w, newLC_w, p_ixL, p_ixT,
  List.map_cons, List.map_nil, List.length_cons, List.length_nil, List.replicate_zero, List.replicate_succ, List.replicate, List.cons_append, List.nil_append, List.append_nil, List.getElem?_cons_zero, List.getElem?_cons_succ, List.set_cons_zero, List.set_cons_succ,
  List.zip_cons_cons, List.zip_nil_left, List.zip_nil_right, List.foldl_cons, List.foldl_nil, Nat.reduceAdd, Nat.reduceSub, Nat.zero_add, Nat.add_zero, Nat.reduceLeDiff, true_and, and_true, if_true, Bool.false_eq_true, if_false, g3a, s3a]
    exact ⟨by simp [trF], rfl, rfl⟩
  rintro δ σ ⟨rfl, rfl⟩
  have l1 : lookF "times" (putD "start" (.int s) (trF τ)) = some (.cell (τ.length + 1)) := by
    have a1 : (("times" : Str) == ("times" : Str)) = true := by decide +kernel
    have a2 : ¬ ("times" : Str) = ("start" : Str) := by decide +kernel
    simp only [trF, putD, if_neg a2, lookF, List.lookup_cons, a1]
  have l2 : lookF "start" (putD "start" (.int s) (trF τ)) = some (.int s) := by
    have a1 : (("start" : Str) == ("times" : Str)) = false := by decide +kernel
    have a3 : (("start" : Str) == ("start" : Str)) = true := by decide +kernel
    have a2 : ¬ ("times" : Str) = ("start" : Str) := by decide +kernel
    simp only [trF, putD, if_neg a2, lookF, List.lookup_cons, a1, a3]
  try simp only [wr_ok, w_var, w_c, w_p, w_nil, w_cons, w_call, w_tup, w_lst, w_lstC, w_dicC, w_B, w_and, w_or, w_not, w_andV, w_orV, w_if, w_chain, w_fld, w_meth, w_make, w_bm, w_rev, w_sortIt, w_get2, w_callV,
  w_next, w_seq, w_drop, w_ret, w_retN, w_break, w_cont, w_ifS, w_asg, w_gname, w_gsub, w_gtup, w_gnil, w_gcons, w_par, w_setFld, w_while, w_for, w_items, w_range1, w_lc, w_yes, w_def,
  der_int, der_bl, der_str, der_lst, der_frl, der_tup, der_dic, der_non, der_obj, der_raw, p_add, p_sub, p_mul, p_fdiv, p_mod, p_pow, p_neg, p_cmp, p_abs, p_min2, p_max2, p_eqI, p_notB, p_lenL, p_lenT, p_listL, newL_w, newLC_w, p_ixL, p_ixT,
  List.map_cons, List.map_nil, List.length_cons, List.length_nil, List.replicate_zero, List.replicate_succ, List.replicate, List.cons_append, List.nil_append, List.append_nil, List.getElem?_cons_zero, List.getElem?_cons_succ, List.set_cons_zero, List.set_cons_succ,
  List.zip_cons_cons, List.zip_nil_left, List.zip_nil_right, List.foldl_cons, List.foldl_nil, Nat.reduceAdd, Nat.reduceSub, Nat.zero_add, Nat.add_zero, Nat.reduceLeDiff, true_and, and_true, if_true, Bool.false_eq_true, if_false, do0, l1, l2]
  rw [p_ixLC g3b, at1]
  try simp only [wr_ok, w_var, w_c, w_p, w_nil, w_cons, w_call, w_tup, w_lst, w_lstC, w_dicC, w_B, w_and, w_or, w_not, w_andV, w_orV, w_if, w_chain, w_fld, w_meth, w_make, w_bm, w_rev, w_sortIt, w_get2, w_callV,
  w_next, w_seq, w_drop, w_ret, w_retN, w_break, w_cont, w_ifS, w_asg, w_gname, w_gsub, w_gtup, w_gnil, w_gcons, w_par, w_setFld, w_while, w_for, w_items, w_range1, w_lc, w_yes, w_def,
  der_int, der_bl, der_str, der_lst, der_frl, der_tup, der_dic, der_non, der_obj, der_raw, p_add, p_sub, p_mul, p_fdiv, p_mod, p_pow, p_neg, p_cmp, p_abs, p_min2, p_max2, p_eqI, p_notB, p_lenL, p_lenT, p_listL, newL_w, newLC_w, p_ixL, p_ixT,
  List.map_cons, List.map_nil, List.length_cons, List.length_nil, List.replicate_zero, List.replicate_succ, List.replicate, List.cons_append, List.nil_append, List.append_nil, List.getElem?_cons_zero, List.getElem?_cons_succ, List.set_cons_zero, List.set_cons_succ,
  List.zip_cons_cons, List.zip_nil_left, List.zip_nil_right, List.foldl_cons, List.foldl_nil, Nat.reduceAdd, Nat.reduceSub, Nat.zero_add, Nat.add_zero, Nat.reduceLeDiff, true_and, and_true, if_true, Bool.false_eq_true, if_false, g3a, s3a]
  refine ⟨?_, K k s O hk⟩
  have a2 : ¬ ("times" : Str) = ("start" : Str) := by decide +kernel
  simp [trF, putD, if_neg a2]
end
end DL

namespace DL
open PySem L2
section
variable {τ : List D} {Φ : D → List D → Prop} {n : Int}
/-- a track, frozen -/
def trk (f : Int → Int) (x : Int) (k s : Nat) : List (Str × D) := [("times", .lst (tmD f x k)), ("start", .int s), ("gain", .int (itr f k x - itr f s x))]
theorem pla_tm {f : Int → Int} {x : Int} {k : Nat} : Pla (.lst (tmD f x k)) := pla_lst fun d hd => by
  obtain ⟨i, _, rfl⟩ := List.mem_map.mp hd; exact pla_int _
theorem track_make_then {C T : PySem.Addr} {rows : List (Int × Int)} {δ : DEnv} {f g : DE} (R : Mp n rows) (n1 : 1 ≤ n) (n2 : n ≤ 10 ^ 100) (hl : rows.length ≤ 1000)
    (hB : ∀ k : Nat, k ≤ 1002 → (itr (DL.val n rows) k 0).natAbs ≤ 10 ^ 100) (hf : f δ τ = .ok (.obj C (mapF n rows)) τ) (hg : g δ τ = .ok (.int 0) τ)
    (K : ∀ k s, Orb n (DL.val n rows) 0 k s → k ≤ 1001 → Φ (.obj T (trk (DL.val n rows) 0 k s)) τ) : WR (dFrz (dMake T (m_Track_init C T) [] [f, g]) δ τ) Φ := by
  rw [w_frz]
  refine w_exitD ?_
  try simp only [wr_ok, w_var, w_c, w_p, w_nil, w_cons, w_call, w_tup, w_lst, w_lstC, w_dicC, w_B, w_and, w_or, w_not, w_andV, w_orV, w_if, w_chain, w_fld, w_meth, w_make, w_bm, w_rev, w_sortIt, w_get2, w_callV,
  w_next, w_seq, w_drop, w_ret, w_retN, w_break, w_cont, w_ifS, w_asg, w_gname, w_gsub, w_gtup, w_gnil, w_gcons, w_par, w_setFld, w_while, w_for, w_items, w_range1, w_lc, w_yes, w_def,
  der_int, der_bl, der_str, der_lst, der_frl, der_tup, der_dic, der_non, der_obj, der_raw, p_add, p_sub, p_mul, p_fdiv, p_mod, p_pow, p_neg, p_cmp, p_abs, p_min2, p_max2, p_eqI, p_notB, p_lenL, p_lenT, p_listL, newL_w, newLC_w, p_ixL, p_ixT,
  List.map_cons, List.map_nil, List.length_cons, List.length_nil, List.replicate_zero, List.replicate_succ, List.replicate, List.cons_append, List.nil_append, List.append_nil, List.getElem?_cons_zero, List.getElem?_cons_succ, List.set_cons_zero, List.set_cons_succ,
  List.zip_cons_cons, List.zip_nil_left, List.zip_nil_right, List.foldl_cons, List.foldl_nil, Nat.reduceAdd, Nat.reduceSub, Nat.zero_add, Nat.add_zero, Nat.reduceLeDiff, true_and, and_true, if_true, Bool.false_eq_true, if_false]
  rw [hf]
  try simp only [wr_ok, w_var, w_c, w_p, w_nil, w_cons, w_call, w_tup, w_lst, w_lstC, w_dicC, w_B, w_and, w_or, w_not, w_andV, w_orV, w_if, w_chain, w_fld, w_meth, w_make, w_bm, w_rev, w_sortIt, w_get2, w_callV,
  w_next, w_seq, w_drop, w_ret, w_retN, w_break, w_cont, w_ifS, w_asg, w_gname, w_gsub, w_gtup, w_gnil, w_gcons, w_par, w_setFld, w_while, w_for, w_items, w_range1, w_lc, w_yes, w_def,
  der_int, der_bl, der_str, der_lst, der_frl, der_tup, der_dic, der_non, der_obj, der_raw, p_add, p_sub, p_mul, p_fdiv, p_mod, p_pow, p_neg, p_cmp, p_abs, p_min2, p_max2, p_eqI, p_notB, p_lenL, p_lenT, p_listL, newL_w, newLC_w, p_ixL, p_ixT,
  List.map_cons, List.map_nil, List.length_cons, List.length_nil, List.replicate_zero, List.replicate_succ, List.replicate, List.cons_append, List.nil_append, List.append_nil, List.getElem?_cons_zero, List.getElem?_cons_succ, List.set_cons_zero, List.set_cons_succ,
  List.zip_cons_cons, List.zip_nil_left, List.zip_nil_right, List.foldl_cons, List.foldl_nil, Nat.reduceAdd, Nat.reduceSub, Nat.zero_add, Nat.add_zero, Nat.reduceLeDiff, true_and, and_true, if_true, Bool.false_eq_true, if_false]
  rw [hg]
  try simp only [wr_ok, w_var, w_c, w_p, w_nil, w_cons, w_call, w_tup, w_lst, w_lstC, w_dicC, w_B, w_and, w_or, w_not, w_andV, w_orV, w_if, w_chain, w_fld, w_meth, w_make, w_bm, w_rev, w_sortIt, w_get2, w_callV,
  w_next, w_seq, w_drop, w_ret, w_retN, w_break, w_cont, w_ifS, w_asg, w_gname, w_gsub, w_gtup, w_gnil, w_gcons, w_par, w_setFld, w_while, w_for, w_items, w_range1, w_lc, w_yes, w_def,
  der_int, der_bl, der_str, der_lst, der_frl, der_tup, der_dic, der_non, der_obj, der_raw, p_add, p_sub, p_mul, p_fdiv, p_mod, p_pow, p_neg, p_cmp, p_abs, p_min2, p_max2, p_eqI, p_notB, p_lenL, p_lenT, p_listL, newL_w, newLC_w, p_ixL, p_ixT,
  List.map_cons, List.map_nil, List.length_cons, List.length_nil, List.replicate_zero, List.replicate_succ, List.replicate, List.cons_append, List.nil_append, List.append_nil, List.getElem?_cons_zero, List.getElem?_cons_succ, List.set_cons_zero, List.set_cons_succ,
  List.zip_cons_cons, List.zip_nil_left, List.zip_nil_right, List.foldl_cons, List.foldl_nil, Nat.reduceAdd, Nat.reduceSub, Nat.zero_add, Nat.add_zero, Nat.reduceLeDiff, true_and, and_true, if_true, Bool.false_eq_true, if_false]
  refine track_init_then R n1 n2 hl hB fun k s O hk => ?_
  refine ⟨.obj T (trk (DL.val n rows) 0 k s), ?_, older_self _, by simpa using K k s O hk⟩
  have c5 : ∀ (m : Nat) (F : List (Str × D)), celF τ.length (τ ++ [D.obj T F, .lst (tmD (DL.val n rows) 0 k), .dic (sdD n (DL.val n rows) 0 k)]) (m + 1) (τ.length + 1) = some (.lst (tmD (DL.val n rows) 0 k)) := fun m F => by
    show (if τ.length + 1 < τ.length then some (.cell (τ.length + 1)) else ((τ ++ [D.obj T F, .lst (tmD (DL.val n rows) 0 k), .dic (sdD n (DL.val n rows) 0 k)])[τ.length + 1]?).bind (frzD (celF τ.length _ m))) = _
    rw [if_neg (by omega), g3b]
    exact pla_tm _
  have a2 : ¬ ("times" : Str) = ("start" : Str) := by decide +kernel
  have a3 : ¬ ("times" : Str) = ("gain" : Str) := by decide +kernel
  have a4 : ¬ ("start" : Str) = ("gain" : Str) := by decide +kernel
  simp only [trF, putD, if_neg a2, if_neg a3, if_neg a4] at c5 ⊢
  show (if τ.length < τ.length then some (.cell τ.length) else ((τ ++ [D.obj T _, .lst (tmD (DL.val n rows) 0 k), .dic (sdD n (DL.val n rows) 0 k)])[τ.length]?).bind (frzD (celF τ.length _ 5))) = _
  rw [if_neg (by omega), g3a]
  show frzD _ (.obj T _) = _
  simp only [frzD, frzF, c5]
  rfl
theorem lk_trk {f : Int → Int} {x : Int} {k s : Nat} : lookF "times" (trk f x k s) = some (.lst (tmD f x k)) ∧ lookF "start" (trk f x k s) = some (.int s) ∧ lookF "gain" (trk f x k s) = some (.int (itr f k x - itr f s x)) ∧ lookF "turn" (trk f x k s) = none := ⟨rfl, rfl, rfl, rfl⟩
theorem turn_then {T : PySem.Addr} {f : Int → Int} {x : Int} {k s : Nat} (K : Φ (.lst ((tmD f x k).drop s)) τ) : WR (m_Track_turn T [.obj T (trk f x k s)] τ) Φ := by
  unfold m_Track_turn b_Track_turn
  rw [w_def, w_ret]
  refine w_slL (xs := tmD f x k) (a := some (s : Int)) (b := none) ?_ ?_ rfl ?_
  · simp [dFld, dVar, R.bind, der, lk_trk.1]
  · simp [dPart, dFld, dVar, R.bind, der, lk_trk.2.1]
  · rw [cut_drop]; exact K
theorem rotation_then {C T : PySem.Addr} {rows : List (Int × Int)} (R : Mp n rows) (n1 : 1 ≤ n) (n2 : n ≤ 10 ^ 100) (hl : rows.length ≤ 1000)
    (hB : ∀ k : Nat, k ≤ 1002 → (itr (DL.val n rows) k 0).natAbs ≤ 10 ^ 100)
    (K : ∀ k s, Orb n (DL.val n rows) 0 k s → k ≤ 1001 → Φ (frD ((itr (DL.val n rows) k 0 - itr (DL.val n rows) s 0) / n) (k - s)) τ) : WR (m_rotation C T [.obj C (mapF n rows)] τ) Φ := by
  unfold m_rotation b_rotation
  rw [w_def]
  refine w_cut (fun δ τ' => ∃ k s, Orb n (DL.val n rows) 0 k s ∧ k ≤ 1001 ∧ At δ τ' [some (.obj C (mapF n rows)), some (.obj T (trk (DL.val n rows) 0 k s))] τ) ?_ ?_
  · rw [w_asg]
    refine track_make_then R n1 n2 hl hB rfl rfl fun k s O hk => ?_
    try simp only [wr_ok, w_var, w_c, w_p, w_nil, w_cons, w_call, w_tup, w_lst, w_lstC, w_dicC, w_B, w_and, w_or, w_not, w_andV, w_orV, w_if, w_chain, w_fld, w_meth, w_make, w_bm, w_rev, w_sortIt, w_get2, w_callV,
  w_next, w_seq, w_drop, w_ret, w_retN, w_break, w_cont, w_ifS, w_asg, w_gname, w_gsub, w_gtup, w_gnil, w_gcons, w_par, w_setFld, w_while, w_for, w_items, w_range1, w_lc, w_yes, w_def,
  der_int, der_bl, der_str, der_lst, der_frl, der_tup, der_dic, der_non, der_obj, der_raw, p_add, p_sub, p_mul, p_fdiv, p_mod, p_pow, p_neg, p_cmp, p_abs, p_min2, p_max2, p_eqI, p_notB, p_lenL, p_lenT, p_listL, newL_w, newLC_w, p_ixL, p_ixT,
  List.map_cons, List.map_nil, List.length_cons, List.length_nil, List.replicate_zero, List.replicate_succ, List.replicate, List.cons_append, List.nil_append, List.append_nil, List.getElem?_cons_zero, List.getElem?_cons_succ, List.set_cons_zero, List.set_cons_succ,
  List.zip_cons_cons, List.zip_nil_left, List.zip_nil_right, List.foldl_cons, List.foldl_nil, Nat.reduceAdd, Nat.reduceSub, Nat.zero_add, Nat.add_zero, Nat.reduceLeDiff, true_and, and_true, if_true, Bool.false_eq_true, if_false]
    exact ⟨k, s, O, hk, rfl, rfl⟩
  rintro δ σ ⟨k, s, O, hk, rfl, rfl⟩
  have b1 := hB k (by omega)
  have b2 := hB s (by have := O.lt; omega)
  have hd : ((tmD (DL.val n rows) 0 k).drop s).length = k - s := by simp [tmD]
  try simp only [wr_ok, w_var, w_c, w_p, w_nil, w_cons, w_call, w_tup, w_lst, w_lstC, w_dicC, w_B, w_and, w_or, w_not, w_andV, w_orV, w_if, w_chain, w_fld, w_meth, w_make, w_bm, w_rev, w_sortIt, w_get2, w_callV,
  w_next, w_seq, w_drop, w_ret, w_retN, w_break, w_cont, w_ifS, w_asg, w_gname, w_gsub, w_gtup, w_gnil, w_gcons, w_par, w_setFld, w_while, w_for, w_items, w_range1, w_lc, w_yes, w_def,
  der_int, der_bl, der_str, der_lst, der_frl, der_tup, der_dic, der_non, der_obj, der_raw, p_add, p_sub, p_mul, p_fdiv, p_mod, p_pow, p_neg, p_cmp, p_abs, p_min2, p_max2, p_eqI, p_notB, p_lenL, p_lenT, p_listL, newL_w, newLC_w, p_ixL, p_ixT,
  List.map_cons, List.map_nil, List.length_cons, List.length_nil, List.replicate_zero, List.replicate_succ, List.replicate, List.cons_append, List.nil_append, List.append_nil, List.getElem?_cons_zero, List.getElem?_cons_succ, List.set_cons_zero, List.set_cons_succ,
  List.zip_cons_cons, List.zip_nil_left, List.zip_nil_right, List.foldl_cons, List.foldl_nil, Nat.reduceAdd, Nat.reduceSub, Nat.zero_add, Nat.add_zero, Nat.reduceLeDiff, true_and, and_true, if_true, Bool.false_eq_true, if_false, lk_trk.2.2.1, lk_trk.2.2.2, look_length]
  refine ⟨⟨by omega, bigd_of (by omega)⟩, ?_⟩
  try simp only [wr_ok, w_var, w_c, w_p, w_nil, w_cons, w_call, w_tup, w_lst, w_lstC, w_dicC, w_B, w_and, w_or, w_not, w_andV, w_orV, w_if, w_chain, w_fld, w_meth, w_make, w_bm, w_rev, w_sortIt, w_get2, w_callV,
  w_next, w_seq, w_drop, w_ret, w_retN, w_break, w_cont, w_ifS, w_asg, w_gname, w_gsub, w_gtup, w_gnil, w_gcons, w_par, w_setFld, w_while, w_for, w_items, w_range1, w_lc, w_yes, w_def,
  der_int, der_bl, der_str, der_lst, der_frl, der_tup, der_dic, der_non, der_obj, der_raw, p_add, p_sub, p_mul, p_fdiv, p_mod, p_pow, p_neg, p_cmp, p_abs, p_min2, p_max2, p_eqI, p_notB, p_lenL, p_lenT, p_listL, newL_w, newLC_w, p_ixL, p_ixT,
  List.map_cons, List.map_nil, List.length_cons, List.length_nil, List.replicate_zero, List.replicate_succ, List.replicate, List.cons_append, List.nil_append, List.append_nil, List.getElem?_cons_zero, List.getElem?_cons_succ, List.set_cons_zero, List.set_cons_succ,
  List.zip_cons_cons, List.zip_nil_left, List.zip_nil_right, List.foldl_cons, List.foldl_nil, Nat.reduceAdd, Nat.reduceSub, Nat.zero_add, Nat.add_zero, Nat.reduceLeDiff, true_and, and_true, if_true, Bool.false_eq_true, if_false, lk_trk.2.2.2]
  refine turn_then ?_
  try simp only [wr_ok, w_var, w_c, w_p, w_nil, w_cons, w_call, w_tup, w_lst, w_lstC, w_dicC, w_B, w_and, w_or, w_not, w_andV, w_orV, w_if, w_chain, w_fld, w_meth, w_make, w_bm, w_rev, w_sortIt, w_get2, w_callV,
  w_next, w_seq, w_drop, w_ret, w_retN, w_break, w_cont, w_ifS, w_asg, w_gname, w_gsub, w_gtup, w_gnil, w_gcons, w_par, w_setFld, w_while, w_for, w_items, w_range1, w_lc, w_yes, w_def,
  der_int, der_bl, der_str, der_lst, der_frl, der_tup, der_dic, der_non, der_obj, der_raw, p_add, p_sub, p_mul, p_fdiv, p_mod, p_pow, p_neg, p_cmp, p_abs, p_min2, p_max2, p_eqI, p_notB, p_lenL, p_lenT, p_listL, newL_w, newLC_w, p_ixL, p_ixT,
  List.map_cons, List.map_nil, List.length_cons, List.length_nil, List.replicate_zero, List.replicate_succ, List.replicate, List.cons_append, List.nil_append, List.append_nil, List.getElem?_cons_zero, List.getElem?_cons_succ, List.set_cons_zero, List.set_cons_succ,
  List.zip_cons_cons, List.zip_nil_left, List.zip_nil_right, List.foldl_cons, List.foldl_nil, Nat.reduceAdd, Nat.reduceSub, Nat.zero_add, Nat.add_zero, Nat.reduceLeDiff, true_and, and_true, if_true, Bool.false_eq_true, if_false]
  rw [hd]
  have hlt := O.lt
  have e : ((k - s : Nat) : Int) = (k : Int) - s := by omega
  rw [e]
  refine reduced_then ?_ (by omega) (by omega) (K k s O hk)
  have := Int.natAbs_ediv_le_natAbs (itr (DL.val n rows) k 0 - itr (DL.val n rows) s 0) n
  omega
end
end DL

namespace DL
open PySem L2
section
variable {τ : List D} {Φ : D → List D → Prop} {n : Int}
theorem law_rotation_then {ss rows : List (Int × Int)} {f : Int → Int} (n1 : 1 ≤ n) (n2 : n ≤ 10 ^ 100) (h1 : 1 ≤ ss.length) (h2 : ss.length ≤ 1000) (hs : ∀ s ∈ ss, s.1.natAbs ≤ 10 ^ 100) (hl : rows.length ≤ 1000)
    (hB : ∀ k : Nat, k ≤ 1002 → (itr f k 0).natAbs ≤ 10 ^ 100) (hv : ∀ t v, IsVal n ss t v → v = f t) (hf : ∀ t, ∃ r ∈ rows, ∃ q : Int, f t = r.2 + q * n)
    (K : ∀ k s, Orb n f 0 k s → k ≤ 1001 → Φ (frD ((itr f k 0 - itr f s 0) / n) (k - s)) τ) : WR (m__law_rotation [.int n, .lst (ss.map pairD)] τ) Φ := by
  unfold m__law_rotation b__law_rotation
  try simp only [wr_ok, w_var, w_c, w_p, w_nil, w_cons, w_call, w_tup, w_lst, w_lstC, w_dicC, w_B, w_and, w_or, w_not, w_andV, w_orV, w_if, w_chain, w_fld, w_meth, w_make, w_bm, w_rev, w_sortIt, w_get2, w_callV,
  w_next, w_seq, w_drop, w_ret, w_retN, w_break, w_cont, w_ifS, w_asg, w_gname, w_gsub, w_gtup, w_gnil, w_gcons, w_par, w_setFld, w_while, w_for, w_items, w_range1, w_lc, w_yes, w_def,
  der_int, der_bl, der_str, der_lst, der_frl, der_tup, der_dic, der_non, der_obj, der_raw, p_add, p_sub, p_mul, p_fdiv, p_mod, p_pow, p_neg, p_cmp, p_abs, p_min2, p_max2, p_eqI, p_notB, p_lenL, p_lenT, p_listL, newL_w, newLC_w, p_ixL, p_ixT,
  List.map_cons, List.map_nil, List.length_cons, List.length_nil, List.replicate_zero, List.replicate_succ, List.replicate, List.cons_append, List.nil_append, List.append_nil, List.getElem?_cons_zero, List.getElem?_cons_succ, List.set_cons_zero, List.set_cons_succ,
  List.zip_cons_cons, List.zip_nil_left, List.zip_nil_right, List.foldl_cons, List.foldl_nil, Nat.reduceAdd, Nat.reduceSub, Nat.zero_add, Nat.add_zero, Nat.reduceLeDiff, true_and, and_true, if_true, Bool.false_eq_true, if_false]
  refine law_turn_then n1 n2 h1 h2 hs hl hB hv hf fun k s O hk => ?_
  have b1 := hB k (by omega)
  have b2 := hB s (by have := O.lt; omega)
  have hlt := O.lt
  try simp only [wr_ok, w_var, w_c, w_p, w_nil, w_cons, w_call, w_tup, w_lst, w_lstC, w_dicC, w_B, w_and, w_or, w_not, w_andV, w_orV, w_if, w_chain, w_fld, w_meth, w_make, w_bm, w_rev, w_sortIt, w_get2, w_callV,
  w_next, w_seq, w_drop, w_ret, w_retN, w_break, w_cont, w_ifS, w_asg, w_gname, w_gsub, w_gtup, w_gnil, w_gcons, w_par, w_setFld, w_while, w_for, w_items, w_range1, w_lc, w_yes, w_def,
  der_int, der_bl, der_str, der_lst, der_frl, der_tup, der_dic, der_non, der_obj, der_raw, p_add, p_sub, p_mul, p_fdiv, p_mod, p_pow, p_neg, p_cmp, p_abs, p_min2, p_max2, p_eqI, p_notB, p_lenL, p_lenT, p_listL, newL_w, newLC_w, p_ixL, p_ixT,
  List.map_cons, List.map_nil, List.length_cons, List.length_nil, List.replicate_zero, List.replicate_succ, List.replicate, List.cons_append, List.nil_append, List.append_nil, List.getElem?_cons_zero, List.getElem?_cons_succ, List.set_cons_zero, List.set_cons_succ,
  List.zip_cons_cons, List.zip_nil_left, List.zip_nil_right, List.foldl_cons, List.foldl_nil, Nat.reduceAdd, Nat.reduceSub, Nat.zero_add, Nat.add_zero, Nat.reduceLeDiff, true_and, and_true, if_true, Bool.false_eq_true, if_false]
  refine law_fraction_then ?_ (by omega) (by omega) (K k s O hk)
  have := Int.natAbs_ediv_le_natAbs (itr f k 0 - itr f s 0) n
  omega
end
end DL

namespace DL
open PySem L2
section
variable {B : Int} {p : D} {r : List D} {Φ : D → List D → Prop}
theorem small_services_then {n most : Int} (hp : PenOk B p) (hB : B + 1000 ≤ 10 ^ 12) (n1 : 1 ≤ n) (n2 : n ≤ 10 ^ 18) (m1 : 1 ≤ most) (m2 : most ≤ 12)
    (K : ∀ (ss : List (Int × Int)) p', PenOk (B + 100) p' → 1 ≤ ss.length → ss.length ≤ 12 → (∀ s ∈ ss, Svc s) → Φ (.lst (ss.map pairD)) (p' :: r)) : WR (m__law_small_services [.cell 0, .int n, .int most] (p :: r)) Φ := by
  unfold m__law_small_services b__law_small_services
  refine exit1 ?_
  try simp only [wr_ok, w_var, w_c, w_p, w_nil, w_cons, w_call, w_tup, w_lst, w_lstC, w_dicC, w_B, w_and, w_or, w_not, w_andV, w_orV, w_if, w_chain, w_fld, w_meth, w_make, w_bm, w_rev, w_sortIt, w_get2, w_callV,
  w_next, w_seq, w_drop, w_ret, w_retN, w_break, w_cont, w_ifS, w_asg, w_gname, w_gsub, w_gtup, w_gnil, w_gcons, w_par, w_setFld, w_while, w_for, w_items, w_range1, w_lc, w_yes, w_def,
  der_int, der_bl, der_str, der_lst, der_frl, der_tup, der_dic, der_non, der_obj, der_raw, p_add, p_sub, p_mul, p_fdiv, p_mod, p_pow, p_neg, p_cmp, p_abs, p_min2, p_max2, p_eqI, p_notB, p_lenL, p_lenT, p_listL, newL_w, newLC_w, p_ixL, p_ixT,
  List.map_cons, List.map_nil, List.length_cons, List.length_nil, List.replicate_zero, List.replicate_succ, List.replicate, List.cons_append, List.nil_append, List.append_nil, List.getElem?_cons_zero, List.getElem?_cons_succ, List.set_cons_zero, List.set_cons_succ,
  List.zip_cons_cons, List.zip_nil_left, List.zip_nil_right, List.foldl_cons, List.foldl_nil, Nat.reduceAdd, Nat.reduceSub, Nat.zero_add, Nat.add_zero, Nat.reduceLeDiff, true_and, and_true, if_true, Bool.false_eq_true, if_false]
  refine draw_then hp (by omega) m1 (by omega) fun c0 p0 hp0 a0 b0 => ?_
  try simp only [wr_ok, w_var, w_c, w_p, w_nil, w_cons, w_call, w_tup, w_lst, w_lstC, w_dicC, w_B, w_and, w_or, w_not, w_andV, w_orV, w_if, w_chain, w_fld, w_meth, w_make, w_bm, w_rev, w_sortIt, w_get2, w_callV,
  w_next, w_seq, w_drop, w_ret, w_retN, w_break, w_cont, w_ifS, w_asg, w_gname, w_gsub, w_gtup, w_gnil, w_gcons, w_par, w_setFld, w_while, w_for, w_items, w_range1, w_lc, w_yes, w_def,
  der_int, der_bl, der_str, der_lst, der_frl, der_tup, der_dic, der_non, der_obj, der_raw, p_add, p_sub, p_mul, p_fdiv, p_mod, p_pow, p_neg, p_cmp, p_abs, p_min2, p_max2, p_eqI, p_notB, p_lenL, p_lenT, p_listL, newL_w, newLC_w, p_ixL, p_ixT,
  List.map_cons, List.map_nil, List.length_cons, List.length_nil, List.replicate_zero, List.replicate_succ, List.replicate, List.cons_append, List.nil_append, List.append_nil, List.getElem?_cons_zero, List.getElem?_cons_succ, List.set_cons_zero, List.set_cons_succ,
  List.zip_cons_cons, List.zip_nil_left, List.zip_nil_right, List.foldl_cons, List.foldl_nil, Nat.reduceAdd, Nat.reduceSub, Nat.zero_add, Nat.add_zero, Nat.reduceLeDiff, true_and, and_true, if_true, Bool.false_eq_true, if_false]
  refine ⟨by omega, ?_⟩
  refine w_forI (fun i δ τ => ∃ p' ss o1 o2, At δ τ [some (.cell 0), some (.int n), some (.int most), some (.cell (r.length + 1)), o1, o2] (p' :: (r ++ [.lst (ss.map pairD)])) ∧ PenOk (B + 1 + 3 * i) p' ∧ ss.length = i ∧ ∀ s ∈ ss, Svc s)
    ⟨p0, [], none, none, ⟨rfl, rfl⟩, hp0.mono (by omega), rfl, fun s h => nomatch h⟩ ?_ ?_
  · rintro i y δ τ hi ⟨p', ss, o1, o2, ⟨rfl, rfl⟩, hp', hl, hs⟩
    have hlt : i < (1 + c0).toNat := by
      have := (List.getElem?_eq_some_iff.mp hi).1
      simpa using this
    have hi12 : (i : Int) ≤ 12 := by omega
    try simp only [wr_ok, w_var, w_c, w_p, w_nil, w_cons, w_call, w_tup, w_lst, w_lstC, w_dicC, w_B, w_and, w_or, w_not, w_andV, w_orV, w_if, w_chain, w_fld, w_meth, w_make, w_bm, w_rev, w_sortIt, w_get2, w_callV,
  w_next, w_seq, w_drop, w_ret, w_retN, w_break, w_cont, w_ifS, w_asg, w_gname, w_gsub, w_gtup, w_gnil, w_gcons, w_par, w_setFld, w_while, w_for, w_items, w_range1, w_lc, w_yes, w_def,
  der_int, der_bl, der_str, der_lst, der_frl, der_tup, der_dic, der_non, der_obj, der_raw, p_add, p_sub, p_mul, p_fdiv, p_mod, p_pow, p_neg, p_cmp, p_abs, p_min2, p_max2, p_eqI, p_notB, p_lenL, p_lenT, p_listL, newL_w, newLC_w, p_ixL, p_ixT,
  List.map_cons, List.map_nil, List.length_cons, List.length_nil, List.replicate_zero, List.replicate_succ, List.replicate, List.cons_append, List.nil_append, List.append_nil, List.getElem?_cons_zero, List.getElem?_cons_succ, List.set_cons_zero, List.set_cons_succ,
  List.zip_cons_cons, List.zip_nil_left, List.zip_nil_right, List.foldl_cons, List.foldl_nil, Nat.reduceAdd, Nat.reduceSub, Nat.zero_add, Nat.add_zero, Nat.reduceLeDiff, true_and, and_true, if_true, Bool.false_eq_true, if_false]
    refine ⟨⟨big_of (by decide), big_of (by omega)⟩, ?_⟩
    refine draw_then hp' (by omega) (by omega) (by omega) fun d p1 hp1 d1 d2 => ?_
    try simp only [wr_ok, w_var, w_c, w_p, w_nil, w_cons, w_call, w_tup, w_lst, w_lstC, w_dicC, w_B, w_and, w_or, w_not, w_andV, w_orV, w_if, w_chain, w_fld, w_meth, w_make, w_bm, w_rev, w_sortIt, w_get2, w_callV,
  w_next, w_seq, w_drop, w_ret, w_retN, w_break, w_cont, w_ifS, w_asg, w_gname, w_gsub, w_gtup, w_gnil, w_gcons, w_par, w_setFld, w_while, w_for, w_items, w_range1, w_lc, w_yes, w_def,
  der_int, der_bl, der_str, der_lst, der_frl, der_tup, der_dic, der_non, der_obj, der_raw, p_add, p_sub, p_mul, p_fdiv, p_mod, p_pow, p_neg, p_cmp, p_abs, p_min2, p_max2, p_eqI, p_notB, p_lenL, p_lenT, p_listL, newL_w, newLC_w, p_ixL, p_ixT,
  List.map_cons, List.map_nil, List.length_cons, List.length_nil, List.replicate_zero, List.replicate_succ, List.replicate, List.cons_append, List.nil_append, List.append_nil, List.getElem?_cons_zero, List.getElem?_cons_succ, List.set_cons_zero, List.set_cons_succ,
  List.zip_cons_cons, List.zip_nil_left, List.zip_nil_right, List.foldl_cons, List.foldl_nil, Nat.reduceAdd, Nat.reduceSub, Nat.zero_add, Nat.add_zero, Nat.reduceLeDiff, true_and, and_true, if_true, Bool.false_eq_true, if_false, der_c1, isT_lst]
    refine ⟨⟨big_of (by decide), big_of (by omega)⟩, ?_⟩
    refine draw_then hp1 (by omega) (by omega) (by omega) fun e p2 hp2 e1 e2 => ?_
    try simp only [wr_ok, w_var, w_c, w_p, w_nil, w_cons, w_call, w_tup, w_lst, w_lstC, w_dicC, w_B, w_and, w_or, w_not, w_andV, w_orV, w_if, w_chain, w_fld, w_meth, w_make, w_bm, w_rev, w_sortIt, w_get2, w_callV,
  w_next, w_seq, w_drop, w_ret, w_retN, w_break, w_cont, w_ifS, w_asg, w_gname, w_gsub, w_gtup, w_gnil, w_gcons, w_par, w_setFld, w_while, w_for, w_items, w_range1, w_lc, w_yes, w_def,
  der_int, der_bl, der_str, der_lst, der_frl, der_tup, der_dic, der_non, der_obj, der_raw, p_add, p_sub, p_mul, p_fdiv, p_mod, p_pow, p_neg, p_cmp, p_abs, p_min2, p_max2, p_eqI, p_notB, p_lenL, p_lenT, p_listL, newL_w, newLC_w, p_ixL, p_ixT,
  List.map_cons, List.map_nil, List.length_cons, List.length_nil, List.replicate_zero, List.replicate_succ, List.replicate, List.cons_append, List.nil_append, List.append_nil, List.getElem?_cons_zero, List.getElem?_cons_succ, List.set_cons_zero, List.set_cons_succ,
  List.zip_cons_cons, List.zip_nil_left, List.zip_nil_right, List.foldl_cons, List.foldl_nil, Nat.reduceAdd, Nat.reduceSub, Nat.zero_add, Nat.add_zero, Nat.reduceLeDiff, true_and, and_true, if_true, Bool.false_eq_true, if_false]
    refine ⟨⟨big_of (by decide), big_of (by omega)⟩, ?_⟩
    refine picki_then (ys := [0, 0, n, 2 * n]) hp2 (by omega) (by simp) (by simp) fun z p3 hp3 hz => ?_
    have hz : 0 ≤ z ∧ z ≤ 2 * n := by
      simp only [List.mem_cons, List.not_mem_nil, or_false] at hz
      omega
    try simp only [wr_ok, w_var, w_c, w_p, w_nil, w_cons, w_call, w_tup, w_lst, w_lstC, w_dicC, w_B, w_and, w_or, w_not, w_andV, w_orV, w_if, w_chain, w_fld, w_meth, w_make, w_bm, w_rev, w_sortIt, w_get2, w_callV,
  w_next, w_seq, w_drop, w_ret, w_retN, w_break, w_cont, w_ifS, w_asg, w_gname, w_gsub, w_gtup, w_gnil, w_gcons, w_par, w_setFld, w_while, w_for, w_items, w_range1, w_lc, w_yes, w_def,
  der_int, der_bl, der_str, der_lst, der_frl, der_tup, der_dic, der_non, der_obj, der_raw, p_add, p_sub, p_mul, p_fdiv, p_mod, p_pow, p_neg, p_cmp, p_abs, p_min2, p_max2, p_eqI, p_notB, p_lenL, p_lenT, p_listL, newL_w, newLC_w, p_ixL, p_ixT,
  List.map_cons, List.map_nil, List.length_cons, List.length_nil, List.replicate_zero, List.replicate_succ, List.replicate, List.cons_append, List.nil_append, List.append_nil, List.getElem?_cons_zero, List.getElem?_cons_succ, List.set_cons_zero, List.set_cons_succ,
  List.zip_cons_cons, List.zip_nil_left, List.zip_nil_right, List.foldl_cons, List.foldl_nil, Nat.reduceAdd, Nat.reduceSub, Nat.zero_add, Nat.add_zero, Nat.reduceLeDiff, true_and, and_true, if_true, Bool.false_eq_true, if_false, p_append1]
    refine ⟨by rw [List.length_map, hl]; unfold cap; omega, p3, ss ++ [(d - n, d - n + e - z)], _, _, ⟨rfl, ?_⟩, hp3.mono (by omega), by simp [hl], ?_⟩
    · simp [pairD]
    · intro s h
      rcases List.mem_append.mp h with h | h
      · exact hs s h
      · rw [List.mem_singleton.mp h]
        refine ⟨?_, ?_, ?_, ?_⟩ <;> (simp only; omega)
  · rintro δ τ ⟨p', ss, o1, o2, ⟨rfl, rfl⟩, hp', hl, hs⟩
    simp only [List.length_map, List.length_range] at hp' hl
    try simp only [wr_ok, w_var, w_c, w_p, w_nil, w_cons, w_call, w_tup, w_lst, w_lstC, w_dicC, w_B, w_and, w_or, w_not, w_andV, w_orV, w_if, w_chain, w_fld, w_meth, w_make, w_bm, w_rev, w_sortIt, w_get2, w_callV,
  w_next, w_seq, w_drop, w_ret, w_retN, w_break, w_cont, w_ifS, w_asg, w_gname, w_gsub, w_gtup, w_gnil, w_gcons, w_par, w_setFld, w_while, w_for, w_items, w_range1, w_lc, w_yes, w_def,
  der_int, der_bl, der_str, der_lst, der_frl, der_tup, der_dic, der_non, der_obj, der_raw, p_add, p_sub, p_mul, p_fdiv, p_mod, p_pow, p_neg, p_cmp, p_abs, p_min2, p_max2, p_eqI, p_notB, p_lenL, p_lenT, p_listL, newL_w, newLC_w, p_ixL, p_ixT,
  List.map_cons, List.map_nil, List.length_cons, List.length_nil, List.replicate_zero, List.replicate_succ, List.replicate, List.cons_append, List.nil_append, List.append_nil, List.getElem?_cons_zero, List.getElem?_cons_succ, List.set_cons_zero, List.set_cons_succ,
  List.zip_cons_cons, List.zip_nil_left, List.zip_nil_right, List.foldl_cons, List.foldl_nil, Nat.reduceAdd, Nat.reduceSub, Nat.zero_add, Nat.add_zero, Nat.reduceLeDiff, true_and, and_true, if_true, Bool.false_eq_true, if_false]
    refine ⟨p', _, .lst (ss.map pairD), rfl, hp'.pla, pla_pairs ss, fun c hc => ?_, K ss p' (hp'.mono (by omega)) (by omega) (by omega) hs⟩
    show c (r.length + 1) = _
    exact hc
theorem frac {n k m : Int} (h0 : 0 ≤ n) (h1 : 0 ≤ k) (h2 : k < m) : 0 ≤ n * k / m ∧ n * k / m ≤ n := by
  refine ⟨Int.ediv_nonneg (Int.mul_nonneg h0 h1) (by omega), ?_⟩
  refine Int.ediv_le_of_le_mul (by omega) ?_
  exact Int.mul_le_mul_of_nonneg_left (by omega) h0
theorem close_services_then {n most : Int} (hp : PenOk B p) (hB : B + 2000 ≤ 10 ^ 12) (n1 : 1 ≤ n) (n2 : n ≤ 10 ^ 18) (m1 : 1 ≤ most) (m2 : most ≤ 200)
    (K : ∀ (ss : List (Int × Int)) p', PenOk (B + 1000) p' → 1 ≤ ss.length → (ss.length : Int) ≤ most → (∀ s ∈ ss, Svc s) → Φ (.lst (ss.map pairD)) (p' :: r)) : WR (m__law_close_services [.cell 0, .int n, .int most] (p :: r)) Φ := by
  unfold m__law_close_services b__law_close_services
  refine exit1 ?_
  try simp only [wr_ok, w_var, w_c, w_p, w_nil, w_cons, w_call, w_tup, w_lst, w_lstC, w_dicC, w_B, w_and, w_or, w_not, w_andV, w_orV, w_if, w_chain, w_fld, w_meth, w_make, w_bm, w_rev, w_sortIt, w_get2, w_callV,
  w_next, w_seq, w_drop, w_ret, w_retN, w_break, w_cont, w_ifS, w_asg, w_gname, w_gsub, w_gtup, w_gnil, w_gcons, w_par, w_setFld, w_while, w_for, w_items, w_range1, w_lc, w_yes, w_def,
  der_int, der_bl, der_str, der_lst, der_frl, der_tup, der_dic, der_non, der_obj, der_raw, p_add, p_sub, p_mul, p_fdiv, p_mod, p_pow, p_neg, p_cmp, p_abs, p_min2, p_max2, p_eqI, p_notB, p_lenL, p_lenT, p_listL, newL_w, newLC_w, p_ixL, p_ixT,
  List.map_cons, List.map_nil, List.length_cons, List.length_nil, List.replicate_zero, List.replicate_succ, List.replicate, List.cons_append, List.nil_append, List.append_nil, List.getElem?_cons_zero, List.getElem?_cons_succ, List.set_cons_zero, List.set_cons_succ,
  List.zip_cons_cons, List.zip_nil_left, List.zip_nil_right, List.foldl_cons, List.foldl_nil, Nat.reduceAdd, Nat.reduceSub, Nat.zero_add, Nat.add_zero, Nat.reduceLeDiff, true_and, and_true, if_true, Bool.false_eq_true, if_false]
  refine draw_then hp (by omega) m1 (by omega) fun c0 p0 hp0 a0 b0 => ?_
  try simp only [wr_ok, w_var, w_c, w_p, w_nil, w_cons, w_call, w_tup, w_lst, w_lstC, w_dicC, w_B, w_and, w_or, w_not, w_andV, w_orV, w_if, w_chain, w_fld, w_meth, w_make, w_bm, w_rev, w_sortIt, w_get2, w_callV,
  w_next, w_seq, w_drop, w_ret, w_retN, w_break, w_cont, w_ifS, w_asg, w_gname, w_gsub, w_gtup, w_gnil, w_gcons, w_par, w_setFld, w_while, w_for, w_items, w_range1, w_lc, w_yes, w_def,
  der_int, der_bl, der_str, der_lst, der_frl, der_tup, der_dic, der_non, der_obj, der_raw, p_add, p_sub, p_mul, p_fdiv, p_mod, p_pow, p_neg, p_cmp, p_abs, p_min2, p_max2, p_eqI, p_notB, p_lenL, p_lenT, p_listL, newL_w, newLC_w, p_ixL, p_ixT,
  List.map_cons, List.map_nil, List.length_cons, List.length_nil, List.replicate_zero, List.replicate_succ, List.replicate, List.cons_append, List.nil_append, List.append_nil, List.getElem?_cons_zero, List.getElem?_cons_succ, List.set_cons_zero, List.set_cons_succ,
  List.zip_cons_cons, List.zip_nil_left, List.zip_nil_right, List.foldl_cons, List.foldl_nil, Nat.reduceAdd, Nat.reduceSub, Nat.zero_add, Nat.add_zero, Nat.reduceLeDiff, true_and, and_true, if_true, Bool.false_eq_true, if_false]
  refine ⟨by omega, ?_⟩
  refine w_forI (fun i δ τ => ∃ p' ss o1 o2 o3, At δ τ [some (.cell 0), some (.int n), some (.int most), some (.cell (r.length + 1)), some (.int (1 + c0)), o1, o2, o3] (p' :: (r ++ [.lst (ss.map pairD)])) ∧ PenOk (B + 1 + 3 * i) p' ∧ ss.length = i ∧ ∀ s ∈ ss, Svc s)
    ⟨p0, [], none, none, none, ⟨rfl, rfl⟩, hp0.mono (by omega), rfl, fun s h => nomatch h⟩ ?_ ?_
  · rintro i y δ τ hi ⟨p', ss, o1, o2, o3, ⟨rfl, rfl⟩, hp', hl, hs⟩
    have hlt : i < (1 + c0).toNat := by
      have := (List.getElem?_eq_some_iff.mp hi).1
      simpa using this
    have hi12 : (i : Int) ≤ 200 := by omega
    rw [List.getElem?_map, List.getElem?_range hlt] at hi
    cases hi
    try simp only [wr_ok, w_var, w_c, w_p, w_nil, w_cons, w_call, w_tup, w_lst, w_lstC, w_dicC, w_B, w_and, w_or, w_not, w_andV, w_orV, w_if, w_chain, w_fld, w_meth, w_make, w_bm, w_rev, w_sortIt, w_get2, w_callV,
  w_next, w_seq, w_drop, w_ret, w_retN, w_break, w_cont, w_ifS, w_asg, w_gname, w_gsub, w_gtup, w_gnil, w_gcons, w_par, w_setFld, w_while, w_for, w_items, w_range1, w_lc, w_yes, w_def,
  der_int, der_bl, der_str, der_lst, der_frl, der_tup, der_dic, der_non, der_obj, der_raw, p_add, p_sub, p_mul, p_fdiv, p_mod, p_pow, p_neg, p_cmp, p_abs, p_min2, p_max2, p_eqI, p_notB, p_lenL, p_lenT, p_listL, newL_w, newLC_w, p_ixL, p_ixT,
  List.map_cons, List.map_nil, List.length_cons, List.length_nil, List.replicate_zero, List.replicate_succ, List.replicate, List.cons_append, List.nil_append, List.append_nil, List.getElem?_cons_zero, List.getElem?_cons_succ, List.set_cons_zero, List.set_cons_succ,
  List.zip_cons_cons, List.zip_nil_left, List.zip_nil_right, List.foldl_cons, List.foldl_nil, Nat.reduceAdd, Nat.reduceSub, Nat.zero_add, Nat.add_zero, Nat.reduceLeDiff, true_and, and_true, if_true, Bool.false_eq_true, if_false]
    have f1 := frac (k := (i : Int)) (show 0 ≤ n by omega) (by omega) (show (i : Int) < 1 + c0 by omega)
    refine ⟨⟨big_of (by omega), big_of (by omega)⟩, ⟨by omega, bigd_of (by omega)⟩, ?_⟩
    refine draw_then hp' (by omega) (by omega) (by omega) fun d p1 hp1 d1 d2 => ?_
    try simp only [wr_ok, w_var, w_c, w_p, w_nil, w_cons, w_call, w_tup, w_lst, w_lstC, w_dicC, w_B, w_and, w_or, w_not, w_andV, w_orV, w_if, w_chain, w_fld, w_meth, w_make, w_bm, w_rev, w_sortIt, w_get2, w_callV,
  w_next, w_seq, w_drop, w_ret, w_retN, w_break, w_cont, w_ifS, w_asg, w_gname, w_gsub, w_gtup, w_gnil, w_gcons, w_par, w_setFld, w_while, w_for, w_items, w_range1, w_lc, w_yes, w_def,
  der_int, der_bl, der_str, der_lst, der_frl, der_tup, der_dic, der_non, der_obj, der_raw, p_add, p_sub, p_mul, p_fdiv, p_mod, p_pow, p_neg, p_cmp, p_abs, p_min2, p_max2, p_eqI, p_notB, p_lenL, p_lenT, p_listL, newL_w, newLC_w, p_ixL, p_ixT,
  List.map_cons, List.map_nil, List.length_cons, List.length_nil, List.replicate_zero, List.replicate_succ, List.replicate, List.cons_append, List.nil_append, List.append_nil, List.getElem?_cons_zero, List.getElem?_cons_succ, List.set_cons_zero, List.set_cons_succ,
  List.zip_cons_cons, List.zip_nil_left, List.zip_nil_right, List.foldl_cons, List.foldl_nil, Nat.reduceAdd, Nat.reduceSub, Nat.zero_add, Nat.add_zero, Nat.reduceLeDiff, true_and, and_true, if_true, Bool.false_eq_true, if_false]
    refine draw_then hp1 (by omega) (by omega) (by omega) fun e p2 hp2 e1 e2 => ?_
    have f2 := frac (k := e) (show 0 ≤ n by omega) (by omega) (show e < 1 + c0 by omega)
    try simp only [wr_ok, w_var, w_c, w_p, w_nil, w_cons, w_call, w_tup, w_lst, w_lstC, w_dicC, w_B, w_and, w_or, w_not, w_andV, w_orV, w_if, w_chain, w_fld, w_meth, w_make, w_bm, w_rev, w_sortIt, w_get2, w_callV,
  w_next, w_seq, w_drop, w_ret, w_retN, w_break, w_cont, w_ifS, w_asg, w_gname, w_gsub, w_gtup, w_gnil, w_gcons, w_par, w_setFld, w_while, w_for, w_items, w_range1, w_lc, w_yes, w_def,
  der_int, der_bl, der_str, der_lst, der_frl, der_tup, der_dic, der_non, der_obj, der_raw, p_add, p_sub, p_mul, p_fdiv, p_mod, p_pow, p_neg, p_cmp, p_abs, p_min2, p_max2, p_eqI, p_notB, p_lenL, p_lenT, p_listL, newL_w, newLC_w, p_ixL, p_ixT,
  List.map_cons, List.map_nil, List.length_cons, List.length_nil, List.replicate_zero, List.replicate_succ, List.replicate, List.cons_append, List.nil_append, List.append_nil, List.getElem?_cons_zero, List.getElem?_cons_succ, List.set_cons_zero, List.set_cons_succ,
  List.zip_cons_cons, List.zip_nil_left, List.zip_nil_right, List.foldl_cons, List.foldl_nil, Nat.reduceAdd, Nat.reduceSub, Nat.zero_add, Nat.add_zero, Nat.reduceLeDiff, true_and, and_true, if_true, Bool.false_eq_true, if_false]
    refine ⟨⟨big_of (by omega), big_of (by omega)⟩, ⟨by omega, bigd_of (by omega)⟩, ?_⟩
    refine draw_then hp2 (by omega) (by omega) (by omega) fun g p3 hp3 g1 g2 => ?_
    try simp only [wr_ok, w_var, w_c, w_p, w_nil, w_cons, w_call, w_tup, w_lst, w_lstC, w_dicC, w_B, w_and, w_or, w_not, w_andV, w_orV, w_if, w_chain, w_fld, w_meth, w_make, w_bm, w_rev, w_sortIt, w_get2, w_callV,
  w_next, w_seq, w_drop, w_ret, w_retN, w_break, w_cont, w_ifS, w_asg, w_gname, w_gsub, w_gtup, w_gnil, w_gcons, w_par, w_setFld, w_while, w_for, w_items, w_range1, w_lc, w_yes, w_def,
  der_int, der_bl, der_str, der_lst, der_frl, der_tup, der_dic, der_non, der_obj, der_raw, p_add, p_sub, p_mul, p_fdiv, p_mod, p_pow, p_neg, p_cmp, p_abs, p_min2, p_max2, p_eqI, p_notB, p_lenL, p_lenT, p_listL, newL_w, newLC_w, p_ixL, p_ixT,
  List.map_cons, List.map_nil, List.length_cons, List.length_nil, List.replicate_zero, List.replicate_succ, List.replicate, List.cons_append, List.nil_append, List.append_nil, List.getElem?_cons_zero, List.getElem?_cons_succ, List.set_cons_zero, List.set_cons_succ,
  List.zip_cons_cons, List.zip_nil_left, List.zip_nil_right, List.foldl_cons, List.foldl_nil, Nat.reduceAdd, Nat.reduceSub, Nat.zero_add, Nat.add_zero, Nat.reduceLeDiff, true_and, and_true, if_true, Bool.false_eq_true, if_false, der_c1, isT_lst, p_append1]
    refine ⟨by rw [List.length_map, hl]; unfold cap; omega, p3, ss ++ [(n * i / (1 + c0) + d - 1, n * i / (1 + c0) + d - 1 + (n * e / (1 + c0) + g))], _, _, _, ⟨rfl, ?_⟩, hp3.mono (by omega), by simp [hl], ?_⟩
    · simp [pairD]
    · intro s h
      rcases List.mem_append.mp h with h | h
      · exact hs s h
      · rw [List.mem_singleton.mp h]
        refine ⟨?_, ?_, ?_, ?_⟩ <;> (simp only; omega)
  · rintro δ τ ⟨p', ss, o1, o2, o3, ⟨rfl, rfl⟩, hp', hl, hs⟩
    simp only [List.length_map, List.length_range] at hp' hl
    try simp only [wr_ok, w_var, w_c, w_p, w_nil, w_cons, w_call, w_tup, w_lst, w_lstC, w_dicC, w_B, w_and, w_or, w_not, w_andV, w_orV, w_if, w_chain, w_fld, w_meth, w_make, w_bm, w_rev, w_sortIt, w_get2, w_callV,
  w_next, w_seq, w_drop, w_ret, w_retN, w_break, w_cont, w_ifS, w_asg, w_gname, w_gsub, w_gtup, w_gnil, w_gcons, w_par, w_setFld, w_while, w_for, w_items, w_range1, w_lc, w_yes, w_def,
  der_int, der_bl, der_str, der_lst, der_frl, der_tup, der_dic, der_non, der_obj, der_raw, p_add, p_sub, p_mul, p_fdiv, p_mod, p_pow, p_neg, p_cmp, p_abs, p_min2, p_max2, p_eqI, p_notB, p_lenL, p_lenT, p_listL, newL_w, newLC_w, p_ixL, p_ixT,
  List.map_cons, List.map_nil, List.length_cons, List.length_nil, List.replicate_zero, List.replicate_succ, List.replicate, List.cons_append, List.nil_append, List.append_nil, List.getElem?_cons_zero, List.getElem?_cons_succ, List.set_cons_zero, List.set_cons_succ,
  List.zip_cons_cons, List.zip_nil_left, List.zip_nil_right, List.foldl_cons, List.foldl_nil, Nat.reduceAdd, Nat.reduceSub, Nat.zero_add, Nat.add_zero, Nat.reduceLeDiff, true_and, and_true, if_true, Bool.false_eq_true, if_false]
    refine ⟨p', _, .lst (ss.map pairD), rfl, hp'.pla, pla_pairs ss, fun c hc => ?_, K ss p' (hp'.mono (by omega)) (by omega) (by omega) hs⟩
    show c (r.length + 1) = _
    exact hc
end
end DL

namespace DL
open PySem L2
section
variable {B : Int} {p : D} {r : List D} {Φ : D → List D → Prop}
theorem pla_map (n : Int) (ss : List (Int × Int)) : Pla (.tup [.int n, .lst (ss.map pairD)]) := pla_tup fun d hd => by
  simp only [List.mem_cons, List.not_mem_nil, or_false] at hd
  rcases hd with rfl | rfl
  · exact pla_int _
  · exact pla_pairs ss
/-- a map's period and services, as drawn -/
structure MapIs (n : Int) (ss : List (Int × Int)) : Prop where
  n1 : 1 ≤ n
  n2 : n ≤ 10 ^ 18
  s1 : 1 ≤ ss.length
  s2 : ss.length ≤ 24
  sv : ∀ s ∈ ss, Svc s
theorem small_then (hp : PenOk B p) (hB : B + 2000 ≤ 10 ^ 12) (K : ∀ n (ss : List (Int × Int)) p', PenOk (B + 1000) p' → MapIs n ss → Φ (.tup [.int n, .lst (ss.map pairD)]) (p' :: r)) : WR (m__law_small [.cell 0] (p :: r)) Φ := by
  unfold m__law_small b__law_small
  try simp only [wr_ok, w_var, w_c, w_p, w_nil, w_cons, w_call, w_tup, w_lst, w_lstC, w_dicC, w_B, w_and, w_or, w_not, w_andV, w_orV, w_if, w_chain, w_fld, w_meth, w_make, w_bm, w_rev, w_sortIt, w_get2, w_callV,
  w_next, w_seq, w_drop, w_ret, w_retN, w_break, w_cont, w_ifS, w_asg, w_gname, w_gsub, w_gtup, w_gnil, w_gcons, w_par, w_setFld, w_while, w_for, w_items, w_range1, w_lc, w_yes, w_def,
  der_int, der_bl, der_str, der_lst, der_frl, der_tup, der_dic, der_non, der_obj, der_raw, p_add, p_sub, p_mul, p_fdiv, p_mod, p_pow, p_neg, p_cmp, p_abs, p_min2, p_max2, p_eqI, p_notB, p_lenL, p_lenT, p_listL, newL_w, newLC_w, p_ixL, p_ixT,
  List.map_cons, List.map_nil, List.length_cons, List.length_nil, List.replicate_zero, List.replicate_succ, List.replicate, List.cons_append, List.nil_append, List.append_nil, List.getElem?_cons_zero, List.getElem?_cons_succ, List.set_cons_zero, List.set_cons_succ,
  List.zip_cons_cons, List.zip_nil_left, List.zip_nil_right, List.foldl_cons, List.foldl_nil, Nat.reduceAdd, Nat.reduceSub, Nat.zero_add, Nat.add_zero, Nat.reduceLeDiff, true_and, and_true, if_true, Bool.false_eq_true, if_false]
  refine draw_then hp (by omega) (by omega) (by omega) fun x1 p1 hp1 a1 b1 => ?_
  try simp only [wr_ok, w_var, w_c, w_p, w_nil, w_cons, w_call, w_tup, w_lst, w_lstC, w_dicC, w_B, w_and, w_or, w_not, w_andV, w_orV, w_if, w_chain, w_fld, w_meth, w_make, w_bm, w_rev, w_sortIt, w_get2, w_callV,
  w_next, w_seq, w_drop, w_ret, w_retN, w_break, w_cont, w_ifS, w_asg, w_gname, w_gsub, w_gtup, w_gnil, w_gcons, w_par, w_setFld, w_while, w_for, w_items, w_range1, w_lc, w_yes, w_def,
  der_int, der_bl, der_str, der_lst, der_frl, der_tup, der_dic, der_non, der_obj, der_raw, p_add, p_sub, p_mul, p_fdiv, p_mod, p_pow, p_neg, p_cmp, p_abs, p_min2, p_max2, p_eqI, p_notB, p_lenL, p_lenT, p_listL, newL_w, newLC_w, p_ixL, p_ixT,
  List.map_cons, List.map_nil, List.length_cons, List.length_nil, List.replicate_zero, List.replicate_succ, List.replicate, List.cons_append, List.nil_append, List.append_nil, List.getElem?_cons_zero, List.getElem?_cons_succ, List.set_cons_zero, List.set_cons_succ,
  List.zip_cons_cons, List.zip_nil_left, List.zip_nil_right, List.foldl_cons, List.foldl_nil, Nat.reduceAdd, Nat.reduceSub, Nat.zero_add, Nat.add_zero, Nat.reduceLeDiff, true_and, and_true, if_true, Bool.false_eq_true, if_false]
  refine draw_then hp1 (by omega) (by omega) (by omega) fun x2 p2 hp2 a2 b2 => ?_
  try simp only [wr_ok, w_var, w_c, w_p, w_nil, w_cons, w_call, w_tup, w_lst, w_lstC, w_dicC, w_B, w_and, w_or, w_not, w_andV, w_orV, w_if, w_chain, w_fld, w_meth, w_make, w_bm, w_rev, w_sortIt, w_get2, w_callV,
  w_next, w_seq, w_drop, w_ret, w_retN, w_break, w_cont, w_ifS, w_asg, w_gname, w_gsub, w_gtup, w_gnil, w_gcons, w_par, w_setFld, w_while, w_for, w_items, w_range1, w_lc, w_yes, w_def,
  der_int, der_bl, der_str, der_lst, der_frl, der_tup, der_dic, der_non, der_obj, der_raw, p_add, p_sub, p_mul, p_fdiv, p_mod, p_pow, p_neg, p_cmp, p_abs, p_min2, p_max2, p_eqI, p_notB, p_lenL, p_lenT, p_listL, newL_w, newLC_w, p_ixL, p_ixT,
  List.map_cons, List.map_nil, List.length_cons, List.length_nil, List.replicate_zero, List.replicate_succ, List.replicate, List.cons_append, List.nil_append, List.append_nil, List.getElem?_cons_zero, List.getElem?_cons_succ, List.set_cons_zero, List.set_cons_succ,
  List.zip_cons_cons, List.zip_nil_left, List.zip_nil_right, List.foldl_cons, List.foldl_nil, Nat.reduceAdd, Nat.reduceSub, Nat.zero_add, Nat.add_zero, Nat.reduceLeDiff, true_and, and_true, if_true, Bool.false_eq_true, if_false]
  refine draw_then hp2 (by omega) (by omega) (by omega) fun x3 p3 hp3 a3 b3 => ?_
  try simp only [wr_ok, w_var, w_c, w_p, w_nil, w_cons, w_call, w_tup, w_lst, w_lstC, w_dicC, w_B, w_and, w_or, w_not, w_andV, w_orV, w_if, w_chain, w_fld, w_meth, w_make, w_bm, w_rev, w_sortIt, w_get2, w_callV,
  w_next, w_seq, w_drop, w_ret, w_retN, w_break, w_cont, w_ifS, w_asg, w_gname, w_gsub, w_gtup, w_gnil, w_gcons, w_par, w_setFld, w_while, w_for, w_items, w_range1, w_lc, w_yes, w_def,
  der_int, der_bl, der_str, der_lst, der_frl, der_tup, der_dic, der_non, der_obj, der_raw, p_add, p_sub, p_mul, p_fdiv, p_mod, p_pow, p_neg, p_cmp, p_abs, p_min2, p_max2, p_eqI, p_notB, p_lenL, p_lenT, p_listL, newL_w, newLC_w, p_ixL, p_ixT,
  List.map_cons, List.map_nil, List.length_cons, List.length_nil, List.replicate_zero, List.replicate_succ, List.replicate, List.cons_append, List.nil_append, List.append_nil, List.getElem?_cons_zero, List.getElem?_cons_succ, List.set_cons_zero, List.set_cons_succ,
  List.zip_cons_cons, List.zip_nil_left, List.zip_nil_right, List.foldl_cons, List.foldl_nil, Nat.reduceAdd, Nat.reduceSub, Nat.zero_add, Nat.add_zero, Nat.reduceLeDiff, true_and, and_true, if_true, Bool.false_eq_true, if_false]
  refine picki_then (ys := [x1, x2, x3]) hp3 (by omega) (by simp) (by simp) fun z p4 hp4 hz => ?_
  have hz : 0 ≤ z ∧ z ≤ 99 := by
    simp only [List.mem_cons, List.not_mem_nil, or_false] at hz
    omega
  try simp only [wr_ok, w_var, w_c, w_p, w_nil, w_cons, w_call, w_tup, w_lst, w_lstC, w_dicC, w_B, w_and, w_or, w_not, w_andV, w_orV, w_if, w_chain, w_fld, w_meth, w_make, w_bm, w_rev, w_sortIt, w_get2, w_callV,
  w_next, w_seq, w_drop, w_ret, w_retN, w_break, w_cont, w_ifS, w_asg, w_gname, w_gsub, w_gtup, w_gnil, w_gcons, w_par, w_setFld, w_while, w_for, w_items, w_range1, w_lc, w_yes, w_def,
  der_int, der_bl, der_str, der_lst, der_frl, der_tup, der_dic, der_non, der_obj, der_raw, p_add, p_sub, p_mul, p_fdiv, p_mod, p_pow, p_neg, p_cmp, p_abs, p_min2, p_max2, p_eqI, p_notB, p_lenL, p_lenT, p_listL, newL_w, newLC_w, p_ixL, p_ixT,
  List.map_cons, List.map_nil, List.length_cons, List.length_nil, List.replicate_zero, List.replicate_succ, List.replicate, List.cons_append, List.nil_append, List.append_nil, List.getElem?_cons_zero, List.getElem?_cons_succ, List.set_cons_zero, List.set_cons_succ,
  List.zip_cons_cons, List.zip_nil_left, List.zip_nil_right, List.foldl_cons, List.foldl_nil, Nat.reduceAdd, Nat.reduceSub, Nat.zero_add, Nat.add_zero, Nat.reduceLeDiff, true_and, and_true, if_true, Bool.false_eq_true, if_false]
  refine picki_then (ys := [1, 4, 12]) hp4 (by omega) (by decide) (by decide) fun y p5 hp5 hy => ?_
  have hy : 1 ≤ y ∧ y ≤ 12 := by
    simp only [List.mem_cons, List.not_mem_nil, or_false] at hy
    omega
  try simp only [wr_ok, w_var, w_c, w_p, w_nil, w_cons, w_call, w_tup, w_lst, w_lstC, w_dicC, w_B, w_and, w_or, w_not, w_andV, w_orV, w_if, w_chain, w_fld, w_meth, w_make, w_bm, w_rev, w_sortIt, w_get2, w_callV,
  w_next, w_seq, w_drop, w_ret, w_retN, w_break, w_cont, w_ifS, w_asg, w_gname, w_gsub, w_gtup, w_gnil, w_gcons, w_par, w_setFld, w_while, w_for, w_items, w_range1, w_lc, w_yes, w_def,
  der_int, der_bl, der_str, der_lst, der_frl, der_tup, der_dic, der_non, der_obj, der_raw, p_add, p_sub, p_mul, p_fdiv, p_mod, p_pow, p_neg, p_cmp, p_abs, p_min2, p_max2, p_eqI, p_notB, p_lenL, p_lenT, p_listL, newL_w, newLC_w, p_ixL, p_ixT,
  List.map_cons, List.map_nil, List.length_cons, List.length_nil, List.replicate_zero, List.replicate_succ, List.replicate, List.cons_append, List.nil_append, List.append_nil, List.getElem?_cons_zero, List.getElem?_cons_succ, List.set_cons_zero, List.set_cons_succ,
  List.zip_cons_cons, List.zip_nil_left, List.zip_nil_right, List.foldl_cons, List.foldl_nil, Nat.reduceAdd, Nat.reduceSub, Nat.zero_add, Nat.add_zero, Nat.reduceLeDiff, true_and, and_true, if_true, Bool.false_eq_true, if_false]
  refine small_services_then hp5 (by omega) (by omega) (by omega) hy.1 hy.2 fun ss p6 hp6 l1 l2 hs => ?_
  try simp only [wr_ok, w_var, w_c, w_p, w_nil, w_cons, w_call, w_tup, w_lst, w_lstC, w_dicC, w_B, w_and, w_or, w_not, w_andV, w_orV, w_if, w_chain, w_fld, w_meth, w_make, w_bm, w_rev, w_sortIt, w_get2, w_callV,
  w_next, w_seq, w_drop, w_ret, w_retN, w_break, w_cont, w_ifS, w_asg, w_gname, w_gsub, w_gtup, w_gnil, w_gcons, w_par, w_setFld, w_while, w_for, w_items, w_range1, w_lc, w_yes, w_def,
  der_int, der_bl, der_str, der_lst, der_frl, der_tup, der_dic, der_non, der_obj, der_raw, p_add, p_sub, p_mul, p_fdiv, p_mod, p_pow, p_neg, p_cmp, p_abs, p_min2, p_max2, p_eqI, p_notB, p_lenL, p_lenT, p_listL, newL_w, newLC_w, p_ixL, p_ixT,
  List.map_cons, List.map_nil, List.length_cons, List.length_nil, List.replicate_zero, List.replicate_succ, List.replicate, List.cons_append, List.nil_append, List.append_nil, List.getElem?_cons_zero, List.getElem?_cons_succ, List.set_cons_zero, List.set_cons_succ,
  List.zip_cons_cons, List.zip_nil_left, List.zip_nil_right, List.foldl_cons, List.foldl_nil, Nat.reduceAdd, Nat.reduceSub, Nat.zero_add, Nat.add_zero, Nat.reduceLeDiff, true_and, and_true, if_true, Bool.false_eq_true, if_false]
  exact K _ ss p6 (hp6.mono (by omega)) ⟨by omega, by omega, l1, (by omega), hs⟩
theorem great_map_then (hp : PenOk B p) (hB : B + 6000 ≤ 10 ^ 12) (K : ∀ n (ss : List (Int × Int)) p', PenOk (B + 5000) p' → MapIs n ss → Φ (.tup [.int n, .lst (ss.map pairD)]) (p' :: r)) : WR (m__law_great_map [.cell 0] (p :: r)) Φ := by
  unfold m__law_great_map b__law_great_map
  have e18 : (10 : Int) ^ (18 : Int).toNat = 10 ^ 18 := by decide
  have key : ∀ {Ψ : D → List D → Prop} {q : D} {r : List D} {C : Int}, PenOk C q → C + 1000 ≤ 10 ^ 12 → (∀ y p', PenOk (C + 200) p' → 0 ≤ y → y < 10 ^ 20 → Ψ (.int y) (p' :: r)) → ∀ ys : List Int, (1 ≤ ys.length) → ys.length ≤ 10 ^ 6 → (∀ y ∈ ys, 0 ≤ y ∧ y ≤ 20) →
      WR (m__law_pick [.cell 0, .lst (ys.map D.int)] (q :: r)) fun d τ => WR (m__law_great [.cell 0, d] τ) Ψ := by
    intro Ψ q r C hq hC k ys h1 h2 hy
    refine picki_then hq (by omega) h1 h2 fun y p1 hp1 hm => ?_
    obtain ⟨g1, g2⟩ := hy y hm
    refine great_then hp1 (by omega) g1 (by omega) fun x p2 hp2 x1 x2 => ?_
    refine k x p2 (hp2.mono (by omega)) x1 (Int.lt_of_lt_of_le x2 ?_)
    have : (10 : Nat) ^ y.toNat ≤ 10 ^ 20 := Nat.pow_le_pow_right (by decide) (by omega)
    exact_mod_cast this
  refine w_exitD ?_
  rw [w_def]
  refine w_cut (fun δ τ => ∃ n p', At δ τ [some (.cell 0), some (.int n), none, none, none] (p' :: r) ∧ PenOk (B + 300) p' ∧ 1 ≤ n ∧ n ≤ 10 ^ 18) ?_ ?_
  · try simp only [wr_ok, w_var, w_c, w_p, w_nil, w_cons, w_call, w_tup, w_lst, w_lstC, w_dicC, w_B, w_and, w_or, w_not, w_andV, w_orV, w_if, w_chain, w_fld, w_meth, w_make, w_bm, w_rev, w_sortIt, w_get2, w_callV,
  w_next, w_seq, w_drop, w_ret, w_retN, w_break, w_cont, w_ifS, w_asg, w_gname, w_gsub, w_gtup, w_gnil, w_gcons, w_par, w_setFld, w_while, w_for, w_items, w_range1, w_lc, w_yes, w_def,
  der_int, der_bl, der_str, der_lst, der_frl, der_tup, der_dic, der_non, der_obj, der_raw, p_add, p_sub, p_mul, p_fdiv, p_mod, p_pow, p_neg, p_cmp, p_abs, p_min2, p_max2, p_eqI, p_notB, p_lenL, p_lenT, p_listL, newL_w, newLC_w, p_ixL, p_ixT,
  List.map_cons, List.map_nil, List.length_cons, List.length_nil, List.replicate_zero, List.replicate_succ, List.replicate, List.cons_append, List.nil_append, List.append_nil, List.getElem?_cons_zero, List.getElem?_cons_succ, List.set_cons_zero, List.set_cons_succ,
  List.zip_cons_cons, List.zip_nil_left, List.zip_nil_right, List.foldl_cons, List.foldl_nil, Nat.reduceAdd, Nat.reduceSub, Nat.zero_add, Nat.add_zero, Nat.reduceLeDiff, true_and, and_true, if_true, Bool.false_eq_true, if_false]
    refine ⟨by decide, ?_⟩
    refine key hp (by omega) (fun y p1 hp1 y1 y2 => ?_) [3, 9, 18] (by decide) (by decide) (by decide)
    try simp only [wr_ok, w_var, w_c, w_p, w_nil, w_cons, w_call, w_tup, w_lst, w_lstC, w_dicC, w_B, w_and, w_or, w_not, w_andV, w_orV, w_if, w_chain, w_fld, w_meth, w_make, w_bm, w_rev, w_sortIt, w_get2, w_callV,
  w_next, w_seq, w_drop, w_ret, w_retN, w_break, w_cont, w_ifS, w_asg, w_gname, w_gsub, w_gtup, w_gnil, w_gcons, w_par, w_setFld, w_while, w_for, w_items, w_range1, w_lc, w_yes, w_def,
  der_int, der_bl, der_str, der_lst, der_frl, der_tup, der_dic, der_non, der_obj, der_raw, p_add, p_sub, p_mul, p_fdiv, p_mod, p_pow, p_neg, p_cmp, p_abs, p_min2, p_max2, p_eqI, p_notB, p_lenL, p_lenT, p_listL, newL_w, newLC_w, p_ixL, p_ixT,
  List.map_cons, List.map_nil, List.length_cons, List.length_nil, List.replicate_zero, List.replicate_succ, List.replicate, List.cons_append, List.nil_append, List.append_nil, List.getElem?_cons_zero, List.getElem?_cons_succ, List.set_cons_zero, List.set_cons_succ,
  List.zip_cons_cons, List.zip_nil_left, List.zip_nil_right, List.foldl_cons, List.foldl_nil, Nat.reduceAdd, Nat.reduceSub, Nat.zero_add, Nat.add_zero, Nat.reduceLeDiff, true_and, and_true, if_true, Bool.false_eq_true, if_false, e18]
    refine ⟨_, p1, ⟨rfl, rfl⟩, hp1.mono (by omega), ?_, ?_⟩ <;> (split <;> omega)
  rintro δ τ ⟨n, p1, ⟨rfl, rfl⟩, hp1, n1, n2⟩
  refine w_cut (fun δ τ => ∃ p', At δ τ [some (.cell 0), some (.int n), none, none, none] (p' :: r) ∧ PenOk (B + 301) p') ?_ ?_
  · try simp only [wr_ok, w_var, w_c, w_p, w_nil, w_cons, w_call, w_tup, w_lst, w_lstC, w_dicC, w_B, w_and, w_or, w_not, w_andV, w_orV, w_if, w_chain, w_fld, w_meth, w_make, w_bm, w_rev, w_sortIt, w_get2, w_callV,
  w_next, w_seq, w_drop, w_ret, w_retN, w_break, w_cont, w_ifS, w_asg, w_gname, w_gsub, w_gtup, w_gnil, w_gcons, w_par, w_setFld, w_while, w_for, w_items, w_range1, w_lc, w_yes, w_def,
  der_int, der_bl, der_str, der_lst, der_frl, der_tup, der_dic, der_non, der_obj, der_raw, p_add, p_sub, p_mul, p_fdiv, p_mod, p_pow, p_neg, p_cmp, p_abs, p_min2, p_max2, p_eqI, p_notB, p_lenL, p_lenT, p_listL, newL_w, newLC_w, p_ixL, p_ixT,
  List.map_cons, List.map_nil, List.length_cons, List.length_nil, List.replicate_zero, List.replicate_succ, List.replicate, List.cons_append, List.nil_append, List.append_nil, List.getElem?_cons_zero, List.getElem?_cons_succ, List.set_cons_zero, List.set_cons_succ,
  List.zip_cons_cons, List.zip_nil_left, List.zip_nil_right, List.foldl_cons, List.foldl_nil, Nat.reduceAdd, Nat.reduceSub, Nat.zero_add, Nat.add_zero, Nat.reduceLeDiff, true_and, and_true, if_true, Bool.false_eq_true, if_false]
    refine draw_then hp1 (by omega) (by omega) (by omega) fun x p2 hp2 a b => ?_
    try simp only [wr_ok, w_var, w_c, w_p, w_nil, w_cons, w_call, w_tup, w_lst, w_lstC, w_dicC, w_B, w_and, w_or, w_not, w_andV, w_orV, w_if, w_chain, w_fld, w_meth, w_make, w_bm, w_rev, w_sortIt, w_get2, w_callV,
  w_next, w_seq, w_drop, w_ret, w_retN, w_break, w_cont, w_ifS, w_asg, w_gname, w_gsub, w_gtup, w_gnil, w_gcons, w_par, w_setFld, w_while, w_for, w_items, w_range1, w_lc, w_yes, w_def,
  der_int, der_bl, der_str, der_lst, der_frl, der_tup, der_dic, der_non, der_obj, der_raw, p_add, p_sub, p_mul, p_fdiv, p_mod, p_pow, p_neg, p_cmp, p_abs, p_min2, p_max2, p_eqI, p_notB, p_lenL, p_lenT, p_listL, newL_w, newLC_w, p_ixL, p_ixT,
  List.map_cons, List.map_nil, List.length_cons, List.length_nil, List.replicate_zero, List.replicate_succ, List.replicate, List.cons_append, List.nil_append, List.append_nil, List.getElem?_cons_zero, List.getElem?_cons_succ, List.set_cons_zero, List.set_cons_succ,
  List.zip_cons_cons, List.zip_nil_left, List.zip_nil_right, List.foldl_cons, List.foldl_nil, Nat.reduceAdd, Nat.reduceSub, Nat.zero_add, Nat.add_zero, Nat.reduceLeDiff, true_and, and_true, if_true, Bool.false_eq_true, if_false]
    split
    · refine close_services_then hp2 (by omega) n1 n2 (by decide) (by decide) fun ss p3 hp3 l1 l2 hs => ?_
      try simp only [wr_ok, w_var, w_c, w_p, w_nil, w_cons, w_call, w_tup, w_lst, w_lstC, w_dicC, w_B, w_and, w_or, w_not, w_andV, w_orV, w_if, w_chain, w_fld, w_meth, w_make, w_bm, w_rev, w_sortIt, w_get2, w_callV,
  w_next, w_seq, w_drop, w_ret, w_retN, w_break, w_cont, w_ifS, w_asg, w_gname, w_gsub, w_gtup, w_gnil, w_gcons, w_par, w_setFld, w_while, w_for, w_items, w_range1, w_lc, w_yes, w_def,
  der_int, der_bl, der_str, der_lst, der_frl, der_tup, der_dic, der_non, der_obj, der_raw, p_add, p_sub, p_mul, p_fdiv, p_mod, p_pow, p_neg, p_cmp, p_abs, p_min2, p_max2, p_eqI, p_notB, p_lenL, p_lenT, p_listL, newL_w, newLC_w, p_ixL, p_ixT,
  List.map_cons, List.map_nil, List.length_cons, List.length_nil, List.replicate_zero, List.replicate_succ, List.replicate, List.cons_append, List.nil_append, List.append_nil, List.getElem?_cons_zero, List.getElem?_cons_succ, List.set_cons_zero, List.set_cons_succ,
  List.zip_cons_cons, List.zip_nil_left, List.zip_nil_right, List.foldl_cons, List.foldl_nil, Nat.reduceAdd, Nat.reduceSub, Nat.zero_add, Nat.add_zero, Nat.reduceLeDiff, true_and, and_true, if_true, Bool.false_eq_true, if_false]
      exact ⟨_, pla_map n ss _, (by have := older_pen (p := p) (p' := p3) (rest := r) (l := []) hp3.pla; rwa [List.append_nil] at this), by simpa using K n ss p3 (hp3.mono (by omega)) ⟨n1, n2, l1, (by omega), hs⟩⟩
    · exact ⟨p2, ⟨rfl, rfl⟩, hp2.mono (by omega)⟩
  rintro δ τ ⟨p2, ⟨rfl, rfl⟩, hp2⟩
  try simp only [wr_ok, w_var, w_c, w_p, w_nil, w_cons, w_call, w_tup, w_lst, w_lstC, w_dicC, w_B, w_and, w_or, w_not, w_andV, w_orV, w_if, w_chain, w_fld, w_meth, w_make, w_bm, w_rev, w_sortIt, w_get2, w_callV,
  w_next, w_seq, w_drop, w_ret, w_retN, w_break, w_cont, w_ifS, w_asg, w_gname, w_gsub, w_gtup, w_gnil, w_gcons, w_par, w_setFld, w_while, w_for, w_items, w_range1, w_lc, w_yes, w_def,
  der_int, der_bl, der_str, der_lst, der_frl, der_tup, der_dic, der_non, der_obj, der_raw, p_add, p_sub, p_mul, p_fdiv, p_mod, p_pow, p_neg, p_cmp, p_abs, p_min2, p_max2, p_eqI, p_notB, p_lenL, p_lenT, p_listL, newL_w, newLC_w, p_ixL, p_ixT,
  List.map_cons, List.map_nil, List.length_cons, List.length_nil, List.replicate_zero, List.replicate_succ, List.replicate, List.cons_append, List.nil_append, List.append_nil, List.getElem?_cons_zero, List.getElem?_cons_succ, List.set_cons_zero, List.set_cons_succ,
  List.zip_cons_cons, List.zip_nil_left, List.zip_nil_right, List.foldl_cons, List.foldl_nil, Nat.reduceAdd, Nat.reduceSub, Nat.zero_add, Nat.add_zero, Nat.reduceLeDiff, true_and, and_true, if_true, Bool.false_eq_true, if_false]
  refine draw_then hp2 (by omega) (by omega) (by omega) fun c0 p3 hp3 a0 b0 => ?_
  try simp only [wr_ok, w_var, w_c, w_p, w_nil, w_cons, w_call, w_tup, w_lst, w_lstC, w_dicC, w_B, w_and, w_or, w_not, w_andV, w_orV, w_if, w_chain, w_fld, w_meth, w_make, w_bm, w_rev, w_sortIt, w_get2, w_callV,
  w_next, w_seq, w_drop, w_ret, w_retN, w_break, w_cont, w_ifS, w_asg, w_gname, w_gsub, w_gtup, w_gnil, w_gcons, w_par, w_setFld, w_while, w_for, w_items, w_range1, w_lc, w_yes, w_def,
  der_int, der_bl, der_str, der_lst, der_frl, der_tup, der_dic, der_non, der_obj, der_raw, p_add, p_sub, p_mul, p_fdiv, p_mod, p_pow, p_neg, p_cmp, p_abs, p_min2, p_max2, p_eqI, p_notB, p_lenL, p_lenT, p_listL, newL_w, newLC_w, p_ixL, p_ixT,
  List.map_cons, List.map_nil, List.length_cons, List.length_nil, List.replicate_zero, List.replicate_succ, List.replicate, List.cons_append, List.nil_append, List.append_nil, List.getElem?_cons_zero, List.getElem?_cons_succ, List.set_cons_zero, List.set_cons_succ,
  List.zip_cons_cons, List.zip_nil_left, List.zip_nil_right, List.foldl_cons, List.foldl_nil, Nat.reduceAdd, Nat.reduceSub, Nat.zero_add, Nat.add_zero, Nat.reduceLeDiff, true_and, and_true, if_true, Bool.false_eq_true, if_false]
  refine ⟨by omega, ?_⟩
  refine w_forI (fun i δ τ => ∃ p' ss o1 o2, At δ τ [some (.cell 0), some (.int n), some (.cell (r.length + 1)), o1, o2] (p' :: (r ++ [.lst (ss.map pairD)])) ∧ PenOk (B + 302 + 300 * i) p' ∧ ss.length = i ∧ ∀ s ∈ ss, Svc s)
    ⟨p3, [], none, none, ⟨rfl, rfl⟩, hp3.mono (by omega), rfl, fun s h => nomatch h⟩ ?_ ?_
  · rintro i y δ τ hi ⟨p', ss, o1, o2, ⟨rfl, rfl⟩, hp', hl, hs⟩
    have hlt : i < (1 + c0).toNat := by
      have := (List.getElem?_eq_some_iff.mp hi).1
      simpa using this
    have hi12 : (i : Int) ≤ 12 := by omega
    try simp only [wr_ok, w_var, w_c, w_p, w_nil, w_cons, w_call, w_tup, w_lst, w_lstC, w_dicC, w_B, w_and, w_or, w_not, w_andV, w_orV, w_if, w_chain, w_fld, w_meth, w_make, w_bm, w_rev, w_sortIt, w_get2, w_callV,
  w_next, w_seq, w_drop, w_ret, w_retN, w_break, w_cont, w_ifS, w_asg, w_gname, w_gsub, w_gtup, w_gnil, w_gcons, w_par, w_setFld, w_while, w_for, w_items, w_range1, w_lc, w_yes, w_def,
  der_int, der_bl, der_str, der_lst, der_frl, der_tup, der_dic, der_non, der_obj, der_raw, p_add, p_sub, p_mul, p_fdiv, p_mod, p_pow, p_neg, p_cmp, p_abs, p_min2, p_max2, p_eqI, p_notB, p_lenL, p_lenT, p_listL, newL_w, newLC_w, p_ixL, p_ixT,
  List.map_cons, List.map_nil, List.length_cons, List.length_nil, List.replicate_zero, List.replicate_succ, List.replicate, List.cons_append, List.nil_append, List.append_nil, List.getElem?_cons_zero, List.getElem?_cons_succ, List.set_cons_zero, List.set_cons_succ,
  List.zip_cons_cons, List.zip_nil_left, List.zip_nil_right, List.foldl_cons, List.foldl_nil, Nat.reduceAdd, Nat.reduceSub, Nat.zero_add, Nat.add_zero, Nat.reduceLeDiff, true_and, and_true, if_true, Bool.false_eq_true, if_false]
    refine great_then hp' (by omega) (by decide) (by decide) fun d p4 hp4 d1 d2 => ?_
    have d2 : d < 10 ^ 20 := d2
    try simp only [wr_ok, w_var, w_c, w_p, w_nil, w_cons, w_call, w_tup, w_lst, w_lstC, w_dicC, w_B, w_and, w_or, w_not, w_andV, w_orV, w_if, w_chain, w_fld, w_meth, w_make, w_bm, w_rev, w_sortIt, w_get2, w_callV,
  w_next, w_seq, w_drop, w_ret, w_retN, w_break, w_cont, w_ifS, w_asg, w_gname, w_gsub, w_gtup, w_gnil, w_gcons, w_par, w_setFld, w_while, w_for, w_items, w_range1, w_lc, w_yes, w_def,
  der_int, der_bl, der_str, der_lst, der_frl, der_tup, der_dic, der_non, der_obj, der_raw, p_add, p_sub, p_mul, p_fdiv, p_mod, p_pow, p_neg, p_cmp, p_abs, p_min2, p_max2, p_eqI, p_notB, p_lenL, p_lenT, p_listL, newL_w, newLC_w, p_ixL, p_ixT,
  List.map_cons, List.map_nil, List.length_cons, List.length_nil, List.replicate_zero, List.replicate_succ, List.replicate, List.cons_append, List.nil_append, List.append_nil, List.getElem?_cons_zero, List.getElem?_cons_succ, List.set_cons_zero, List.set_cons_succ,
  List.zip_cons_cons, List.zip_nil_left, List.zip_nil_right, List.foldl_cons, List.foldl_nil, Nat.reduceAdd, Nat.reduceSub, Nat.zero_add, Nat.add_zero, Nat.reduceLeDiff, true_and, and_true, if_true, Bool.false_eq_true, if_false]
    refine picki_then (ys := [1, -1]) hp4 (by omega) (by decide) (by decide) fun z p5 hp5 hz => ?_
    have hz : z = 1 ∨ z = -1 := by simpa using hz
    have hd : -10 ^ 20 ≤ d * z ∧ d * z ≤ 10 ^ 20 := by rcases hz with rfl | rfl <;> omega
    try simp only [wr_ok, w_var, w_c, w_p, w_nil, w_cons, w_call, w_tup, w_lst, w_lstC, w_dicC, w_B, w_and, w_or, w_not, w_andV, w_orV, w_if, w_chain, w_fld, w_meth, w_make, w_bm, w_rev, w_sortIt, w_get2, w_callV,
  w_next, w_seq, w_drop, w_ret, w_retN, w_break, w_cont, w_ifS, w_asg, w_gname, w_gsub, w_gtup, w_gnil, w_gcons, w_par, w_setFld, w_while, w_for, w_items, w_range1, w_lc, w_yes, w_def,
  der_int, der_bl, der_str, der_lst, der_frl, der_tup, der_dic, der_non, der_obj, der_raw, p_add, p_sub, p_mul, p_fdiv, p_mod, p_pow, p_neg, p_cmp, p_abs, p_min2, p_max2, p_eqI, p_notB, p_lenL, p_lenT, p_listL, newL_w, newLC_w, p_ixL, p_ixT,
  List.map_cons, List.map_nil, List.length_cons, List.length_nil, List.replicate_zero, List.replicate_succ, List.replicate, List.cons_append, List.nil_append, List.append_nil, List.getElem?_cons_zero, List.getElem?_cons_succ, List.set_cons_zero, List.set_cons_succ,
  List.zip_cons_cons, List.zip_nil_left, List.zip_nil_right, List.foldl_cons, List.foldl_nil, Nat.reduceAdd, Nat.reduceSub, Nat.zero_add, Nat.add_zero, Nat.reduceLeDiff, true_and, and_true, if_true, Bool.false_eq_true, if_false, der_c1, isT_lst]
    refine ⟨⟨big_of (by omega), big_of (by omega)⟩, ?_⟩
    refine key hp5 (by omega) (fun e p6 hp6 e1 e2 => ?_) [4, 18, 20] (by decide) (by decide) (by decide)
    try simp only [wr_ok, w_var, w_c, w_p, w_nil, w_cons, w_call, w_tup, w_lst, w_lstC, w_dicC, w_B, w_and, w_or, w_not, w_andV, w_orV, w_if, w_chain, w_fld, w_meth, w_make, w_bm, w_rev, w_sortIt, w_get2, w_callV,
  w_next, w_seq, w_drop, w_ret, w_retN, w_break, w_cont, w_ifS, w_asg, w_gname, w_gsub, w_gtup, w_gnil, w_gcons, w_par, w_setFld, w_while, w_for, w_items, w_range1, w_lc, w_yes, w_def,
  der_int, der_bl, der_str, der_lst, der_frl, der_tup, der_dic, der_non, der_obj, der_raw, p_add, p_sub, p_mul, p_fdiv, p_mod, p_pow, p_neg, p_cmp, p_abs, p_min2, p_max2, p_eqI, p_notB, p_lenL, p_lenT, p_listL, newL_w, newLC_w, p_ixL, p_ixT,
  List.map_cons, List.map_nil, List.length_cons, List.length_nil, List.replicate_zero, List.replicate_succ, List.replicate, List.cons_append, List.nil_append, List.append_nil, List.getElem?_cons_zero, List.getElem?_cons_succ, List.set_cons_zero, List.set_cons_succ,
  List.zip_cons_cons, List.zip_nil_left, List.zip_nil_right, List.foldl_cons, List.foldl_nil, Nat.reduceAdd, Nat.reduceSub, Nat.zero_add, Nat.add_zero, Nat.reduceLeDiff, true_and, and_true, if_true, Bool.false_eq_true, if_false]
    refine picki_then (ys := [1, 1, 1, -1]) hp6 (by omega) (by decide) (by decide) fun z2 p7 hp7 hz2 => ?_
    have hz2 : z2 = 1 ∨ z2 = -1 := by simpa using hz2
    have he : -10 ^ 20 ≤ e * z2 ∧ e * z2 ≤ 10 ^ 20 := by rcases hz2 with rfl | rfl <;> omega
    try simp only [wr_ok, w_var, w_c, w_p, w_nil, w_cons, w_call, w_tup, w_lst, w_lstC, w_dicC, w_B, w_and, w_or, w_not, w_andV, w_orV, w_if, w_chain, w_fld, w_meth, w_make, w_bm, w_rev, w_sortIt, w_get2, w_callV,
  w_next, w_seq, w_drop, w_ret, w_retN, w_break, w_cont, w_ifS, w_asg, w_gname, w_gsub, w_gtup, w_gnil, w_gcons, w_par, w_setFld, w_while, w_for, w_items, w_range1, w_lc, w_yes, w_def,
  der_int, der_bl, der_str, der_lst, der_frl, der_tup, der_dic, der_non, der_obj, der_raw, p_add, p_sub, p_mul, p_fdiv, p_mod, p_pow, p_neg, p_cmp, p_abs, p_min2, p_max2, p_eqI, p_notB, p_lenL, p_lenT, p_listL, newL_w, newLC_w, p_ixL, p_ixT,
  List.map_cons, List.map_nil, List.length_cons, List.length_nil, List.replicate_zero, List.replicate_succ, List.replicate, List.cons_append, List.nil_append, List.append_nil, List.getElem?_cons_zero, List.getElem?_cons_succ, List.set_cons_zero, List.set_cons_succ,
  List.zip_cons_cons, List.zip_nil_left, List.zip_nil_right, List.foldl_cons, List.foldl_nil, Nat.reduceAdd, Nat.reduceSub, Nat.zero_add, Nat.add_zero, Nat.reduceLeDiff, true_and, and_true, if_true, Bool.false_eq_true, if_false, p_append1]
    refine ⟨⟨big_of (by omega), big_of (by omega)⟩, by rw [List.length_map, hl]; unfold cap; omega, p7, ss ++ [(d * z, d * z + e * z2)], _, _, ⟨rfl, ?_⟩, hp7.mono (by omega), by simp [hl], ?_⟩
    · simp [pairD]
    · intro s h
      rcases List.mem_append.mp h with h | h
      · exact hs s h
      · rw [List.mem_singleton.mp h]
        refine ⟨?_, ?_, ?_, ?_⟩ <;> (simp only; omega)
  · rintro δ τ ⟨p', ss, o1, o2, ⟨rfl, rfl⟩, hp', hl, hs⟩
    simp only [List.length_map, List.length_range] at hp' hl
    try simp only [wr_ok, w_var, w_c, w_p, w_nil, w_cons, w_call, w_tup, w_lst, w_lstC, w_dicC, w_B, w_and, w_or, w_not, w_andV, w_orV, w_if, w_chain, w_fld, w_meth, w_make, w_bm, w_rev, w_sortIt, w_get2, w_callV,
  w_next, w_seq, w_drop, w_ret, w_retN, w_break, w_cont, w_ifS, w_asg, w_gname, w_gsub, w_gtup, w_gnil, w_gcons, w_par, w_setFld, w_while, w_for, w_items, w_range1, w_lc, w_yes, w_def,
  der_int, der_bl, der_str, der_lst, der_frl, der_tup, der_dic, der_non, der_obj, der_raw, p_add, p_sub, p_mul, p_fdiv, p_mod, p_pow, p_neg, p_cmp, p_abs, p_min2, p_max2, p_eqI, p_notB, p_lenL, p_lenT, p_listL, newL_w, newLC_w, p_ixL, p_ixT,
  List.map_cons, List.map_nil, List.length_cons, List.length_nil, List.replicate_zero, List.replicate_succ, List.replicate, List.cons_append, List.nil_append, List.append_nil, List.getElem?_cons_zero, List.getElem?_cons_succ, List.set_cons_zero, List.set_cons_succ,
  List.zip_cons_cons, List.zip_nil_left, List.zip_nil_right, List.foldl_cons, List.foldl_nil, Nat.reduceAdd, Nat.reduceSub, Nat.zero_add, Nat.add_zero, Nat.reduceLeDiff, true_and, and_true, if_true, Bool.false_eq_true, if_false]
    refine ⟨.tup [.int n, .lst (ss.map pairD)], ?_, older_pen hp'.pla, by simpa using K n ss p' (hp'.mono (by omega)) ⟨n1, n2, by omega, by omega, hs⟩⟩
    have e : celF (r.length + 1) (p' :: (r ++ [.lst (ss.map pairD)])) 6 (r.length + 1) = some (.lst (ss.map pairD)) := by
      show (if r.length + 1 < r.length + 1 then some (.cell (r.length + 1)) else ((p' :: (r ++ [.lst (ss.map pairD)]))[r.length + 1]?).bind (frzD (celF (r.length + 1) (p' :: (r ++ [.lst (ss.map pairD)])) 5))) = _
      rw [if_neg (by omega), List.getElem?_cons_succ, gx0]
      exact pla_pairs ss _
    simp [frzD, frzL, e]
end
end DL

namespace DL
open PySem L2
section
variable {B n : Int} {p : D} {r τ : List D} {δ : DEnv} {Φ : D → List D → Prop}
theorem erase_map {α β : Type} (f : α → β) : ∀ (l : List α) (j : Nat), (l.eraseIdx j).map f = (l.map f).eraseIdx j
  | [], _ => rfl
  | _ :: _, 0 => rfl
  | x :: l, j + 1 => by
    have := erase_map f l j
    simp only [List.eraseIdx_cons_succ, List.map_cons, this]
theorem erase_perm {α : Type} : ∀ (l : List α) (i : Nat) (h : i < l.length), (l[i] :: l.eraseIdx i).Perm l
  | x :: l, 0, _ => List.Perm.refl _
  | x :: l, i + 1, h => by
    have ih := erase_perm l i (by simpa using h)
    simp only [List.getElem_cons_succ, List.eraseIdx_cons_succ]
    exact (List.Perm.swap _ _ _).trans (List.Perm.cons _ ih)
theorem popAll {O : Out} {S : D} : ∀ (m : Nat) (xs : List D) (pool : List (Int × Int)) (B : Int) (p : D) (r : List D) (Φ : List D → List D → Prop), xs.length = m → pool.length = m → m ≤ 100000 → PenOk B p → B + m ≤ 10 ^ 12 →
    (∀ (out : List (Int × Int)) p', out.Perm pool → PenOk (B + m) p' → Φ (out.map pairD) (p' :: (r ++ [.lst []]))) →
    WR (lcL (dgName 3) dYes (dBM "list" pPop (dVar 2) [(dCall (m__law_draw) [] [(dVar 0), (dP pLen [(dVar 2)])])]) [some (.cell 0), some S, some (.cell (r.length + 1)), none] xs (p :: (r ++ [.lst (pool.map pairD)]))) Φ
  | 0, [], [], B, p, r, Φ, _, _, _, hp, hB, K => by
    rw [w_lcnil]
    exact K [] p (List.Perm.refl _) (by simpa using hp)
  | m + 1, x :: xs, pool, B, p, r, Φ, h1, h2, h3, hp, hB, K => by
    rw [w_lccons]
    have hpos : 1 ≤ pool.length := by omega
    have e : WR (pLen [D.cell (r.length + 1)] (p :: (r ++ [.lst (pool.map pairD)]))) = fun Φ => Φ (.int pool.length) (p :: (r ++ [.lst (pool.map pairD)])) := by
      funext Φ
      unfold pLen
      simp only [der_c1, List.length_map]; with_unfolding_all rfl
    try simp only [wr_ok, w_var, w_c, w_p, w_nil, w_cons, w_call, w_tup, w_lst, w_lstC, w_dicC, w_B, w_and, w_or, w_not, w_andV, w_orV, w_if, w_chain, w_fld, w_meth, w_make, w_bm, w_rev, w_sortIt, w_get2, w_callV,
  w_next, w_seq, w_drop, w_ret, w_retN, w_break, w_cont, w_ifS, w_asg, w_gname, w_gsub, w_gtup, w_gnil, w_gcons, w_par, w_setFld, w_while, w_for, w_items, w_range1, w_lc, w_yes, w_def,
  der_int, der_bl, der_str, der_lst, der_frl, der_tup, der_dic, der_non, der_obj, der_raw, p_add, p_sub, p_mul, p_fdiv, p_mod, p_pow, p_neg, p_cmp, p_abs, p_min2, p_max2, p_eqI, p_notB, p_lenL, p_lenT, p_listL, newL_w, newLC_w, p_ixL, p_ixT,
  List.map_cons, List.map_nil, List.length_cons, List.length_nil, List.replicate_zero, List.replicate_succ, List.replicate, List.cons_append, List.nil_append, List.append_nil, List.getElem?_cons_zero, List.getElem?_cons_succ, List.set_cons_zero, List.set_cons_succ,
  List.zip_cons_cons, List.zip_nil_left, List.zip_nil_right, List.foldl_cons, List.foldl_nil, Nat.reduceAdd, Nat.reduceSub, Nat.zero_add, Nat.add_zero, Nat.reduceLeDiff, true_and, and_true, if_true, Bool.false_eq_true, if_false, der_c1, isT_lst, e, w_yes]
    refine draw_then hp (by omega) (by omega) (by omega) fun i p1 hp1 i0 i1 => ?_
    have il : i.toNat < pool.length := by omega
    have pp := p_popI (τ := p1 :: r) (xs := pool.map pairD) (i := i) (Φ := fun y τ3 => WR (lcL (dgName 3) dYes (dBM "list" pPop (dVar 2) [(dCall (m__law_draw) [] [(dVar 0), (dP pLen [(dVar 2)])])]) [some (.cell 0), some S, some (.cell (r.length + 1)), none] xs τ3) fun ys τ4 => Φ (y :: ys) τ4) i0 (by simpa using i1) (by simp; omega)
    have pp2 : WR (pPop [D.cell (r.length + 1), .int i] (p1 :: (r ++ [.lst (pool.map pairD)]))) (fun y τ3 => WR (lcL (dgName 3) dYes (dBM "list" pPop (dVar 2) [(dCall (m__law_draw) [] [(dVar 0), (dP pLen [(dVar 2)])])]) [some (.cell 0), some S, some (.cell (r.length + 1)), none] xs τ3) fun ys τ4 => Φ (y :: ys) τ4) = _ := pp
    rw [pp2]
    show WR (lcL _ _ _ _ xs (p1 :: (r ++ [.lst ((pool.map pairD).eraseIdx i.toNat)]))) _
    rw [← erase_map, List.getElem_map]
    refine popAll (O := O) m xs (pool.eraseIdx i.toNat) (B + 1) p1 r _ (by simpa using h1) (by rw [List.length_eraseIdx, if_pos il]; omega) (by omega) hp1 (by omega) fun out p' ho hp' => ?_
    have := K (pool[i.toNat] :: out) p' ((List.Perm.cons _ ho).trans (erase_perm pool _ il)) (hp'.mono (by omega))
    exact this
theorem shuffled_then {ss : List (Int × Int)} (hp : PenOk B p) (hl : ss.length ≤ 1000) (hB : B + 2000 ≤ 10 ^ 12) (K : ∀ (out : List (Int × Int)) p', out.Perm ss → PenOk (B + 1000) p' → Φ (.lst (out.map pairD)) (p' :: r)) : WR (m__law_shuffled [.cell 0, .lst (ss.map pairD)] (p :: r)) Φ := by
  unfold m__law_shuffled b__law_shuffled
  refine exit1 ?_
  have e1 : WR (pList true [D.lst (ss.map pairD)] (p :: r)) = fun Φ => Φ (.cell (r.length + 1)) (p :: (r ++ [.lst (ss.map pairD)])) := by funext Φ; with_unfolding_all rfl
  have e2 : WR (pLen [D.cell (r.length + 1)] (p :: (r ++ [.lst (ss.map pairD)]))) = fun Φ => Φ (.int ss.length) (p :: (r ++ [.lst (ss.map pairD)])) := by
    funext Φ
    unfold pLen
    simp only [der_c1, List.length_map]; with_unfolding_all rfl
  try simp only [wr_ok, w_var, w_c, w_p, w_nil, w_cons, w_call, w_tup, w_lst, w_lstC, w_dicC, w_B, w_and, w_or, w_not, w_andV, w_orV, w_if, w_chain, w_fld, w_meth, w_make, w_bm, w_rev, w_sortIt, w_get2, w_callV,
  w_next, w_seq, w_drop, w_ret, w_retN, w_break, w_cont, w_ifS, w_asg, w_gname, w_gsub, w_gtup, w_gnil, w_gcons, w_par, w_setFld, w_while, w_for, w_items, w_range1, w_lc, w_yes, w_def,
  der_int, der_bl, der_str, der_lst, der_frl, der_tup, der_dic, der_non, der_obj, der_raw, p_add, p_sub, p_mul, p_fdiv, p_mod, p_pow, p_neg, p_cmp, p_abs, p_min2, p_max2, p_eqI, p_notB, p_lenL, p_lenT, p_listL, newL_w, newLC_w, p_ixL, p_ixT,
  List.map_cons, List.map_nil, List.length_cons, List.length_nil, List.replicate_zero, List.replicate_succ, List.replicate, List.cons_append, List.nil_append, List.append_nil, List.getElem?_cons_zero, List.getElem?_cons_succ, List.set_cons_zero, List.set_cons_succ,
  List.zip_cons_cons, List.zip_nil_left, List.zip_nil_right, List.foldl_cons, List.foldl_nil, Nat.reduceAdd, Nat.reduceSub, Nat.zero_add, Nat.add_zero, Nat.reduceLeDiff, true_and, and_true, if_true, Bool.false_eq_true, if_false, e1, e2, wipeD]
  refine ⟨by omega, by simp; unfold cap; omega, ?_⟩
  refine popAll (O := ⟨fun _ _ => True, fun _ _ => True, fun _ _ => True, fun _ _ => True⟩) ss.length _ ss B p r _ (by simp) rfl (by omega) hp (by omega) fun out p' ho hp' => ?_
  exact ⟨p', .lst [], .lst (out.map pairD), rfl, hp'.pla, pla_lst (fun d h => nomatch h), fun c _ => pla_pairs out c, K out p' ho (hp'.mono (by omega))⟩
theorem p_addL {xs ys : List D} : WR (pAdd false [.lst xs, .lst ys] τ) Φ = (xs.length + ys.length ≤ cap ∧ Φ (.lst (xs ++ ys)) τ) := by
  show WR (if xs.length + ys.length ≤ cap then newL false (xs ++ ys) τ else .bad) Φ = _
  split <;> simp [WR, WR0, newL, *]
theorem p_tupL {xs : List D} : WR (pTuple [.lst xs] τ) Φ = Φ (.tup xs) τ := (by with_unfolding_all rfl)
end
end DL

namespace DL
open PySem L2
section
variable {n : Int} {τ : List D} {Φ : D → List D → Prop} {C : PySem.Addr}
def bl : Nat → Nat
  | 0 => 0
  | m + 1 => bl ((m + 1) / 2) + 1
decreasing_by omega
end
end DL

namespace DL
open PySem L2
section
variable {n B : Int} {p : D} {τ r : List D} {Φ : D → List D → Prop} {C : PySem.Addr}
end
end DL

namespace DL
open PySem L2
/-! ### the law's steps -/
section
variable {τ : List D} {Φ : D → List D → Prop} {n : Int}
end
end DL

namespace DL
open PySem L2
section
variable {B n : Int} {p : D} {r τ : List D} {δ : DEnv} {Φ : D → List D → Prop}
/-- a map made, its arguments drawn -/
theorem make_pen {C : PySem.Addr} {f g : DE} (h : WR (f δ (p :: r)) fun d τ1 => d = .int n ∧ WR (g δ τ1) fun sD τ2 => ∃ p' ss, τ2 = p' :: r ∧ Pla p' ∧ (sD = .lst (ss.map pairD) ∨ sD = .tup (ss.map pairD)) ∧ (1 ≤ n ∧ n ≤ 10 ^ 18) ∧ Svs ss ∧ ∀ rows, Rows n ss rows → Φ (.obj C (mapF n rows)) (p' :: r)) :
    WR (dFrz (dMake C (m_StepMap_init C) [] [f, g]) δ (p :: r)) Φ := by
  rw [w_frz]
  refine w_exitD ?_
  rw [w_make, w_cons]
  refine h.mono fun d τ1 ⟨e, h⟩ => ?_
  subst e
  rw [w_cons]
  refine h.mono fun sD τ2 ⟨p', ss, e, pp, hsD, ⟨n1, n2⟩, hs, K⟩ => ?_
  subst e
  rw [w_nil]
  simp only [List.map_nil, List.append_nil]
  refine init_then hsD n1 n2 hs fun rows R => ?_
  simp only
  refine ⟨.obj C (mapF n rows), ?_, older_pen pp, by simpa using K rows R⟩
  show (if (p' :: r).length < (p :: r).length then some (.cell (p' :: r).length) else ((p' :: r ++ [D.obj C (mapF n rows)])[(p' :: r).length]?).bind (frzD (celF (p :: r).length (p' :: r ++ [D.obj C (mapF n rows)]) 5))) = _
  rw [if_neg (by simp), gx0]
  exact pla_mapF _
/-- a comprehension that draws -/
theorem w_lcpen {g : DG} {ts : DT} {f : DE} (Pv : D → D → Prop) (c : Nat) : ∀ {xs : List D} {p : D} {B : Int} {Φ : List D → List D → Prop}, PenOk B p →
    (∀ x ∈ xs, ∀ p B', PenOk B' p → B' ≤ B + c * xs.length → WR (g x δ (p :: r)) fun δ1 τ1 => WR (ts δ1 τ1) fun b τ2 => b = true ∧ WR (f δ1 τ2) fun y τ3 => ∃ p', τ3 = p' :: r ∧ PenOk (B' + c) p' ∧ Pv x y) →
    (∀ ys p', ys.length = xs.length → (∀ (i : Nat) x y, xs[i]? = some x → ys[i]? = some y → Pv x y) → PenOk (B + c * xs.length) p' → Φ ys (p' :: r)) → WR (lcL g ts f δ xs (p :: r)) Φ
  | [], p, B, Φ, hp, h, K => by
    rw [w_lcnil]
    exact K [] p rfl (fun i x y hx => by simp at hx) (hp.mono (by simp))
  | x :: xs, p, B, Φ, hp, h, K => by
    have e : (c : Int) * ((x :: xs).length : Int) = c + c * xs.length := by
      rw [List.length_cons, Int.natCast_add, Int.mul_add]; simp; omega
    have ne : 0 ≤ (c : Int) * (xs.length : Int) := Int.mul_nonneg (by omega) (by omega)
    rw [w_lccons]
    refine (h x List.mem_cons_self p B hp (by omega)).mono fun δ1 τ1 z => z.mono fun b τ2 ⟨e1, z⟩ => ?_
    subst e1
    rw [if_pos rfl]
    refine z.mono fun y τ3 ⟨p', e2, hp', hv⟩ => ?_
    subst e2
    refine w_lcpen Pv c hp' (fun x' hx' q B' hq hB => h x' (List.mem_cons_of_mem _ hx') q B' hq (by omega)) fun ys p2 hl hv2 hp2 => ?_
    refine K (y :: ys) p2 (by simp [hl]) (fun i x' y' h1 h2 => ?_) (hp2.mono (by omega))
    cases i with
    | zero => simp at h1 h2; subst h1 h2; exact hv
    | succ i => exact hv2 i x' y' (by simpa using h1) (by simpa using h2)
/-- all the items are ints within bounds -/
theorem ints_of_all {lo hi : Int} : ∀ {ys : List D}, (∀ y ∈ ys, ∃ i, y = .int i ∧ lo ≤ i ∧ i ≤ hi) → ∃ is : List Int, ys = is.map D.int ∧ ∀ i ∈ is, lo ≤ i ∧ i ≤ hi
  | [], _ => ⟨[], rfl, fun i h => nomatch h⟩
  | y :: ys, h => by
    obtain ⟨i, rfl, h1, h2⟩ := h y List.mem_cons_self
    obtain ⟨is, e, hs⟩ := ints_of_all (ys := ys) fun z hz => h z (List.mem_cons_of_mem _ hz)
    refine ⟨i :: is, by simp [e], fun j hj => ?_⟩
    rcases List.mem_cons.mp hj with rfl | hj
    · exact ⟨h1, h2⟩
    · exact hs j hj
end
end DL

namespace DL
open PySem L2
theorem law_exit {g : Pr} {ds : List D} (h : WR (g ds []) fun d _ => d = .bl true) : WR (exitP g ds []) fun d _ => d = .bl true := by
  refine w_exitD (h.mono fun d τ' e => ?_)
  subst e
  exact ⟨.bl true, by simp [frzD], fun k hk => by simp at hk, rfl⟩
/-- a law by what its mirror answers -/
theorem law_of {g : Pr} {ns : List Int} (H : WR (g [.frl (ns.map D.int)] []) fun d _ => d = .bl true) : ∃ τ, g [.frl (ns.map D.int)] [] = .ok (.bl true) τ := by
  obtain ⟨d, τ, e, rfl⟩ := H.ex
  exact ⟨τ, e⟩
end DL

namespace DL
open PySem L2
/-! ### maps by their values -/
theorem exrows {n : Int} {ss : List (Int × Int)} (n1 : 1 ≤ n) (n2 : n ≤ 10 ^ 100) (h1 : 1 ≤ ss.length) (h2 : ss.length ≤ 100000) (hs : ∀ s ∈ ss, s.1.natAbs ≤ 10 ^ 100) : ∃ rows, Rows n ss rows := by
  have : WR (m_needed_steps [.int n, .lst (ss.map pairD)] []) fun _ _ => ∃ rows, Rows n ss rows := needed_then (.inl rfl) n1 n2 h1 h2 hs fun rows R => ⟨rows, R⟩
  obtain ⟨_, _, _, h⟩ := this.ex
  exact h
/-- the value at a time is the one at the next departure -/
theorem Mp.next {n : Int} {rows : List (Int × Int)} (M : Mp n rows) (n1 : 1 ≤ n) (t : Int) : ∃ k ∈ rows, ∃ q : Int, t ≤ k.1 + q * n ∧ DL.val n rows t = k.2 + q * n :=
  (M.val n1 t).ex
theorem val_of {n t v : Int} {ss rows : List (Int × Int)} (R : Rows n ss rows) (n1 : 1 ≤ n) (h : IsVal n ss t v) : v = DL.val n rows t := ((R.isval n1).mpr h).uniq (R.mp.val n1 t)
theorem bd_of {n M : Int} {ss rows : List (Int × Int)} (R : Rows n ss rows) (n1 : 1 ≤ n) (h : ∀ s ∈ ss, (-M ≤ s.1 ∧ s.1 ≤ M) ∧ -M ≤ s.2 ∧ s.2 ≤ M) : Bd (2 * M + n) rows := fun k hk => by
  obtain ⟨s, hs, e⟩ := R.sub k hk
  have r1 := R.rng k hk
  obtain ⟨⟨q1, q2⟩, q3, q4⟩ := h s hs
  have e1 := Int.mul_ediv_add_emod s.1 n
  have e2 : n * (s.1 / n) = s.1 / n * n := Int.mul_comm _ _
  have e3 : k.1 = s.1 % n := by rw [e]; rfl
  have e4 : k.2 = s.2 - s.1 / n * n := by rw [e]; rfl
  exact ⟨by omega, by omega⟩
theorem MapIs.bd {n : Int} {ss rows : List (Int × Int)} (M : MapIs n ss) (R : Rows n ss rows) : Bd (10 ^ 22) rows := fun k hk => by
  have h := bd_of (M := 10 ^ 21) R M.n1 (fun s hs => by
    obtain ⟨q1, q2, q3, q4⟩ := M.sv s hs
    exact ⟨⟨q1, q2⟩, q3, q4⟩) k hk
  have := M.n2
  omega
theorem MapIs.rows {n : Int} {ss : List (Int × Int)} (M : MapIs n ss) : ∀ s ∈ ss, s.1.natAbs ≤ 10 ^ 99 := fun s hs => by
  obtain ⟨q1, q2, q3, q4⟩ := M.sv s hs
  omega
section
variable {B n : Int} {p : D} {r τ : List D} {δ : DEnv} {Φ : D → List D → Prop} {C : PySem.Addr}
end
end DL

namespace DL
open PySem L2
section
variable {B n : Int} {p : D} {r τ : List D} {δ : DEnv} {Φ : D → List D → Prop} {C : PySem.Addr}
theorem itr_bound {n W : Int} {rows : List (Int × Int)} (M : Mp n rows) (n1 : 1 ≤ n) (b : Bd W rows) : ∀ (k : Nat) (t : Int), t - k * (W + 2 * n) ≤ itr (DL.val n rows) k t ∧ itr (DL.val n rows) k t ≤ t + k * (W + 2 * n)
  | 0, t => by simp [itr]
  | k + 1, t => by
    have ih := itr_bound M n1 b k t
    have vb := val_bound M n1 b (itr (DL.val n rows) k t)
    have e : ((k + 1 : Nat) : Int) * (W + 2 * n) = (k : Int) * (W + 2 * n) + (W + 2 * n) := by rw [Int.natCast_add, Int.add_mul]; simp
    rw [e]
    show t - _ ≤ DL.val n rows (itr (DL.val n rows) k t) ∧ DL.val n rows (itr (DL.val n rows) k t) ≤ _
    omega
end
end DL

namespace DL
open PySem L2
section
variable {B n : Int} {p : D} {r τ : List D} {δ : DEnv} {Φ : D → List D → Prop} {C : PySem.Addr}
end
end DL

namespace DL
open PySem L2
section
variable {B n : Int} {p : D} {r τ : List D} {δ : DEnv} {Φ : D → List D → Prop} {C : PySem.Addr}
end
end DL

namespace DL
open PySem L2
section
variable {B n : Int} {p : D} {r τ : List D} {δ : DEnv} {Φ : D → List D → Prop} {C : PySem.Addr}
theorem celF_last {x : D} {m : Nat} (hx : Pla x) : celF (r.length + 1) (p :: (r ++ [x])) (m + 1) (r.length + 1) = some x := by
  show (if r.length + 1 < r.length + 1 then some (.cell (r.length + 1)) else ((p :: (r ++ [x]))[r.length + 1]?).bind (frzD (celF (r.length + 1) (p :: (r ++ [x])) m))) = _
  rw [if_neg (by omega), List.getElem?_cons_succ, gx0]
  exact hx _
end
end DL

namespace DL
open PySem L2
/-- the latest start: the last departure whose arrival is not behind v -/
structure IsSt (n : Int) (rows : List (Int × Int)) (v w : Int) : Prop where
  ex : ∃ k ∈ rows, ∃ q : Int, k.2 + q * n ≤ v ∧ w = k.1 + q * n
  le : ∀ k ∈ rows, ∀ q : Int, k.2 + q * n ≤ v → k.1 + q * n ≤ w
theorem IsSt.uniq {n v w u : Int} {rows : List (Int × Int)} (a : IsSt n rows v w) (b : IsSt n rows v u) : w = u := by
  obtain ⟨k, hk, q, h1, h2⟩ := a.ex
  obtain ⟨k', hk', q', h1', h2'⟩ := b.ex
  have := a.le k' hk' q' h1'
  have := b.le k hk q h1
  omega
def prv (n x : Int) (s : Int × Int) : Int := s.1 + (x - s.2) / n * n
/-- the next step in the round -/
def nxS (n : Int) (rows : List (Int × Int)) (i : Nat) : Int × Int := match rows[i + 1]? with
  | some k => k
  | none => match rows[0]? with
    | some k => (k.1 + n, k.2 + n)
    | none => (0, 0)
theorem nxS_is {n : Int} {rows : List (Int × Int)} {i : Nat} (hi : i < rows.length) : ∃ k ∈ rows, ∃ e : Int, nxS n rows i = (k.1 + e * n, k.2 + e * n) := by
  unfold nxS
  cases h : rows[i + 1]? with
  | some k => exact ⟨k, List.mem_of_getElem? h, 0, by simp⟩
  | none =>
    have h0 : rows[0]? = some rows[0] := List.getElem?_eq_getElem (by omega)
    rw [h0]
    exact ⟨rows[0], List.getElem_mem _, 1, by simp⟩
theorem up_lt {n : Int} {rows : List (Int × Int)} (M : Mp n rows) {i j : Nat} (h : i < j) (hj : j < rows.length) : (rows[i]'(by omega)).1 < rows[j].1 ∧ (rows[i]'(by omega)).2 < rows[j].2 := List.pairwise_iff_getElem.mp M.up i j (by omega) hj h
theorem nxS_lt {n : Int} {rows : List (Int × Int)} (M : Mp n rows) {i : Nat} (hi : i < rows.length) : rows[i].1 < (nxS n rows i).1 := by
  unfold nxS
  cases h : rows[i + 1]? with
  | some k =>
    obtain ⟨hj, rfl⟩ := List.getElem?_eq_some_iff.mp h
    exact (up_lt M (Nat.lt_succ_self i) hj).1
  | none =>
    have h0 : rows[0]? = some rows[0] := List.getElem?_eq_getElem (by omega)
    rw [h0]
    have := M.rng rows[i] (List.getElem_mem _)
    have := M.rng rows[0] (List.getElem_mem _)
    simp only; omega
theorem nxS_least {n : Int} {rows : List (Int × Int)} (M : Mp n rows) (n1 : 1 ≤ n) {i : Nat} (hi : i < rows.length) {k : Int × Int} (hk : k ∈ rows) {q q' : Int} (h : rows[i].1 + q' * n < k.1 + q * n) : (nxS n rows i).2 + q' * n ≤ k.2 + q * n := by
  obtain ⟨l, hl, rfl⟩ := List.getElem_of_mem hk
  have ri := M.rng rows[i] (List.getElem_mem _)
  have rl := M.rng rows[l] (List.getElem_mem _)
  have hq : q' ≤ q := by
    apply Classical.byContradiction
    intro c
    have := Int.mul_le_mul_of_nonneg_right (show q + 1 ≤ q' by omega) (show 0 ≤ n by omega)
    rw [Int.add_mul, Int.one_mul] at this
    omega
  by_cases c : q = q'
  · subst c
    have hil : i < l := by
      apply Classical.byContradiction
      intro z
      by_cases z2 : i = l
      · subst z2; omega
      · have := up_lt M (show l < i by omega) hi
        omega
    have e : rows[i + 1]? = some (rows[i + 1]'(by omega)) := List.getElem?_eq_getElem (by omega)
    unfold nxS
    rw [e]
    simp only
    by_cases z : i + 1 = l
    · subst z; omega
    · have := up_lt M (show i + 1 < l by omega) hl
      omega
  · have hqn := Int.mul_le_mul_of_nonneg_right (show q' + 1 ≤ q by omega) (show 0 ≤ n by omega)
    rw [Int.add_mul, Int.one_mul] at hqn
    unfold nxS
    cases h : rows[i + 1]? with
    | some k =>
      have := M.wrap rows[l] (List.getElem_mem _) k (List.mem_of_getElem? h)
      simp only; omega
    | none =>
      have h0 : rows[0]? = some rows[0] := List.getElem?_eq_getElem (by omega)
      rw [h0]
      simp only
      by_cases z : l = 0
      · subst z; omega
      · have := up_lt M (show 0 < l by omega) hl
        omega
/-- the services of the latest start -/
def lsS (n : Int) (rows : List (Int × Int)) : List (Int × Int) := (List.range rows.length).map fun i => ((nxS n rows i).2 - 1, ((rows[i]?).getD (0, 0)).1)
theorem mem_lsS {n : Int} {rows : List (Int × Int)} {s : Int × Int} : s ∈ lsS n rows ↔ ∃ (i : Nat) (hi : i < rows.length), s = ((nxS n rows i).2 - 1, rows[i].1) := by
  unfold lsS
  simp only [List.mem_map, List.mem_range]
  constructor
  · rintro ⟨i, hi, rfl⟩; exact ⟨i, hi, by rw [List.getElem?_eq_getElem hi]; rfl⟩
  · rintro ⟨i, hi, rfl⟩; exact ⟨i, hi, by rw [List.getElem?_eq_getElem hi]; rfl⟩
theorem IsSt.isval {n v w : Int} {rows : List (Int × Int)} (M : Mp n rows) (n1 : 1 ≤ n) (h : IsSt n rows v w) : IsVal n (lsS n rows) v w := by
  obtain ⟨k, hk, q, h1, h2⟩ := h.ex
  obtain ⟨i, hi, rfl⟩ := List.getElem_of_mem hk
  refine ⟨⟨_, mem_lsS.mpr ⟨i, hi, rfl⟩, q, ?_, h2⟩, fun s hs q' hq => ?_⟩
  · apply Classical.byContradiction
    intro c
    obtain ⟨k', hk', e, he⟩ := nxS_is (n := n) hi
    have lt := nxS_lt M hi
    rw [he] at lt c
    have := h.le k' hk' (q + e) (by rw [Int.add_mul]; simp only at c; omega)
    rw [Int.add_mul] at this
    simp only at lt
    omega
  · obtain ⟨i', hi', rfl⟩ := mem_lsS.mp hs
    apply Classical.byContradiction
    intro c
    have := nxS_least M n1 hi' hk (q := q) (q' := q') (by simp only at c; omega)
    simp only at hq
    omega
def st (n : Int) (rows : List (Int × Int)) (x : Int) : Int := match rows.map (prv n x) with
  | m :: ms => mostI m ms
  | [] => 0
end DL

namespace DL
open PySem L2
section
variable {B n : Int} {p : D} {r τ : List D} {δ : DEnv} {Φ : D → List D → Prop} {C : PySem.Addr}
end
end DL

namespace DL
open PySem L2
section
variable {n : Int} {rows g : List (Int × Int)}
end
end DL

namespace DL
open PySem L2
/-- round after round the same gain -/
theorem Orb.gain {n x : Int} {f : Int → Int} {k s : Nat} (O : Orb n f x k s) (n1 : 1 ≤ n) : itr f k x = itr f s x + (itr f k x - itr f s x) / n * n := by
  have e1 := Int.mul_ediv_add_emod (itr f k x) n
  have e2 := Int.mul_ediv_add_emod (itr f s x) n
  rw [O.back] at e1
  have h : itr f k x - itr f s x = (itr f k x / n - itr f s x / n) * n := by
    rw [Int.sub_mul, Int.mul_comm _ n, Int.mul_comm _ n]; omega
  have : (itr f k x - itr f s x) / n = itr f k x / n - itr f s x / n := by
    rw [h]; exact Int.mul_ediv_cancel _ (by omega)
  rw [this, ← h]; omega
section
variable {B n : Int} {p : D} {r τ : List D} {δ : DEnv} {Φ : D → List D → Prop} {C : PySem.Addr}
theorem Bd.nn {W : Int} {rows : List (Int × Int)} (M : Mp n rows) (b : Bd W rows) : 0 ≤ W := by
  obtain ⟨k, hk⟩ := List.exists_mem_of_ne_nil _ M.ne
  have := b k hk
  omega
end
end DL

namespace DL
open PySem L2
section
variable {B n : Int} {p : D} {r τ : List D} {δ : DEnv} {Φ : D → List D → Prop} {C : PySem.Addr}
end
end DL

namespace DL
open PySem L2
/-- what a drawn map is at most -/
structure OrbM (n : Int) (ss : List (Int × Int)) : Prop where
  n1 : 1 ≤ n
  n2 : n ≤ 10 ^ 18
  s1 : 1 ≤ ss.length
  s2 : ss.length ≤ 40
  sv : ∀ s ∈ ss, (-10 ^ 30 ≤ s.1 ∧ s.1 ≤ 10 ^ 30) ∧ -10 ^ 30 ≤ s.2 ∧ s.2 ≤ 10 ^ 30
theorem MapIs.orb {n : Int} {ss : List (Int × Int)} (M : MapIs n ss) : OrbM n ss := ⟨M.n1, M.n2, M.s1, by have := M.s2; omega, fun s hs => by
  obtain ⟨q1, q2, q3, q4⟩ := M.sv s hs
  omega⟩
section
variable {B n : Int} {p : D} {r τ : List D} {δ : DEnv} {Φ : D → List D → Prop} {C : PySem.Addr}
theorem wide_map_then (hp : PenOk B p) (hB : B + 3000 ≤ 10 ^ 12) (K : ∀ n (ss : List (Int × Int)) p', PenOk (B + 2000) p' → OrbM n ss → Φ (.tup [.int n, .lst (ss.map pairD)]) (p' :: r)) : WR (m__law_wide_map [.cell 0] (p :: r)) Φ := by
  unfold m__law_wide_map b__law_wide_map
  try simp only [wr_ok, w_var, w_c, w_p, w_nil, w_cons, w_call, w_tup, w_lst, w_lstC, w_dicC, w_B, w_and, w_or, w_not, w_andV, w_orV, w_if, w_chain, w_fld, w_meth, w_make, w_bm, w_rev, w_sortIt, w_get2, w_callV,
  w_next, w_seq, w_drop, w_ret, w_retN, w_break, w_cont, w_ifS, w_asg, w_gname, w_gsub, w_gtup, w_gnil, w_gcons, w_par, w_setFld, w_while, w_for, w_items, w_range1, w_lc, w_yes, w_def,
  der_int, der_bl, der_str, der_lst, der_frl, der_tup, der_dic, der_non, der_obj, der_raw, p_add, p_sub, p_mul, p_fdiv, p_mod, p_pow, p_neg, p_cmp, p_abs, p_min2, p_max2, p_eqI, p_notB, p_lenL, p_lenT, p_listL, newL_w, newLC_w, p_ixL, p_ixT,
  List.map_cons, List.map_nil, List.length_cons, List.length_nil, List.replicate_zero, List.replicate_succ, List.replicate, List.cons_append, List.nil_append, List.append_nil, List.getElem?_cons_zero, List.getElem?_cons_succ, List.set_cons_zero, List.set_cons_succ,
  List.zip_cons_cons, List.zip_nil_left, List.zip_nil_right, List.foldl_cons, List.foldl_nil, Nat.reduceAdd, Nat.reduceSub, Nat.zero_add, Nat.add_zero, Nat.reduceLeDiff, true_and, and_true, if_true, Bool.false_eq_true, if_false]
  refine picki_then (ys := [3, 17]) hp (by omega) (by decide) (by decide) fun k p1 hp1 hk => ?_
  have hk : k = 3 ∨ k = 17 := by simpa using hk
  refine great_then hp1 (by omega) (by omega) (by omega) fun x p2 hp2 x1 x2 => ?_
  have x2 : x < 10 ^ 17 := by rcases hk with rfl | rfl <;> (simp only [show (3 : Int).toNat = 3 from rfl, show (17 : Int).toNat = 17 from rfl] at x2; omega)
  try simp only [wr_ok, w_var, w_c, w_p, w_nil, w_cons, w_call, w_tup, w_lst, w_lstC, w_dicC, w_B, w_and, w_or, w_not, w_andV, w_orV, w_if, w_chain, w_fld, w_meth, w_make, w_bm, w_rev, w_sortIt, w_get2, w_callV,
  w_next, w_seq, w_drop, w_ret, w_retN, w_break, w_cont, w_ifS, w_asg, w_gname, w_gsub, w_gtup, w_gnil, w_gcons, w_par, w_setFld, w_while, w_for, w_items, w_range1, w_lc, w_yes, w_def,
  der_int, der_bl, der_str, der_lst, der_frl, der_tup, der_dic, der_non, der_obj, der_raw, p_add, p_sub, p_mul, p_fdiv, p_mod, p_pow, p_neg, p_cmp, p_abs, p_min2, p_max2, p_eqI, p_notB, p_lenL, p_lenT, p_listL, newL_w, newLC_w, p_ixL, p_ixT,
  List.map_cons, List.map_nil, List.length_cons, List.length_nil, List.replicate_zero, List.replicate_succ, List.replicate, List.cons_append, List.nil_append, List.append_nil, List.getElem?_cons_zero, List.getElem?_cons_succ, List.set_cons_zero, List.set_cons_succ,
  List.zip_cons_cons, List.zip_nil_left, List.zip_nil_right, List.foldl_cons, List.foldl_nil, Nat.reduceAdd, Nat.reduceSub, Nat.zero_add, Nat.add_zero, Nat.reduceLeDiff, true_and, and_true, if_true, Bool.false_eq_true, if_false]
  refine close_services_then hp2 (by omega) (by omega) (by omega) (by decide) (by decide) fun ss p3 hp3 l1 l2 hs => ?_
  try simp only [wr_ok, w_var, w_c, w_p, w_nil, w_cons, w_call, w_tup, w_lst, w_lstC, w_dicC, w_B, w_and, w_or, w_not, w_andV, w_orV, w_if, w_chain, w_fld, w_meth, w_make, w_bm, w_rev, w_sortIt, w_get2, w_callV,
  w_next, w_seq, w_drop, w_ret, w_retN, w_break, w_cont, w_ifS, w_asg, w_gname, w_gsub, w_gtup, w_gnil, w_gcons, w_par, w_setFld, w_while, w_for, w_items, w_range1, w_lc, w_yes, w_def,
  der_int, der_bl, der_str, der_lst, der_frl, der_tup, der_dic, der_non, der_obj, der_raw, p_add, p_sub, p_mul, p_fdiv, p_mod, p_pow, p_neg, p_cmp, p_abs, p_min2, p_max2, p_eqI, p_notB, p_lenL, p_lenT, p_listL, newL_w, newLC_w, p_ixL, p_ixT,
  List.map_cons, List.map_nil, List.length_cons, List.length_nil, List.replicate_zero, List.replicate_succ, List.replicate, List.cons_append, List.nil_append, List.append_nil, List.getElem?_cons_zero, List.getElem?_cons_succ, List.set_cons_zero, List.set_cons_succ,
  List.zip_cons_cons, List.zip_nil_left, List.zip_nil_right, List.foldl_cons, List.foldl_nil, Nat.reduceAdd, Nat.reduceSub, Nat.zero_add, Nat.add_zero, Nat.reduceLeDiff, true_and, and_true, if_true, Bool.false_eq_true, if_false]
  exact K _ ss p3 (hp3.mono (by omega)) ⟨by omega, by omega, l1, by omega, fun s h => by
    obtain ⟨q1, q2, q3, q4⟩ := hs s h
    omega⟩
theorem far_map_then (hp : PenOk B p) (hB : B + 3000 ≤ 10 ^ 12) (K : ∀ n (ss : List (Int × Int)) p', PenOk (B + 2000) p' → OrbM n ss → Φ (.tup [.int n, .lst (ss.map pairD)]) (p' :: r)) : WR (m__law_far_map [.cell 0] (p :: r)) Φ := by
  unfold m__law_far_map b__law_far_map
  refine w_exitD ?_
  rw [w_def]
  refine w_cut (fun δ τ => ∃ (n : Int) (p' : D), At δ τ [some (.cell 0), some (.int n), some (.cell (r.length + 1)), none, none] (p' :: (r ++ [.lst []])) ∧ PenOk (B + 1) p' ∧ 1 ≤ n ∧ n ≤ 9) ?_ ?_
  · try simp only [wr_ok, w_var, w_c, w_p, w_nil, w_cons, w_call, w_tup, w_lst, w_lstC, w_dicC, w_B, w_and, w_or, w_not, w_andV, w_orV, w_if, w_chain, w_fld, w_meth, w_make, w_bm, w_rev, w_sortIt, w_get2, w_callV,
  w_next, w_seq, w_drop, w_ret, w_retN, w_break, w_cont, w_ifS, w_asg, w_gname, w_gsub, w_gtup, w_gnil, w_gcons, w_par, w_setFld, w_while, w_for, w_items, w_range1, w_lc, w_yes, w_def,
  der_int, der_bl, der_str, der_lst, der_frl, der_tup, der_dic, der_non, der_obj, der_raw, p_add, p_sub, p_mul, p_fdiv, p_mod, p_pow, p_neg, p_cmp, p_abs, p_min2, p_max2, p_eqI, p_notB, p_lenL, p_lenT, p_listL, newL_w, newLC_w, p_ixL, p_ixT,
  List.map_cons, List.map_nil, List.length_cons, List.length_nil, List.replicate_zero, List.replicate_succ, List.replicate, List.cons_append, List.nil_append, List.append_nil, List.getElem?_cons_zero, List.getElem?_cons_succ, List.set_cons_zero, List.set_cons_succ,
  List.zip_cons_cons, List.zip_nil_left, List.zip_nil_right, List.foldl_cons, List.foldl_nil, Nat.reduceAdd, Nat.reduceSub, Nat.zero_add, Nat.add_zero, Nat.reduceLeDiff, true_and, and_true, if_true, Bool.false_eq_true, if_false]
    refine draw_then hp (by omega) (by omega) (by omega) fun x p1 hp1 x0 x1 => ?_
    try simp only [wr_ok, w_var, w_c, w_p, w_nil, w_cons, w_call, w_tup, w_lst, w_lstC, w_dicC, w_B, w_and, w_or, w_not, w_andV, w_orV, w_if, w_chain, w_fld, w_meth, w_make, w_bm, w_rev, w_sortIt, w_get2, w_callV,
  w_next, w_seq, w_drop, w_ret, w_retN, w_break, w_cont, w_ifS, w_asg, w_gname, w_gsub, w_gtup, w_gnil, w_gcons, w_par, w_setFld, w_while, w_for, w_items, w_range1, w_lc, w_yes, w_def,
  der_int, der_bl, der_str, der_lst, der_frl, der_tup, der_dic, der_non, der_obj, der_raw, p_add, p_sub, p_mul, p_fdiv, p_mod, p_pow, p_neg, p_cmp, p_abs, p_min2, p_max2, p_eqI, p_notB, p_lenL, p_lenT, p_listL, newL_w, newLC_w, p_ixL, p_ixT,
  List.map_cons, List.map_nil, List.length_cons, List.length_nil, List.replicate_zero, List.replicate_succ, List.replicate, List.cons_append, List.nil_append, List.append_nil, List.getElem?_cons_zero, List.getElem?_cons_succ, List.set_cons_zero, List.set_cons_succ,
  List.zip_cons_cons, List.zip_nil_left, List.zip_nil_right, List.foldl_cons, List.foldl_nil, Nat.reduceAdd, Nat.reduceSub, Nat.zero_add, Nat.add_zero, Nat.reduceLeDiff, true_and, and_true, if_true, Bool.false_eq_true, if_false]
    exact ⟨_, p1, ⟨rfl, rfl⟩, hp1, by omega, by omega⟩
  rintro δ τ ⟨n, p1, ⟨rfl, rfl⟩, hp1, n1, n2⟩
  try simp only [wr_ok, w_var, w_c, w_p, w_nil, w_cons, w_call, w_tup, w_lst, w_lstC, w_dicC, w_B, w_and, w_or, w_not, w_andV, w_orV, w_if, w_chain, w_fld, w_meth, w_make, w_bm, w_rev, w_sortIt, w_get2, w_callV,
  w_next, w_seq, w_drop, w_ret, w_retN, w_break, w_cont, w_ifS, w_asg, w_gname, w_gsub, w_gtup, w_gnil, w_gcons, w_par, w_setFld, w_while, w_for, w_items, w_range1, w_lc, w_yes, w_def,
  der_int, der_bl, der_str, der_lst, der_frl, der_tup, der_dic, der_non, der_obj, der_raw, p_add, p_sub, p_mul, p_fdiv, p_mod, p_pow, p_neg, p_cmp, p_abs, p_min2, p_max2, p_eqI, p_notB, p_lenL, p_lenT, p_listL, newL_w, newLC_w, p_ixL, p_ixT,
  List.map_cons, List.map_nil, List.length_cons, List.length_nil, List.replicate_zero, List.replicate_succ, List.replicate, List.cons_append, List.nil_append, List.append_nil, List.getElem?_cons_zero, List.getElem?_cons_succ, List.set_cons_zero, List.set_cons_succ,
  List.zip_cons_cons, List.zip_nil_left, List.zip_nil_right, List.foldl_cons, List.foldl_nil, Nat.reduceAdd, Nat.reduceSub, Nat.zero_add, Nat.add_zero, Nat.reduceLeDiff, true_and, and_true, if_true, Bool.false_eq_true, if_false]
  refine draw_then hp1 (by omega) (by omega) (by omega) fun c0 p2 hp2 c1 c2 => ?_
  try simp only [wr_ok, w_var, w_c, w_p, w_nil, w_cons, w_call, w_tup, w_lst, w_lstC, w_dicC, w_B, w_and, w_or, w_not, w_andV, w_orV, w_if, w_chain, w_fld, w_meth, w_make, w_bm, w_rev, w_sortIt, w_get2, w_callV,
  w_next, w_seq, w_drop, w_ret, w_retN, w_break, w_cont, w_ifS, w_asg, w_gname, w_gsub, w_gtup, w_gnil, w_gcons, w_par, w_setFld, w_while, w_for, w_items, w_range1, w_lc, w_yes, w_def,
  der_int, der_bl, der_str, der_lst, der_frl, der_tup, der_dic, der_non, der_obj, der_raw, p_add, p_sub, p_mul, p_fdiv, p_mod, p_pow, p_neg, p_cmp, p_abs, p_min2, p_max2, p_eqI, p_notB, p_lenL, p_lenT, p_listL, newL_w, newLC_w, p_ixL, p_ixT,
  List.map_cons, List.map_nil, List.length_cons, List.length_nil, List.replicate_zero, List.replicate_succ, List.replicate, List.cons_append, List.nil_append, List.append_nil, List.getElem?_cons_zero, List.getElem?_cons_succ, List.set_cons_zero, List.set_cons_succ,
  List.zip_cons_cons, List.zip_nil_left, List.zip_nil_right, List.foldl_cons, List.foldl_nil, Nat.reduceAdd, Nat.reduceSub, Nat.zero_add, Nat.add_zero, Nat.reduceLeDiff, true_and, and_true, if_true, Bool.false_eq_true, if_false]
  refine ⟨by omega, ?_⟩
  refine w_forI (fun i δ τ => (i : Int) ≤ 4 ∧ ∃ (p' : D) (ss : List (Int × Int)) (o3 o4 : Option D), At δ τ [some (.cell 0), some (.int n), some (.cell (r.length + 1)), o3, o4] (p' :: (r ++ [.lst (ss.map pairD)])) ∧ PenOk (B + 2 + 200 * i) p' ∧ ss.length = i ∧ ∀ s ∈ ss, (-10 ^ 30 ≤ s.1 ∧ s.1 ≤ 10 ^ 30) ∧ -10 ^ 30 ≤ s.2 ∧ s.2 ≤ 10 ^ 30)
    ⟨by omega, p2, [], none, none, ⟨rfl, rfl⟩, hp2.mono (by simp; omega), rfl, fun s h => nomatch h⟩ ?_ ?_
  · rintro i y δ τ hi ⟨him, p3, ss, o3, o4, ⟨rfl, rfl⟩, hp3, hl, hs⟩
    have hlt : i < (1 + c0).toNat := by
      have := (List.getElem?_eq_some_iff.mp hi).1
      simpa using this
    try simp only [wr_ok, w_var, w_c, w_p, w_nil, w_cons, w_call, w_tup, w_lst, w_lstC, w_dicC, w_B, w_and, w_or, w_not, w_andV, w_orV, w_if, w_chain, w_fld, w_meth, w_make, w_bm, w_rev, w_sortIt, w_get2, w_callV,
  w_next, w_seq, w_drop, w_ret, w_retN, w_break, w_cont, w_ifS, w_asg, w_gname, w_gsub, w_gtup, w_gnil, w_gcons, w_par, w_setFld, w_while, w_for, w_items, w_range1, w_lc, w_yes, w_def,
  der_int, der_bl, der_str, der_lst, der_frl, der_tup, der_dic, der_non, der_obj, der_raw, p_add, p_sub, p_mul, p_fdiv, p_mod, p_pow, p_neg, p_cmp, p_abs, p_min2, p_max2, p_eqI, p_notB, p_lenL, p_lenT, p_listL, newL_w, newLC_w, p_ixL, p_ixT,
  List.map_cons, List.map_nil, List.length_cons, List.length_nil, List.replicate_zero, List.replicate_succ, List.replicate, List.cons_append, List.nil_append, List.append_nil, List.getElem?_cons_zero, List.getElem?_cons_succ, List.set_cons_zero, List.set_cons_succ,
  List.zip_cons_cons, List.zip_nil_left, List.zip_nil_right, List.foldl_cons, List.foldl_nil, Nat.reduceAdd, Nat.reduceSub, Nat.zero_add, Nat.add_zero, Nat.reduceLeDiff, true_and, and_true, if_true, Bool.false_eq_true, if_false, der_c1, isT_lst, wipeD]
    refine ⟨by decide, by decide, ?_⟩
    refine w_lcpen (fun _ y => ∃ i, y = .int i ∧ -10 ^ 30 ≤ i ∧ i ≤ 10 ^ 30) 100 hp3 (fun x hx q B' hq hB' => ?_) fun ys p4 hyl hyv hp4 => ?_
    · simp at hB'
      try simp only [wr_ok, w_var, w_c, w_p, w_nil, w_cons, w_call, w_tup, w_lst, w_lstC, w_dicC, w_B, w_and, w_or, w_not, w_andV, w_orV, w_if, w_chain, w_fld, w_meth, w_make, w_bm, w_rev, w_sortIt, w_get2, w_callV,
  w_next, w_seq, w_drop, w_ret, w_retN, w_break, w_cont, w_ifS, w_asg, w_gname, w_gsub, w_gtup, w_gnil, w_gcons, w_par, w_setFld, w_while, w_for, w_items, w_range1, w_lc, w_yes, w_def,
  der_int, der_bl, der_str, der_lst, der_frl, der_tup, der_dic, der_non, der_obj, der_raw, p_add, p_sub, p_mul, p_fdiv, p_mod, p_pow, p_neg, p_cmp, p_abs, p_min2, p_max2, p_eqI, p_notB, p_lenL, p_lenT, p_listL, newL_w, newLC_w, p_ixL, p_ixT,
  List.map_cons, List.map_nil, List.length_cons, List.length_nil, List.replicate_zero, List.replicate_succ, List.replicate, List.cons_append, List.nil_append, List.append_nil, List.getElem?_cons_zero, List.getElem?_cons_succ, List.set_cons_zero, List.set_cons_succ,
  List.zip_cons_cons, List.zip_nil_left, List.zip_nil_right, List.foldl_cons, List.foldl_nil, Nat.reduceAdd, Nat.reduceSub, Nat.zero_add, Nat.add_zero, Nat.reduceLeDiff, true_and, and_true, if_true, Bool.false_eq_true, if_false]
      refine great_then hq (by omega) (by decide) (by decide) fun g q1 hq1 g1 g2 => ?_
      have g2 : g < 10 ^ 30 := g2
      try simp only [wr_ok, w_var, w_c, w_p, w_nil, w_cons, w_call, w_tup, w_lst, w_lstC, w_dicC, w_B, w_and, w_or, w_not, w_andV, w_orV, w_if, w_chain, w_fld, w_meth, w_make, w_bm, w_rev, w_sortIt, w_get2, w_callV,
  w_next, w_seq, w_drop, w_ret, w_retN, w_break, w_cont, w_ifS, w_asg, w_gname, w_gsub, w_gtup, w_gnil, w_gcons, w_par, w_setFld, w_while, w_for, w_items, w_range1, w_lc, w_yes, w_def,
  der_int, der_bl, der_str, der_lst, der_frl, der_tup, der_dic, der_non, der_obj, der_raw, p_add, p_sub, p_mul, p_fdiv, p_mod, p_pow, p_neg, p_cmp, p_abs, p_min2, p_max2, p_eqI, p_notB, p_lenL, p_lenT, p_listL, newL_w, newLC_w, p_ixL, p_ixT,
  List.map_cons, List.map_nil, List.length_cons, List.length_nil, List.replicate_zero, List.replicate_succ, List.replicate, List.cons_append, List.nil_append, List.append_nil, List.getElem?_cons_zero, List.getElem?_cons_succ, List.set_cons_zero, List.set_cons_succ,
  List.zip_cons_cons, List.zip_nil_left, List.zip_nil_right, List.foldl_cons, List.foldl_nil, Nat.reduceAdd, Nat.reduceSub, Nat.zero_add, Nat.add_zero, Nat.reduceLeDiff, true_and, and_true, if_true, Bool.false_eq_true, if_false]
      refine picki_then (ys := [1, -1]) hq1 (by omega) (by decide) (by decide) fun z q2 hq2 hz => ?_
      have hz : z = 1 ∨ z = -1 := by simpa using hz
      have hd : -10 ^ 30 ≤ g * z ∧ g * z ≤ 10 ^ 30 := by rcases hz with rfl | rfl <;> omega
      try simp only [wr_ok, w_var, w_c, w_p, w_nil, w_cons, w_call, w_tup, w_lst, w_lstC, w_dicC, w_B, w_and, w_or, w_not, w_andV, w_orV, w_if, w_chain, w_fld, w_meth, w_make, w_bm, w_rev, w_sortIt, w_get2, w_callV,
  w_next, w_seq, w_drop, w_ret, w_retN, w_break, w_cont, w_ifS, w_asg, w_gname, w_gsub, w_gtup, w_gnil, w_gcons, w_par, w_setFld, w_while, w_for, w_items, w_range1, w_lc, w_yes, w_def,
  der_int, der_bl, der_str, der_lst, der_frl, der_tup, der_dic, der_non, der_obj, der_raw, p_add, p_sub, p_mul, p_fdiv, p_mod, p_pow, p_neg, p_cmp, p_abs, p_min2, p_max2, p_eqI, p_notB, p_lenL, p_lenT, p_listL, newL_w, newLC_w, p_ixL, p_ixT,
  List.map_cons, List.map_nil, List.length_cons, List.length_nil, List.replicate_zero, List.replicate_succ, List.replicate, List.cons_append, List.nil_append, List.append_nil, List.getElem?_cons_zero, List.getElem?_cons_succ, List.set_cons_zero, List.set_cons_succ,
  List.zip_cons_cons, List.zip_nil_left, List.zip_nil_right, List.foldl_cons, List.foldl_nil, Nat.reduceAdd, Nat.reduceSub, Nat.zero_add, Nat.add_zero, Nat.reduceLeDiff, true_and, and_true, if_true, Bool.false_eq_true, if_false]
      exact ⟨⟨big_of (by omega), big_of (by omega)⟩, q2, rfl, hq2.mono (by omega), _, rfl, hd.1, hd.2⟩
    · obtain ⟨is, rfl, his⟩ := ints_of_all (lo := -10 ^ 30) (hi := 10 ^ 30) (ys := ys) fun y hy => by
        obtain ⟨j, hj⟩ := List.mem_iff_getElem?.mp hy
        have hlt := (List.getElem?_eq_some_iff.mp hj).1
        obtain ⟨x, hx⟩ : ∃ x, ((List.range (2 : Int).toNat).map fun (i : Nat) => D.int (i : Int))[j]? = some x := ⟨_, List.getElem?_eq_getElem (by omega)⟩
        exact hyv j x y hx hj
      simp only [List.length_map, List.length_range] at hyl hp4
      match is, hyl with
      | [a, b], _ =>
        have ha := his a (by simp)
        have hb := his b (by simp)
        try simp only [wr_ok, w_var, w_c, w_p, w_nil, w_cons, w_call, w_tup, w_lst, w_lstC, w_dicC, w_B, w_and, w_or, w_not, w_andV, w_orV, w_if, w_chain, w_fld, w_meth, w_make, w_bm, w_rev, w_sortIt, w_get2, w_callV,
  w_next, w_seq, w_drop, w_ret, w_retN, w_break, w_cont, w_ifS, w_asg, w_gname, w_gsub, w_gtup, w_gnil, w_gcons, w_par, w_setFld, w_while, w_for, w_items, w_range1, w_lc, w_yes, w_def,
  der_int, der_bl, der_str, der_lst, der_frl, der_tup, der_dic, der_non, der_obj, der_raw, p_add, p_sub, p_mul, p_fdiv, p_mod, p_pow, p_neg, p_cmp, p_abs, p_min2, p_max2, p_eqI, p_notB, p_lenL, p_lenT, p_listL, newL_w, newLC_w, p_ixL, p_ixT,
  List.map_cons, List.map_nil, List.length_cons, List.length_nil, List.replicate_zero, List.replicate_succ, List.replicate, List.cons_append, List.nil_append, List.append_nil, List.getElem?_cons_zero, List.getElem?_cons_succ, List.set_cons_zero, List.set_cons_succ,
  List.zip_cons_cons, List.zip_nil_left, List.zip_nil_right, List.foldl_cons, List.foldl_nil, Nat.reduceAdd, Nat.reduceSub, Nat.zero_add, Nat.add_zero, Nat.reduceLeDiff, true_and, and_true, if_true, Bool.false_eq_true, if_false, p_tupL, p_append1]
        refine ⟨by rw [List.length_map, hl]; unfold cap; omega, by omega, p4, ss ++ [(a, b)], _, _, ⟨rfl, by simp [pairD]⟩, hp4.mono (by simp; omega), by simp [hl], fun s h => ?_⟩
        rcases List.mem_append.mp h with h | h
        · exact hs s h
        · rw [List.mem_singleton.mp h]; exact ⟨ha, hb⟩
  · rintro δ τ ⟨him, p3, ss, o3, o4, ⟨rfl, rfl⟩, hp3, hl, hs⟩
    simp only [List.length_map, List.length_range] at hp3 hl
    try simp only [wr_ok, w_var, w_c, w_p, w_nil, w_cons, w_call, w_tup, w_lst, w_lstC, w_dicC, w_B, w_and, w_or, w_not, w_andV, w_orV, w_if, w_chain, w_fld, w_meth, w_make, w_bm, w_rev, w_sortIt, w_get2, w_callV,
  w_next, w_seq, w_drop, w_ret, w_retN, w_break, w_cont, w_ifS, w_asg, w_gname, w_gsub, w_gtup, w_gnil, w_gcons, w_par, w_setFld, w_while, w_for, w_items, w_range1, w_lc, w_yes, w_def,
  der_int, der_bl, der_str, der_lst, der_frl, der_tup, der_dic, der_non, der_obj, der_raw, p_add, p_sub, p_mul, p_fdiv, p_mod, p_pow, p_neg, p_cmp, p_abs, p_min2, p_max2, p_eqI, p_notB, p_lenL, p_lenT, p_listL, newL_w, newLC_w, p_ixL, p_ixT,
  List.map_cons, List.map_nil, List.length_cons, List.length_nil, List.replicate_zero, List.replicate_succ, List.replicate, List.cons_append, List.nil_append, List.append_nil, List.getElem?_cons_zero, List.getElem?_cons_succ, List.set_cons_zero, List.set_cons_succ,
  List.zip_cons_cons, List.zip_nil_left, List.zip_nil_right, List.foldl_cons, List.foldl_nil, Nat.reduceAdd, Nat.reduceSub, Nat.zero_add, Nat.add_zero, Nat.reduceLeDiff, true_and, and_true, if_true, Bool.false_eq_true, if_false]
    refine ⟨.tup [.int n, .lst (ss.map pairD)], ?_, older_pen hp3.pla, by simpa using K n ss p3 (hp3.mono (by omega)) ⟨n1, by omega, by omega, by omega, hs⟩⟩
    have e : celF (r.length + 1) (p3 :: (r ++ [.lst (ss.map pairD)])) 6 (r.length + 1) = some (.lst (ss.map pairD)) := celF_last (pla_pairs _)
    simp [frzD, frzL, e]
theorem even_map_then {most : Int} (hp : PenOk B p) (hB : B + 3000 ≤ 10 ^ 12) (m1 : 1 ≤ most) (m2 : most ≤ 40) (K : ∀ n (ss : List (Int × Int)) p', PenOk (B + 2000) p' → OrbM n ss → Φ (.tup [.int n, .lst (ss.map pairD)]) (p' :: r)) : WR (m__law_even_map [.cell 0, .int most] (p :: r)) Φ := by
  unfold m__law_even_map b__law_even_map
  refine w_exitD ?_
  rw [w_def]
  refine w_cut (fun δ τ => ∃ (m g : Int) (p' : D), At δ τ [some (.cell 0), some (.int most), some (.int m), some (.int g), none, none, none, none, none] (p' :: r) ∧ PenOk (B + 100) p' ∧ (1 ≤ m ∧ m ≤ 40) ∧ 1 ≤ g ∧ g ≤ 10 ^ 15) ?_ ?_
  · try simp only [wr_ok, w_var, w_c, w_p, w_nil, w_cons, w_call, w_tup, w_lst, w_lstC, w_dicC, w_B, w_and, w_or, w_not, w_andV, w_orV, w_if, w_chain, w_fld, w_meth, w_make, w_bm, w_rev, w_sortIt, w_get2, w_callV,
  w_next, w_seq, w_drop, w_ret, w_retN, w_break, w_cont, w_ifS, w_asg, w_gname, w_gsub, w_gtup, w_gnil, w_gcons, w_par, w_setFld, w_while, w_for, w_items, w_range1, w_lc, w_yes, w_def,
  der_int, der_bl, der_str, der_lst, der_frl, der_tup, der_dic, der_non, der_obj, der_raw, p_add, p_sub, p_mul, p_fdiv, p_mod, p_pow, p_neg, p_cmp, p_abs, p_min2, p_max2, p_eqI, p_notB, p_lenL, p_lenT, p_listL, newL_w, newLC_w, p_ixL, p_ixT,
  List.map_cons, List.map_nil, List.length_cons, List.length_nil, List.replicate_zero, List.replicate_succ, List.replicate, List.cons_append, List.nil_append, List.append_nil, List.getElem?_cons_zero, List.getElem?_cons_succ, List.set_cons_zero, List.set_cons_succ,
  List.zip_cons_cons, List.zip_nil_left, List.zip_nil_right, List.foldl_cons, List.foldl_nil, Nat.reduceAdd, Nat.reduceSub, Nat.zero_add, Nat.add_zero, Nat.reduceLeDiff, true_and, and_true, if_true, Bool.false_eq_true, if_false]
    refine draw_then hp (by omega) (by omega) (by omega) fun a p1 hp1 a0 a1 => ?_
    try simp only [wr_ok, w_var, w_c, w_p, w_nil, w_cons, w_call, w_tup, w_lst, w_lstC, w_dicC, w_B, w_and, w_or, w_not, w_andV, w_orV, w_if, w_chain, w_fld, w_meth, w_make, w_bm, w_rev, w_sortIt, w_get2, w_callV,
  w_next, w_seq, w_drop, w_ret, w_retN, w_break, w_cont, w_ifS, w_asg, w_gname, w_gsub, w_gtup, w_gnil, w_gcons, w_par, w_setFld, w_while, w_for, w_items, w_range1, w_lc, w_yes, w_def,
  der_int, der_bl, der_str, der_lst, der_frl, der_tup, der_dic, der_non, der_obj, der_raw, p_add, p_sub, p_mul, p_fdiv, p_mod, p_pow, p_neg, p_cmp, p_abs, p_min2, p_max2, p_eqI, p_notB, p_lenL, p_lenT, p_listL, newL_w, newLC_w, p_ixL, p_ixT,
  List.map_cons, List.map_nil, List.length_cons, List.length_nil, List.replicate_zero, List.replicate_succ, List.replicate, List.cons_append, List.nil_append, List.append_nil, List.getElem?_cons_zero, List.getElem?_cons_succ, List.set_cons_zero, List.set_cons_succ,
  List.zip_cons_cons, List.zip_nil_left, List.zip_nil_right, List.foldl_cons, List.foldl_nil, Nat.reduceAdd, Nat.reduceSub, Nat.zero_add, Nat.add_zero, Nat.reduceLeDiff, true_and, and_true, if_true, Bool.false_eq_true, if_false]
    refine picki_then (ys := [1, 6, 15]) hp1 (by omega) (by decide) (by decide) fun k p2 hp2 hk => ?_
    have hk : k = 1 ∨ k = 6 ∨ k = 15 := by simpa using hk
    refine great_then hp2 (by omega) (by omega) (by omega) fun x p3 hp3 x1 x2 => ?_
    have x2 : x < 10 ^ 15 := by rcases hk with rfl | rfl | rfl <;> (simp only [show (1 : Int).toNat = 1 from rfl, show (6 : Int).toNat = 6 from rfl, show (15 : Int).toNat = 15 from rfl] at x2; omega)
    try simp only [wr_ok, w_var, w_c, w_p, w_nil, w_cons, w_call, w_tup, w_lst, w_lstC, w_dicC, w_B, w_and, w_or, w_not, w_andV, w_orV, w_if, w_chain, w_fld, w_meth, w_make, w_bm, w_rev, w_sortIt, w_get2, w_callV,
  w_next, w_seq, w_drop, w_ret, w_retN, w_break, w_cont, w_ifS, w_asg, w_gname, w_gsub, w_gtup, w_gnil, w_gcons, w_par, w_setFld, w_while, w_for, w_items, w_range1, w_lc, w_yes, w_def,
  der_int, der_bl, der_str, der_lst, der_frl, der_tup, der_dic, der_non, der_obj, der_raw, p_add, p_sub, p_mul, p_fdiv, p_mod, p_pow, p_neg, p_cmp, p_abs, p_min2, p_max2, p_eqI, p_notB, p_lenL, p_lenT, p_listL, newL_w, newLC_w, p_ixL, p_ixT,
  List.map_cons, List.map_nil, List.length_cons, List.length_nil, List.replicate_zero, List.replicate_succ, List.replicate, List.cons_append, List.nil_append, List.append_nil, List.getElem?_cons_zero, List.getElem?_cons_succ, List.set_cons_zero, List.set_cons_succ,
  List.zip_cons_cons, List.zip_nil_left, List.zip_nil_right, List.foldl_cons, List.foldl_nil, Nat.reduceAdd, Nat.reduceSub, Nat.zero_add, Nat.add_zero, Nat.reduceLeDiff, true_and, and_true, if_true, Bool.false_eq_true, if_false]
    exact ⟨_, _, p3, ⟨rfl, rfl⟩, hp3.mono (by omega), ⟨by omega, by omega⟩, by omega, by omega⟩
  rintro δ τ ⟨m, g, p1, ⟨rfl, rfl⟩, hp1, ⟨m3, m4⟩, g1, g2⟩
  have N : 1 ≤ m * g ∧ m * g ≤ 40 * 10 ^ 15 := by
    have h1 : 1 * 1 ≤ m * g := Int.mul_le_mul m3 g1 (by decide) (by omega)
    have h2 : m * g ≤ 40 * 10 ^ 15 := Int.mul_le_mul m4 g2 (by omega) (by decide)
    omega
  refine w_cut (fun δ τ => ∃ (a b : Int) (p' : D), At δ τ [some (.cell 0), some (.int most), some (.int m), some (.int g), some (.int a), some (.int b), none, none, none] (p' :: r) ∧ PenOk (B + 102) p' ∧ (0 ≤ a ∧ a ≤ 10 ^ 16) ∧ -80 ≤ b ∧ b ≤ 80) ?_ ?_
  · try simp only [wr_ok, w_var, w_c, w_p, w_nil, w_cons, w_call, w_tup, w_lst, w_lstC, w_dicC, w_B, w_and, w_or, w_not, w_andV, w_orV, w_if, w_chain, w_fld, w_meth, w_make, w_bm, w_rev, w_sortIt, w_get2, w_callV,
  w_next, w_seq, w_drop, w_ret, w_retN, w_break, w_cont, w_ifS, w_asg, w_gname, w_gsub, w_gtup, w_gnil, w_gcons, w_par, w_setFld, w_while, w_for, w_items, w_range1, w_lc, w_yes, w_def,
  der_int, der_bl, der_str, der_lst, der_frl, der_tup, der_dic, der_non, der_obj, der_raw, p_add, p_sub, p_mul, p_fdiv, p_mod, p_pow, p_neg, p_cmp, p_abs, p_min2, p_max2, p_eqI, p_notB, p_lenL, p_lenT, p_listL, newL_w, newLC_w, p_ixL, p_ixT,
  List.map_cons, List.map_nil, List.length_cons, List.length_nil, List.replicate_zero, List.replicate_succ, List.replicate, List.cons_append, List.nil_append, List.append_nil, List.getElem?_cons_zero, List.getElem?_cons_succ, List.set_cons_zero, List.set_cons_succ,
  List.zip_cons_cons, List.zip_nil_left, List.zip_nil_right, List.foldl_cons, List.foldl_nil, Nat.reduceAdd, Nat.reduceSub, Nat.zero_add, Nat.add_zero, Nat.reduceLeDiff, true_and, and_true, if_true, Bool.false_eq_true, if_false]
    refine draw_then hp1 (by omega) (by omega) (by omega) fun a p2 hp2 a0 a1 => ?_
    try simp only [wr_ok, w_var, w_c, w_p, w_nil, w_cons, w_call, w_tup, w_lst, w_lstC, w_dicC, w_B, w_and, w_or, w_not, w_andV, w_orV, w_if, w_chain, w_fld, w_meth, w_make, w_bm, w_rev, w_sortIt, w_get2, w_callV,
  w_next, w_seq, w_drop, w_ret, w_retN, w_break, w_cont, w_ifS, w_asg, w_gname, w_gsub, w_gtup, w_gnil, w_gcons, w_par, w_setFld, w_while, w_for, w_items, w_range1, w_lc, w_yes, w_def,
  der_int, der_bl, der_str, der_lst, der_frl, der_tup, der_dic, der_non, der_obj, der_raw, p_add, p_sub, p_mul, p_fdiv, p_mod, p_pow, p_neg, p_cmp, p_abs, p_min2, p_max2, p_eqI, p_notB, p_lenL, p_lenT, p_listL, newL_w, newLC_w, p_ixL, p_ixT,
  List.map_cons, List.map_nil, List.length_cons, List.length_nil, List.replicate_zero, List.replicate_succ, List.replicate, List.cons_append, List.nil_append, List.append_nil, List.getElem?_cons_zero, List.getElem?_cons_succ, List.set_cons_zero, List.set_cons_succ,
  List.zip_cons_cons, List.zip_nil_left, List.zip_nil_right, List.foldl_cons, List.foldl_nil, Nat.reduceAdd, Nat.reduceSub, Nat.zero_add, Nat.add_zero, Nat.reduceLeDiff, true_and, and_true, if_true, Bool.false_eq_true, if_false]
    refine ⟨⟨big_of (by decide), big_of (by omega)⟩, ?_⟩
    refine draw_then hp2 (by omega) (by omega) (by omega) fun b p3 hp3 b0 b1 => ?_
    try simp only [wr_ok, w_var, w_c, w_p, w_nil, w_cons, w_call, w_tup, w_lst, w_lstC, w_dicC, w_B, w_and, w_or, w_not, w_andV, w_orV, w_if, w_chain, w_fld, w_meth, w_make, w_bm, w_rev, w_sortIt, w_get2, w_callV,
  w_next, w_seq, w_drop, w_ret, w_retN, w_break, w_cont, w_ifS, w_asg, w_gname, w_gsub, w_gtup, w_gnil, w_gcons, w_par, w_setFld, w_while, w_for, w_items, w_range1, w_lc, w_yes, w_def,
  der_int, der_bl, der_str, der_lst, der_frl, der_tup, der_dic, der_non, der_obj, der_raw, p_add, p_sub, p_mul, p_fdiv, p_mod, p_pow, p_neg, p_cmp, p_abs, p_min2, p_max2, p_eqI, p_notB, p_lenL, p_lenT, p_listL, newL_w, newLC_w, p_ixL, p_ixT,
  List.map_cons, List.map_nil, List.length_cons, List.length_nil, List.replicate_zero, List.replicate_succ, List.replicate, List.cons_append, List.nil_append, List.append_nil, List.getElem?_cons_zero, List.getElem?_cons_succ, List.set_cons_zero, List.set_cons_succ,
  List.zip_cons_cons, List.zip_nil_left, List.zip_nil_right, List.foldl_cons, List.foldl_nil, Nat.reduceAdd, Nat.reduceSub, Nat.zero_add, Nat.add_zero, Nat.reduceLeDiff, true_and, and_true, if_true, Bool.false_eq_true, if_false]
    exact ⟨⟨big_of (by decide), big_of (by omega)⟩, _, _, p3, ⟨rfl, rfl⟩, hp3.mono (by omega), ⟨by omega, by omega⟩, by omega, by omega⟩
  rintro δ τ ⟨a, b, p2, ⟨rfl, rfl⟩, hp2, ⟨a1, a2⟩, b1, b2⟩
  refine w_cut (fun δ τ => At δ τ [some (.cell 0), some (.int most), some (.int m), some (.int g), some (.int a), some (.int b), some (.cell (r.length + 1)), none, none] (p2 :: (r ++ [.lst []]))) ?_ ?_
  · try simp only [wr_ok, w_var, w_c, w_p, w_nil, w_cons, w_call, w_tup, w_lst, w_lstC, w_dicC, w_B, w_and, w_or, w_not, w_andV, w_orV, w_if, w_chain, w_fld, w_meth, w_make, w_bm, w_rev, w_sortIt, w_get2, w_callV,
  w_next, w_seq, w_drop, w_ret, w_retN, w_break, w_cont, w_ifS, w_asg, w_gname, w_gsub, w_gtup, w_gnil, w_gcons, w_par, w_setFld, w_while, w_for, w_items, w_range1, w_lc, w_yes, w_def,
  der_int, der_bl, der_str, der_lst, der_frl, der_tup, der_dic, der_non, der_obj, der_raw, p_add, p_sub, p_mul, p_fdiv, p_mod, p_pow, p_neg, p_cmp, p_abs, p_min2, p_max2, p_eqI, p_notB, p_lenL, p_lenT, p_listL, newL_w, newLC_w, p_ixL, p_ixT,
  List.map_cons, List.map_nil, List.length_cons, List.length_nil, List.replicate_zero, List.replicate_succ, List.replicate, List.cons_append, List.nil_append, List.append_nil, List.getElem?_cons_zero, List.getElem?_cons_succ, List.set_cons_zero, List.set_cons_succ,
  List.zip_cons_cons, List.zip_nil_left, List.zip_nil_right, List.foldl_cons, List.foldl_nil, Nat.reduceAdd, Nat.reduceSub, Nat.zero_add, Nat.add_zero, Nat.reduceLeDiff, true_and, and_true, if_true, Bool.false_eq_true, if_false]
    exact ⟨rfl, rfl⟩
  rintro δ τ ⟨rfl, rfl⟩
  try simp only [wr_ok, w_var, w_c, w_p, w_nil, w_cons, w_call, w_tup, w_lst, w_lstC, w_dicC, w_B, w_and, w_or, w_not, w_andV, w_orV, w_if, w_chain, w_fld, w_meth, w_make, w_bm, w_rev, w_sortIt, w_get2, w_callV,
  w_next, w_seq, w_drop, w_ret, w_retN, w_break, w_cont, w_ifS, w_asg, w_gname, w_gsub, w_gtup, w_gnil, w_gcons, w_par, w_setFld, w_while, w_for, w_items, w_range1, w_lc, w_yes, w_def,
  der_int, der_bl, der_str, der_lst, der_frl, der_tup, der_dic, der_non, der_obj, der_raw, p_add, p_sub, p_mul, p_fdiv, p_mod, p_pow, p_neg, p_cmp, p_abs, p_min2, p_max2, p_eqI, p_notB, p_lenL, p_lenT, p_listL, newL_w, newLC_w, p_ixL, p_ixT,
  List.map_cons, List.map_nil, List.length_cons, List.length_nil, List.replicate_zero, List.replicate_succ, List.replicate, List.cons_append, List.nil_append, List.append_nil, List.getElem?_cons_zero, List.getElem?_cons_succ, List.set_cons_zero, List.set_cons_succ,
  List.zip_cons_cons, List.zip_nil_left, List.zip_nil_right, List.foldl_cons, List.foldl_nil, Nat.reduceAdd, Nat.reduceSub, Nat.zero_add, Nat.add_zero, Nat.reduceLeDiff, true_and, and_true, if_true, Bool.false_eq_true, if_false]
  refine ⟨by omega, ?_⟩
  refine w_forI (fun i δ τ => (i : Int) ≤ 40 ∧ ∃ (p' : D) (ss : List (Int × Int)) (o7 o8 : Option D), At δ τ [some (.cell 0), some (.int most), some (.int m), some (.int g), some (.int a), some (.int b), some (.cell (r.length + 1)), o7, o8] (p' :: (r ++ [.lst (ss.map pairD)])) ∧ PenOk (B + 102 + 10 * i) p' ∧ ss.length = i ∧ ∀ s ∈ ss, (-10 ^ 30 ≤ s.1 ∧ s.1 ≤ 10 ^ 30) ∧ -10 ^ 30 ≤ s.2 ∧ s.2 ≤ 10 ^ 30)
    ⟨by omega, p2, [], none, none, ⟨rfl, rfl⟩, hp2.mono (by simp), rfl, fun s h => nomatch h⟩ ?_ ?_
  · rintro i y δ τ hi ⟨him, p3, ss, o7, o8, ⟨rfl, rfl⟩, hp3, hl, hs⟩
    have hlt : i < m.toNat := by
      have := (List.getElem?_eq_some_iff.mp hi).1
      simpa using this
    rw [List.getElem?_map, List.getElem?_range (by omega)] at hi
    cases hi
    have gi : 0 ≤ (i : Int) * g ∧ (i : Int) * g ≤ 40 * 10 ^ 15 := ⟨Int.mul_nonneg (by omega) (by omega), Int.mul_le_mul (by omega) g2 (by omega) (by decide)⟩
    have gb : -(80 * 10 ^ 15) ≤ b * g ∧ b * g ≤ 80 * 10 ^ 15 := by
      have h1 : b * g ≤ 80 * g := Int.mul_le_mul_of_nonneg_right b2 (by omega)
      have h2 : -80 * g ≤ b * g := Int.mul_le_mul_of_nonneg_right b1 (by omega)
      omega
    have ga : ((i : Int) + b) * g = (i : Int) * g + b * g := Int.add_mul _ _ _
    try simp only [wr_ok, w_var, w_c, w_p, w_nil, w_cons, w_call, w_tup, w_lst, w_lstC, w_dicC, w_B, w_and, w_or, w_not, w_andV, w_orV, w_if, w_chain, w_fld, w_meth, w_make, w_bm, w_rev, w_sortIt, w_get2, w_callV,
  w_next, w_seq, w_drop, w_ret, w_retN, w_break, w_cont, w_ifS, w_asg, w_gname, w_gsub, w_gtup, w_gnil, w_gcons, w_par, w_setFld, w_while, w_for, w_items, w_range1, w_lc, w_yes, w_def,
  der_int, der_bl, der_str, der_lst, der_frl, der_tup, der_dic, der_non, der_obj, der_raw, p_add, p_sub, p_mul, p_fdiv, p_mod, p_pow, p_neg, p_cmp, p_abs, p_min2, p_max2, p_eqI, p_notB, p_lenL, p_lenT, p_listL, newL_w, newLC_w, p_ixL, p_ixT,
  List.map_cons, List.map_nil, List.length_cons, List.length_nil, List.replicate_zero, List.replicate_succ, List.replicate, List.cons_append, List.nil_append, List.append_nil, List.getElem?_cons_zero, List.getElem?_cons_succ, List.set_cons_zero, List.set_cons_succ,
  List.zip_cons_cons, List.zip_nil_left, List.zip_nil_right, List.foldl_cons, List.foldl_nil, Nat.reduceAdd, Nat.reduceSub, Nat.zero_add, Nat.add_zero, Nat.reduceLeDiff, true_and, and_true, if_true, Bool.false_eq_true, if_false]
    refine draw_then hp3 (by omega) (by omega) (by omega) fun x p4 hp4 x0 x1 => ?_
    try simp only [wr_ok, w_var, w_c, w_p, w_nil, w_cons, w_call, w_tup, w_lst, w_lstC, w_dicC, w_B, w_and, w_or, w_not, w_andV, w_orV, w_if, w_chain, w_fld, w_meth, w_make, w_bm, w_rev, w_sortIt, w_get2, w_callV,
  w_next, w_seq, w_drop, w_ret, w_retN, w_break, w_cont, w_ifS, w_asg, w_gname, w_gsub, w_gtup, w_gnil, w_gcons, w_par, w_setFld, w_while, w_for, w_items, w_range1, w_lc, w_yes, w_def,
  der_int, der_bl, der_str, der_lst, der_frl, der_tup, der_dic, der_non, der_obj, der_raw, p_add, p_sub, p_mul, p_fdiv, p_mod, p_pow, p_neg, p_cmp, p_abs, p_min2, p_max2, p_eqI, p_notB, p_lenL, p_lenT, p_listL, newL_w, newLC_w, p_ixL, p_ixT,
  List.map_cons, List.map_nil, List.length_cons, List.length_nil, List.replicate_zero, List.replicate_succ, List.replicate, List.cons_append, List.nil_append, List.append_nil, List.getElem?_cons_zero, List.getElem?_cons_succ, List.set_cons_zero, List.set_cons_succ,
  List.zip_cons_cons, List.zip_nil_left, List.zip_nil_right, List.foldl_cons, List.foldl_nil, Nat.reduceAdd, Nat.reduceSub, Nat.zero_add, Nat.add_zero, Nat.reduceLeDiff, true_and, and_true, if_true, Bool.false_eq_true, if_false]
    refine picki_then (ys := [0, 0, x, g - 1]) hp4 (by omega) (by simp) (by simp) fun z p5 hp5 hz => ?_
    have hz : 0 ≤ z ∧ z < g := by
      simp only [List.mem_cons, List.not_mem_nil, or_false] at hz
      omega
    try simp only [wr_ok, w_var, w_c, w_p, w_nil, w_cons, w_call, w_tup, w_lst, w_lstC, w_dicC, w_B, w_and, w_or, w_not, w_andV, w_orV, w_if, w_chain, w_fld, w_meth, w_make, w_bm, w_rev, w_sortIt, w_get2, w_callV,
  w_next, w_seq, w_drop, w_ret, w_retN, w_break, w_cont, w_ifS, w_asg, w_gname, w_gsub, w_gtup, w_gnil, w_gcons, w_par, w_setFld, w_while, w_for, w_items, w_range1, w_lc, w_yes, w_def,
  der_int, der_bl, der_str, der_lst, der_frl, der_tup, der_dic, der_non, der_obj, der_raw, p_add, p_sub, p_mul, p_fdiv, p_mod, p_pow, p_neg, p_cmp, p_abs, p_min2, p_max2, p_eqI, p_notB, p_lenL, p_lenT, p_listL, newL_w, newLC_w, p_ixL, p_ixT,
  List.map_cons, List.map_nil, List.length_cons, List.length_nil, List.replicate_zero, List.replicate_succ, List.replicate, List.cons_append, List.nil_append, List.append_nil, List.getElem?_cons_zero, List.getElem?_cons_succ, List.set_cons_zero, List.set_cons_succ,
  List.zip_cons_cons, List.zip_nil_left, List.zip_nil_right, List.foldl_cons, List.foldl_nil, Nat.reduceAdd, Nat.reduceSub, Nat.zero_add, Nat.add_zero, Nat.reduceLeDiff, true_and, and_true, if_true, Bool.false_eq_true, if_false, der_c1, isT_lst, p_append1]
    refine ⟨⟨big_of (by omega), big_of (by omega)⟩, ⟨big_of (by omega), big_of (by omega)⟩, by rw [List.length_map, hl]; unfold cap; omega, by omega, p5, ss ++ [(a + (i : Int) * g, a + ((i : Int) + b) * g - z)], _, _, ⟨rfl, by simp [pairD]⟩, hp5.mono (by omega), by simp [hl], fun s h => ?_⟩
    rcases List.mem_append.mp h with h | h
    · exact hs s h
    · rw [List.mem_singleton.mp h]; simp only; omega
  · rintro δ τ ⟨him, p3, ss, o7, o8, ⟨rfl, rfl⟩, hp3, hl, hs⟩
    simp only [List.length_map, List.length_range] at hp3 hl
    try simp only [wr_ok, w_var, w_c, w_p, w_nil, w_cons, w_call, w_tup, w_lst, w_lstC, w_dicC, w_B, w_and, w_or, w_not, w_andV, w_orV, w_if, w_chain, w_fld, w_meth, w_make, w_bm, w_rev, w_sortIt, w_get2, w_callV,
  w_next, w_seq, w_drop, w_ret, w_retN, w_break, w_cont, w_ifS, w_asg, w_gname, w_gsub, w_gtup, w_gnil, w_gcons, w_par, w_setFld, w_while, w_for, w_items, w_range1, w_lc, w_yes, w_def,
  der_int, der_bl, der_str, der_lst, der_frl, der_tup, der_dic, der_non, der_obj, der_raw, p_add, p_sub, p_mul, p_fdiv, p_mod, p_pow, p_neg, p_cmp, p_abs, p_min2, p_max2, p_eqI, p_notB, p_lenL, p_lenT, p_listL, newL_w, newLC_w, p_ixL, p_ixT,
  List.map_cons, List.map_nil, List.length_cons, List.length_nil, List.replicate_zero, List.replicate_succ, List.replicate, List.cons_append, List.nil_append, List.append_nil, List.getElem?_cons_zero, List.getElem?_cons_succ, List.set_cons_zero, List.set_cons_succ,
  List.zip_cons_cons, List.zip_nil_left, List.zip_nil_right, List.foldl_cons, List.foldl_nil, Nat.reduceAdd, Nat.reduceSub, Nat.zero_add, Nat.add_zero, Nat.reduceLeDiff, true_and, and_true, if_true, Bool.false_eq_true, if_false]
    refine ⟨⟨big_of (by omega), big_of (by omega)⟩, .tup [.int (m * g), .lst (ss.map pairD)], ?_, older_pen hp3.pla, by simpa using K (m * g) ss p3 (hp3.mono (by omega)) ⟨by omega, by omega, by omega, by omega, hs⟩⟩
    have e : celF (r.length + 1) (p3 :: (r ++ [.lst (ss.map pairD)])) 6 (r.length + 1) = some (.lst (ss.map pairD)) := celF_last (pla_pairs _)
    simp [frzD, frzL, e]
theorem regular_map_then (hp : PenOk B p) (hB : B + 4000 ≤ 10 ^ 12) (K : ∀ n (ss : List (Int × Int)) p', PenOk (B + 3000) p' → OrbM n ss → Φ (.tup [.int n, .lst (ss.map pairD)]) (p' :: r)) : WR (m__law_regular_map [.cell 0] (p :: r)) Φ := by
  unfold m__law_regular_map b__law_regular_map
  try simp only [wr_ok, w_var, w_c, w_p, w_nil, w_cons, w_call, w_tup, w_lst, w_lstC, w_dicC, w_B, w_and, w_or, w_not, w_andV, w_orV, w_if, w_chain, w_fld, w_meth, w_make, w_bm, w_rev, w_sortIt, w_get2, w_callV,
  w_next, w_seq, w_drop, w_ret, w_retN, w_break, w_cont, w_ifS, w_asg, w_gname, w_gsub, w_gtup, w_gnil, w_gcons, w_par, w_setFld, w_while, w_for, w_items, w_range1, w_lc, w_yes, w_def,
  der_int, der_bl, der_str, der_lst, der_frl, der_tup, der_dic, der_non, der_obj, der_raw, p_add, p_sub, p_mul, p_fdiv, p_mod, p_pow, p_neg, p_cmp, p_abs, p_min2, p_max2, p_eqI, p_notB, p_lenL, p_lenT, p_listL, newL_w, newLC_w, p_ixL, p_ixT,
  List.map_cons, List.map_nil, List.length_cons, List.length_nil, List.replicate_zero, List.replicate_succ, List.replicate, List.cons_append, List.nil_append, List.append_nil, List.getElem?_cons_zero, List.getElem?_cons_succ, List.set_cons_zero, List.set_cons_succ,
  List.zip_cons_cons, List.zip_nil_left, List.zip_nil_right, List.foldl_cons, List.foldl_nil, Nat.reduceAdd, Nat.reduceSub, Nat.zero_add, Nat.add_zero, Nat.reduceLeDiff, true_and, and_true, if_true, Bool.false_eq_true, if_false]
  refine picki_then (ys := [4, 12, 40]) hp (by omega) (by decide) (by decide) fun k p1 hp1 hk => ?_
  have hk : k = 4 ∨ k = 12 ∨ k = 40 := by simpa using hk
  refine even_map_then hp1 (by omega) (by omega) (by omega) fun n ss p2 hp2 M => ?_
  try simp only [wr_ok, w_var, w_c, w_p, w_nil, w_cons, w_call, w_tup, w_lst, w_lstC, w_dicC, w_B, w_and, w_or, w_not, w_andV, w_orV, w_if, w_chain, w_fld, w_meth, w_make, w_bm, w_rev, w_sortIt, w_get2, w_callV,
  w_next, w_seq, w_drop, w_ret, w_retN, w_break, w_cont, w_ifS, w_asg, w_gname, w_gsub, w_gtup, w_gnil, w_gcons, w_par, w_setFld, w_while, w_for, w_items, w_range1, w_lc, w_yes, w_def,
  der_int, der_bl, der_str, der_lst, der_frl, der_tup, der_dic, der_non, der_obj, der_raw, p_add, p_sub, p_mul, p_fdiv, p_mod, p_pow, p_neg, p_cmp, p_abs, p_min2, p_max2, p_eqI, p_notB, p_lenL, p_lenT, p_listL, newL_w, newLC_w, p_ixL, p_ixT,
  List.map_cons, List.map_nil, List.length_cons, List.length_nil, List.replicate_zero, List.replicate_succ, List.replicate, List.cons_append, List.nil_append, List.append_nil, List.getElem?_cons_zero, List.getElem?_cons_succ, List.set_cons_zero, List.set_cons_succ,
  List.zip_cons_cons, List.zip_nil_left, List.zip_nil_right, List.foldl_cons, List.foldl_nil, Nat.reduceAdd, Nat.reduceSub, Nat.zero_add, Nat.add_zero, Nat.reduceLeDiff, true_and, and_true, if_true, Bool.false_eq_true, if_false]
  exact K n ss p2 (hp2.mono (by omega)) M
theorem find_tbl {x : PySem.Addr} : ∀ {tbl : List (PySem.Addr × Pr)}, x ∈ tbl.map (·.1) → ∃ q, q ∈ tbl ∧ tbl.find? (fun p => p.1 == x) = some q
  | [], h => nomatch h
  | q :: tbl, h => by
    by_cases e : q.1 = x
    · exact ⟨q, List.mem_cons_self, by rw [List.find?_cons_of_pos (by simpa using e)]⟩
    · have h' : x ∈ tbl.map (·.1) := by
        rcases List.mem_cons.mp h with h | h
        · exact absurd h.symm e
        · exact h
      obtain ⟨q', h1, h2⟩ := find_tbl h'
      exact ⟨q', List.mem_cons_of_mem _ h1, by rw [List.find?_cons_of_neg (by simpa using e)]; exact h2⟩
theorem orbit_map_then {a1 a2 a3 a4 a5 : PySem.Addr} (hp : PenOk B p) (hB : B + 8000 ≤ 10 ^ 12) (K : ∀ n (ss : List (Int × Int)) p', PenOk (B + 7000) p' → OrbM n ss → Φ (.tup [.int n, .lst (ss.map pairD)]) (p' :: r)) : WR (m__law_orbit_map_k25 a1 a2 a3 a4 a5 [.cell 0] (p :: r)) Φ := by
  have ok : ∀ {q : D}, PenOk (B + 1) q → ∀ t ∈ ([(a5, m__law_wide_map), (a1, m__law_far_map), (a4, m__law_small), (a2, m__law_great_map), (a3, m__law_regular_map)] : List (PySem.Addr × Pr)), WR (t.2 [.cell 0] (q :: r)) Φ := by
    intro q hq t ht
    simp only [List.mem_cons, List.not_mem_nil, or_false] at ht
    rcases ht with rfl | rfl | rfl | rfl | rfl
    · exact wide_map_then hq (by omega) fun n ss p' h m => K n ss p' (h.mono (by omega)) m
    · exact far_map_then hq (by omega) fun n ss p' h m => K n ss p' (h.mono (by omega)) m
    · exact small_then hq (by omega) fun n ss p' h m => K n ss p' (h.mono (by omega)) m.orb
    · exact great_map_then hq (by omega) fun n ss p' h m => K n ss p' (h.mono (by omega)) m.orb
    · exact regular_map_then hq (by omega) fun n ss p' h m => K n ss p' (h.mono (by omega)) m
  generalize htb : ([(a5, m__law_wide_map), (a1, m__law_far_map), (a4, m__law_small), (a2, m__law_great_map), (a3, m__law_regular_map)] : List (PySem.Addr × Pr)) = tbl at ok
  have keys : ∀ x, x = a1 ∨ x = a2 ∨ x = a3 ∨ x = a4 ∨ x = a5 → x ∈ tbl.map (·.1) := fun x hx => by
    rw [← htb]
    simp only [List.map_cons, List.map_nil, List.mem_cons, List.not_mem_nil, or_false]
    rcases hx with h | h | h | h | h <;> simp [h]
  unfold m__law_orbit_map_k25 b__law_orbit_map_k25
  rw [htb]
  try simp only [wr_ok, w_var, w_c, w_p, w_nil, w_cons, w_call, w_tup, w_lst, w_lstC, w_dicC, w_B, w_and, w_or, w_not, w_andV, w_orV, w_if, w_chain, w_fld, w_meth, w_make, w_bm, w_rev, w_sortIt, w_get2, w_callV,
  w_next, w_seq, w_drop, w_ret, w_retN, w_break, w_cont, w_ifS, w_asg, w_gname, w_gsub, w_gtup, w_gnil, w_gcons, w_par, w_setFld, w_while, w_for, w_items, w_range1, w_lc, w_yes, w_def,
  der_int, der_bl, der_str, der_lst, der_frl, der_tup, der_dic, der_non, der_obj, der_raw, p_add, p_sub, p_mul, p_fdiv, p_mod, p_pow, p_neg, p_cmp, p_abs, p_min2, p_max2, p_eqI, p_notB, p_lenL, p_lenT, p_listL, newL_w, newLC_w, p_ixL, p_ixT,
  List.map_cons, List.map_nil, List.length_cons, List.length_nil, List.replicate_zero, List.replicate_succ, List.replicate, List.cons_append, List.nil_append, List.append_nil, List.getElem?_cons_zero, List.getElem?_cons_succ, List.set_cons_zero, List.set_cons_succ,
  List.zip_cons_cons, List.zip_nil_left, List.zip_nil_right, List.foldl_cons, List.foldl_nil, Nat.reduceAdd, Nat.reduceSub, Nat.zero_add, Nat.add_zero, Nat.reduceLeDiff, true_and, and_true, if_true, Bool.false_eq_true, if_false, p_addL]
  refine ⟨by decide, ?_⟩
  refine pick_then hp (by omega) (by simp) (by simp) fun d p1 hp1 hd => ?_
  have hd : ∃ x, d = .raw (.ref x) ∧ (x = a1 ∨ x = a2 ∨ x = a3 ∨ x = a4 ∨ x = a5) := by
    simp only [List.cons_append, List.nil_append, List.mem_cons, List.not_mem_nil, or_false] at hd
    rcases hd with rfl | rfl | rfl | rfl | rfl | rfl | rfl | rfl | rfl <;> exact ⟨_, rfl, by simp⟩
  obtain ⟨x, rfl, hx⟩ := hd
  obtain ⟨q, hq, hf⟩ := find_tbl (keys x hx)
  try simp only [wr_ok, w_var, w_c, w_p, w_nil, w_cons, w_call, w_tup, w_lst, w_lstC, w_dicC, w_B, w_and, w_or, w_not, w_andV, w_orV, w_if, w_chain, w_fld, w_meth, w_make, w_bm, w_rev, w_sortIt, w_get2, w_callV,
  w_next, w_seq, w_drop, w_ret, w_retN, w_break, w_cont, w_ifS, w_asg, w_gname, w_gsub, w_gtup, w_gnil, w_gcons, w_par, w_setFld, w_while, w_for, w_items, w_range1, w_lc, w_yes, w_def,
  der_int, der_bl, der_str, der_lst, der_frl, der_tup, der_dic, der_non, der_obj, der_raw, p_add, p_sub, p_mul, p_fdiv, p_mod, p_pow, p_neg, p_cmp, p_abs, p_min2, p_max2, p_eqI, p_notB, p_lenL, p_lenT, p_listL, newL_w, newLC_w, p_ixL, p_ixT,
  List.map_cons, List.map_nil, List.length_cons, List.length_nil, List.replicate_zero, List.replicate_succ, List.replicate, List.cons_append, List.nil_append, List.append_nil, List.getElem?_cons_zero, List.getElem?_cons_succ, List.set_cons_zero, List.set_cons_succ,
  List.zip_cons_cons, List.zip_nil_left, List.zip_nil_right, List.foldl_cons, List.foldl_nil, Nat.reduceAdd, Nat.reduceSub, Nat.zero_add, Nat.add_zero, Nat.reduceLeDiff, true_and, and_true, if_true, Bool.false_eq_true, if_false, hf]
  exact ok hp1 q hq
end
end DL

namespace DL
open PySem L2
section
variable {B n : Int} {p : D} {r τ : List D} {δ : DEnv} {Φ : D → List D → Prop} {C T : PySem.Addr}
end
end DL

namespace DL
open PySem L2
theorem OrbM.svs {n : Int} {ss : List (Int × Int)} (M : OrbM n ss) : Svs ss := ⟨M.s1, by have := M.s2; omega, M.sv⟩
theorem OrbM.bd {n : Int} {ss rows : List (Int × Int)} (M : OrbM n ss) (R : Rows n ss rows) : Bd (10 ^ 32) rows := fun k hk => by
  have := bd_of (M := 10 ^ 30) R M.n1 M.sv k hk
  have := M.n2
  omega
theorem OrbM.rows {n : Int} {ss : List (Int × Int)} (M : OrbM n ss) : ∀ s ∈ ss, s.1.natAbs ≤ 10 ^ 99 := fun s hs => by
  have := M.sv s hs
  omega
section
variable {B n : Int} {p : D} {r τ : List D} {δ : DEnv} {Φ : D → List D → Prop} {C T : PySem.Addr}
end
end DL

namespace DL
open PySem L2
section
variable {B n : Int} {p : D} {r τ : List D} {δ : DEnv} {Φ : D → List D → Prop} {C T : PySem.Addr}
theorem rot_hB {W : Int} {rows : List (Int × Int)} (M : Mp n rows) (n1 : 1 ≤ n) (n2 : n ≤ 10 ^ 20) (b : Bd W rows) (hW : W ≤ 10 ^ 32) : ∀ k : Nat, k ≤ 1002 → (itr (DL.val n rows) k 0).natAbs ≤ 10 ^ 60 := fun k hk => by
  have ib := itr_bound M n1 b k 0
  have W0 := Bd.nn M b
  have : (k : Int) * (W + 2 * n) ≤ 1002 * (10 ^ 32 + 2 * 10 ^ 20) := Int.mul_le_mul (by omega) (by omega) (by omega) (by decide)
  omega
theorem rotation_of {W : Int} {rows : List (Int × Int)} (M : Mp n rows) (n1 : 1 ≤ n) (n2 : n ≤ 10 ^ 20) (hl : rows.length ≤ 1000) (b : Bd W rows) (hW : W ≤ 10 ^ 32)
    (K : ∀ k s, Orb n (DL.val n rows) 0 k s → k ≤ 1001 → Φ (frD ((itr (DL.val n rows) k 0 - itr (DL.val n rows) s 0) / n) (k - s)) τ) : WR (m_rotation C T [.obj C (mapF n rows)] τ) Φ :=
  rotation_then M n1 (by omega) hl (fun k hk => by have := rot_hB M n1 n2 b hW k hk; omega) K
theorem law_rotation_of {W : Int} {ss rows : List (Int × Int)} (R : Rows n ss rows) (n1 : 1 ≤ n) (n2 : n ≤ 10 ^ 20) (h2 : ss.length ≤ 1000) (hs : ∀ s ∈ ss, s.1.natAbs ≤ 10 ^ 99) (b : Bd W rows) (hW : W ≤ 10 ^ 32)
    (K : ∀ k s, Orb n (DL.val n rows) 0 k s → k ≤ 1001 → Φ (frD ((itr (DL.val n rows) k 0 - itr (DL.val n rows) s 0) / n) (k - s)) τ) : WR (m__law_rotation [.int n, .lst (ss.map pairD)] τ) Φ := by
  have h1 : 1 ≤ ss.length := by
    obtain ⟨k, hk⟩ := List.exists_mem_of_ne_nil _ R.ne
    obtain ⟨s, hs, _⟩ := R.sub k hk
    exact List.length_pos_of_mem hs
  have lr := R.len
  refine law_rotation_then (rows := rows) (f := DL.val n rows) n1 (by omega) h1 h2 (fun s h => by have := hs s h; omega) (by omega) (fun k hk => by have := rot_hB R.mp n1 n2 b hW k hk; omega) (fun t v hv => val_of R n1 hv) (fun t => ?_) K
  obtain ⟨k, hk, q, _, h⟩ := R.mp.next n1 t
  exact ⟨k, hk, q, h⟩
/-- the fraction is small -/
theorem fr_small {W : Int} {rows : List (Int × Int)} {k s : Nat} (M : Mp n rows) (n1 : 1 ≤ n) (n2 : n ≤ 10 ^ 20) (b : Bd W rows) (hW : W ≤ 10 ^ 32) (O : Orb n (DL.val n rows) 0 k s) (hk : k ≤ 1001) :
    ∃ x y : Int, frD ((itr (DL.val n rows) k 0 - itr (DL.val n rows) s 0) / n) (k - s) = .tup [.int x, .int y] ∧ x.natAbs < 10 ^ 300 ∧ y.natAbs < 10 ^ 300 := by
  have lt := O.lt
  have b1 := rot_hB M n1 n2 b hW k (by omega)
  have b2 := rot_hB M n1 n2 b hW s (by omega)
  have h := Int.natAbs_ediv_le_natAbs (itr (DL.val n rows) k 0 - itr (DL.val n rows) s 0) n
  have h2 : (((itr (DL.val n rows) k 0 - itr (DL.val n rows) s 0) / n)).natAbs ≤ 2 * 10 ^ 60 := by omega
  refine ⟨_, _, rfl, ?_, ?_⟩
  · have := Int.natAbs_ediv_le_natAbs ((itr (DL.val n rows) k 0 - itr (DL.val n rows) s 0) / n) (Int.gcd ((itr (DL.val n rows) k 0 - itr (DL.val n rows) s 0) / n) (k - s) : Nat)
    exact Nat.lt_of_le_of_lt (Nat.le_trans this h2) (by decide)
  · have := Int.natAbs_ediv_le_natAbs ((k : Int) - s) (Int.gcd ((itr (DL.val n rows) k 0 - itr (DL.val n rows) s 0) / n) (k - s) : Nat)
    exact Nat.lt_of_le_of_lt (Nat.le_trans this (show ((k : Int) - s).natAbs ≤ 1001 by omega)) (by decide)
theorem repr_pair {s : Int × Int} (h : Sml s) : WR (pReprD [pairD s] τ) Φ = Φ (.str (PyData.shown (pairP s))) τ := by
  have h1 := showable_pairs (ss := [s]) (by simpa using h)
  have h2 := hasDict_pairs [s]
  have h3 := depth_pairs [s]
  have h4 := bulk_pairs [s]
  have h5 := short_pairs (ss := [s]) (by simpa using h)
  simp only [List.map_cons, List.map_nil, PyData.showableAll, PyData.hasDictAll, PyData.depthAll, PyData.bulkAll, PyData.leavesShortAll, Bool.and_true, Bool.or_false, List.length_cons, List.length_nil] at h1 h2 h3 h4 h5
  have b := PyData.shown_le_bulk 301 (by decide) (pairP s) h5
  have hc : (PyData.shown (pairP s)).length ≤ cap := by unfold cap; omega
  unfold pReprD pairD
  simp only [der_tup]
  show WR (match toPs [.int s.1, .int s.2] with
      | some ps => if PyData.showable (.tuple ps) = true ∧ PyData.hasDict (.tuple ps) = false ∧ PyData.depth (.tuple ps) ≤ 60 ∧ (PyData.shown (.tuple ps)).length ≤ cap then R.ok (.str (PyData.shown (.tuple ps))) τ else .bad
      | none => .bad) Φ = _
  have e : toPs [.int s.1, .int s.2] = some [.int s.1, .int s.2] := rfl
  rw [e]
  simp only
  rw [if_pos ⟨h1, h2, Nat.le_trans (show PyData.depth (pairP s) ≤ 2 by omega) (by decide), hc⟩]; with_unfolding_all rfl
end
end DL

namespace DL
open PySem L2
def top (i : Nat) : Stmt := PySem.Challenge.pw_stepmaps_k27_rotations_of_maps.main.body.getD i (.Pass ⟨0, 0, 0, 0⟩)
/-! is_int -/
abbrev s_is_int : Stmt := (top 4)
abbrev N_is_int : List Str := ["value"]
theorem sc_is_int : FnScope N_is_int ["value"] (defScope s_is_int) := ⟨rfl, rfl, rfl, by decide +kernel, rfl, by decide +kernel, by decide +kernel⟩
theorem ok_is_int {P : Program} {w : World} {K : PySem.W.Frag} {mg : Str → Option Value} {base : Heap} {fa : Addr} {fd : FuncData} (F : FD K "is_int" "is_int" s_is_int [] fa fd)
    (b_int : mg "int" = none)
    (b_isinstance : mg "isinstance" = none)
    (b_bool : mg "bool" = none) :
    FnG P w K mg base CX0 1 fa fd ["value"] (spD K 1 (m_is_int)) :=
  by
  refine fnDD (N := N_is_int) (ps := ["value"]) (k := 0) (body := b_is_int) F sc_is_int fun cdv A outer s H E hr ga => ?_
  have hu1 := hu_of hr
  have hu := hu64_of hr
  exact (dss_one (ds_ret (de_and (de_callB o_isi b_isinstance rfl (pa_consD (de_var 0) (pa_consD (de_bltn (w := .ty "int") b_int rfl rfl) pa_nilD))) (de_one (de_not (de_callB o_isi b_isinstance rfl (pa_consD (de_var 0) (pa_consD (de_bltn (w := .ty "bool") b_bool rfl rfl) pa_nilD))))))))
/-! is_int_in -/
abbrev s_is_int_in : Stmt := (top 5)
abbrev N_is_int_in : List Str := ["value", "low", "high"]
theorem sc_is_int_in : FnScope N_is_int_in ["value", "low", "high"] (defScope s_is_int_in) := ⟨rfl, rfl, rfl, by decide +kernel, rfl, by decide +kernel, by decide +kernel⟩
theorem ok_is_int_in {P : Program} {w : World} {K : PySem.W.Frag} {mg : Str → Option Value} {base : Heap} {fa : Addr} {fd : FuncData} (F : FD K "is_int_in" "is_int_in" s_is_int_in [] fa fd)
    (h_is_int : DFn P w K mg base CX0 1 "is_int" 1 (m_is_int) []) :
    FnG P w K mg base CX0 2 fa fd ["value", "low", "high"] (spD K 3 (m_is_int_in)) :=
  by
  refine fnDD (N := N_is_int_in) (ps := ["value", "low", "high"]) (k := 1) (body := b_is_int_in) F sc_is_int_in fun cdv A outer s H E hr ga => ?_
  have hu1 := hu_of hr
  have hu := hu64_of hr
  exact (dss_one (ds_ret (de_and (de_call h_is_int hr (by decide) ga passD (pa_consD (de_var 0) pa_nilD)) (de_one (de_chain o_le o_le (de_var 1) (de_var 0) (de_var 2))))))
/-! is_service -/
abbrev s_is_service : Stmt := (top 12)
abbrev N_is_service : List Str := ["value", "time"]
theorem sc_is_service : FnScope N_is_service ["value"] (defScope s_is_service) := ⟨rfl, rfl, rfl, by decide +kernel, rfl, by decide +kernel, by decide +kernel⟩
theorem ok_is_service {P : Program} {w : World} {K : PySem.W.Frag} {mg : Str → Option Value} {base : Heap} {fa : Addr} {fd : FuncData} (F : FD K "is_service" "is_service" s_is_service [] fa fd)
    (b_tuple : mg "tuple" = none)
    (b_isinstance : mg "isinstance" = none)
    (b_len : mg "len" = none)
    (h_is_int_in : DFn P w K mg base CX0 2 "is_int_in" 3 (m_is_int_in) [])
    (g_MAX_SERVICE_TIME : ∃ t, mg "MAX_SERVICE_TIME" = some (.int (1000000000000000000000000000000) t))
    (b_all : mg "all" = none) :
    FnG P w K mg base CX0 3 fa fd ["value"] (spD K 1 (m_is_service)) :=
  by
  refine fnDD (N := N_is_service) (ps := ["value"]) (k := 2) (body := b_is_service) F sc_is_service fun cdv A outer s H E hr ga => ?_
  have hu1 := hu_of hr
  have hu := hu64_of hr
  exact (dss_cons (ds_if (dw_or (dt_not (dt_val (de_callB o_isi b_isinstance rfl (pa_consD (de_var 0) (pa_consD (de_bltn (w := .ty "tuple") b_tuple rfl rfl) pa_nilD))))) (dw_or1 (dt_cmp (o_ne hu) (de_callB o_len b_len rfl (pa_consD (de_var 0) pa_nilD)) de_int))).pt (dss_one (ds_ret de_bl)) dss_nil)
    (dss_one (ds_ret (de_callB (o_all rfl) b_all rfl (pa_consD (de_lc (own := [("time", 1)]) rfl sc_is_service.nd (di_seq (de_var 0)) (blkOk_by (own := [("time", 1)]) (N := N_is_service) (sc := defScope s_is_service) (by decide +kernel)) (fun _ _ _ _ _ => (dgc_name 1 sc_is_service.nd)) (fun _ _ _ _ _ => dts_nil) (fun _ _ _ _ _ => (de_call h_is_int_in hr (by decide) ga passD (pa_consD (de_var 1) (pa_consD (de_un o_neg (de_glob (v := .int (1000000000000000000000000000000)) g_MAX_SERVICE_TIME.choose_spec ⟨_, rfl⟩ (fun _ _ _ => .int _))) (pa_consD (de_glob (v := .int (1000000000000000000000000000000)) g_MAX_SERVICE_TIME.choose_spec ⟨_, rfl⟩ (fun _ _ _ => .int _)) pa_nilD)))))) pa_nilD)))))
/-! are_services -/
abbrev s_are_services : Stmt := (top 13)
abbrev N_are_services : List Str := ["value", "most", "least", "service"]
theorem sc_are_services : FnScope N_are_services ["value", "most", "least"] (defScope s_are_services) := ⟨rfl, rfl, rfl, by decide +kernel, rfl, by decide +kernel, by decide +kernel⟩
theorem ok_are_services {P : Program} {w : World} {K : PySem.W.Frag} {mg : Str → Option Value} {base : Heap} {fa : Addr} {fd : FuncData} (F : FD K "are_services" "are_services" s_are_services [.int 0] fa fd)
    (b_list : mg "list" = none)
    (b_tuple : mg "tuple" = none)
    (b_isinstance : mg "isinstance" = none)
    (b_len : mg "len" = none)
    (h_is_service : DFn P w K mg base CX0 3 "is_service" 1 (m_is_service) [])
    (b_all : mg "all" = none) :
    FnG P w K mg base CX0 4 fa fd ["value", "most", "least"] (spD K 3 (m_are_services)) :=
  by
  refine fnDD (N := N_are_services) (ps := ["value", "most", "least"]) (k := 3) (body := b_are_services) F sc_are_services fun cdv A outer s H E hr ga => ?_
  have hu1 := hu_of hr
  have hu := hu64_of hr
  exact (dss_cons (ds_if (dw_or (dt_not (dt_val (de_callB o_isi b_isinstance rfl (pa_consD (de_var 0) (pa_consD (de_tup (pa_consD (de_bltn (w := .ty "list") b_list rfl rfl) (pa_consD (de_bltn (w := .ty "tuple") b_tuple rfl rfl) pa_nilD))) pa_nilD))))) (dw_or1 (dt_not (dt_chain o_le o_le (de_var 2) (de_callB o_len b_len rfl (pa_consD (de_var 0) pa_nilD)) (de_var 1))))).pt (dss_one (ds_ret de_bl)) dss_nil)
    (dss_one (ds_ret (de_callB (o_all rfl) b_all rfl (pa_consD (de_lc (own := [("service", 3)]) rfl sc_are_services.nd (di_seq (de_var 0)) (blkOk_by (own := [("service", 3)]) (N := N_are_services) (sc := defScope s_are_services) (by decide +kernel)) (fun _ _ _ _ _ => (dgc_name 3 sc_are_services.nd)) (fun _ _ _ _ _ => dts_nil) (fun _ _ _ _ _ => (de_call h_is_service hr (by decide) ga passD (pa_consD (de_var 3) pa_nilD)))) pa_nilD)))))
/-! in_first_period -/
abbrev s_in_first_period : Stmt := (top 14)
abbrev N_in_first_period : List Str := ["service", "period", "departure", "arrival"]
theorem sc_in_first_period : FnScope N_in_first_period ["service", "period"] (defScope s_in_first_period) := ⟨rfl, rfl, rfl, by decide +kernel, rfl, by decide +kernel, by decide +kernel⟩
theorem ok_in_first_period {P : Program} {w : World} {K : PySem.W.Frag} {mg : Str → Option Value} {base : Heap} {fa : Addr} {fd : FuncData} (F : FD K "in_first_period" "in_first_period" s_in_first_period [] fa fd) :
    FnG P w K mg base CX0 1 fa fd ["service", "period"] (spD K 2 (m_in_first_period)) :=
  by
  refine fnDD (N := N_in_first_period) (ps := ["service", "period"]) (k := 0) (body := b_in_first_period) F sc_in_first_period fun cdv A outer s H E hr ga => ?_
  have hu1 := hu_of hr
  have hu := hu64_of hr
  exact (dss_cons (ds_asg (de_var 0) (dg_tup rfl (dgs_cons (dg_name 2 sc_in_first_period.nd) (dgs_cons (dg_name 3 sc_in_first_period.nd) dgs_nil))))
    (dss_one (ds_ret (de_tup (pa_consD (de_op o_mod (de_var 2) (de_var 1)) (pa_consD (de_op o_sub (de_var 3) (de_op (o_mul (c := false)) (de_op o_fdiv (de_var 2) (de_var 1)) (de_var 1))) pa_nilD))))))
/-! needed_steps -/
abbrev s_needed_steps : Stmt := (top 15)
abbrev N_needed_steps : List Str := ["period", "services", "best", "service", "departure", "arrival", "rows", "limit", "kept"]
theorem sc_needed_steps : FnScope N_needed_steps ["period", "services"] (defScope s_needed_steps) := ⟨rfl, rfl, rfl, by decide +kernel, rfl, by decide +kernel, by decide +kernel⟩
theorem ok_needed_steps {P : Program} {w : World} {K : PySem.W.Frag} {mg : Str → Option Value} {base : Heap} {fa : Addr} {fd : FuncData} (F : FD K "needed_steps" "needed_steps" s_needed_steps [] fa fd)
    (h_in_first_period : DFn P w K mg base CX0 1 "in_first_period" 2 (m_in_first_period) [])
    (b_min : mg "min" = none)
    (b_sorted : mg "sorted" = none) :
    FnG P w K mg base CX0 2 fa fd ["period", "services"] (spD K 2 (m_needed_steps)) :=
  by
  refine fn_exit (g := dDef 9 (b_needed_steps)) ?_
  refine fnDD (N := N_needed_steps) (ps := ["period", "services"]) (k := 1) (body := b_needed_steps) F sc_needed_steps fun cdv A outer s H E hr ga => ?_
  have hu1 := hu_of hr
  have hu := hu64_of hr
  exact (dss_cons (ds_set 2 sc_needed_steps.nd de_dicC)
    (dss_cons (ds_for PassesOwn.never rfl (di_seq (de_var 1)) (dg_name 3 sc_needed_steps.nd) (dss_cons (ds_asg (de_call h_in_first_period hr (by decide) ga passD (pa_consD (de_var 3) (pa_consD (de_var 0) pa_nilD))) (dg_tup rfl (dgs_cons (dg_name 4 sc_needed_steps.nd) (dgs_cons (dg_name 5 sc_needed_steps.nd) dgs_nil))))
    (dss_one (ds_asg (de_callB (o_min rfl) b_min rfl (pa_consD (de_get2 hu1 (de_var 2) (de_var 4) (de_var 5)) (pa_consD (de_var 5) pa_nilD))) (dg_sub (o_set hu1) (de_var 2) (de_var 4))))))
    (dss_cons (ds_set 6 sc_needed_steps.nd (de_sortIt rfl hu b_sorted (de_var 2)))
    (dss_cons (ds_par (i := 7) (j := 8) rfl sc_needed_steps.nd (pa_consD (de_op (o_add (c := false)) (de_ix (o_ix hu1) (de_ix (o_ix hu1) (de_var 6) de_int) de_int) (de_var 0)) (pa_consD (de_lstC pa_nilD) pa_nilD)))
    (dss_cons (ds_for PassesOwn.never rfl (di_seq (de_rev (de_var 6))) (dg_tup rfl (dgs_cons (dg_name 4 sc_needed_steps.nd) (dgs_cons (dg_name 5 sc_needed_steps.nd) dgs_nil))) (dss_one (ds_if (dt_cmp o_lt (de_var 5) (de_var 7)) (dss_cons (ds_expr (de_bm PySem.F.plainAttrs_list PySem.F.slot_list_append PySem.F.type_list_append m_append (de_var 8) (pa_consD (de_tup (pa_consD (de_var 4) (pa_consD (de_var 5) pa_nilD))) pa_nilD)))
    (dss_one (ds_set 7 sc_needed_steps.nd (de_var 5)))) dss_nil)))
    (dss_cons (ds_while (fun _ _ => FUEL) PassesOwn.never (dt_cmp o_ge (de_ix (o_ix hu1) (de_ix (o_ix hu1) (de_var 8) de_int) de_int) (de_op (o_add (c := false)) (de_ix (o_ix hu1) (de_ix (o_ix hu1) (de_var 8) (de_un o_neg de_int)) de_int) (de_var 0))) (dss_one (ds_expr (de_bm PySem.F.plainAttrs_list PySem.F.slot_list_pop PySem.F.type_list_pop m_pop (de_var 8) (pa_consD de_int pa_nilD)))))
    (dss_one (ds_ret (de_rev (de_var 8))))))))))
/-! StepMap.__init__ -/
abbrev s_StepMap_init : Stmt := (inClass (top 16) 0)
abbrev N_StepMap_init : List Str := ["self", "period", "services"]
theorem sc_StepMap_init : FnScope N_StepMap_init ["self", "period", "services"] (defScope s_StepMap_init) := ⟨rfl, rfl, rfl, by decide +kernel, rfl, by decide +kernel, by decide +kernel⟩
theorem ok_StepMap_init {P : Program} {w : World} {K : PySem.W.Frag} {mg : Str → Option Value} {base : Heap} {c_StepMap : Addr} {fa : Addr} {fd : FuncData} (F : FD K "__init__" "StepMap.__init__" s_StepMap_init [] fa fd)
    (h_is_int_in : DFn P w K mg base CX0 2 "is_int_in" 3 (m_is_int_in) [])
    (g_MAX_PERIOD : ∃ t, mg "MAX_PERIOD" = some (.int (1000000000000000000) t))
    (h_are_services : DFn P w K mg base CX0 4 "are_services" 3 (m_are_services) [])
    (g_MAX_SERVICES : ∃ t, mg "MAX_SERVICES" = some (.int (200) t))
    (f_StepMap_length : DFl K c_StepMap "length")
    (h_needed_steps : DFn P w K mg base CX0 2 "needed_steps" 2 (m_needed_steps) [])
    (f_StepMap_rows : DFl K c_StepMap "rows") :
    FnG P w K mg base CX0 5 fa fd ["self", "period", "services"] (spD K 3 (m_StepMap_init c_StepMap)) :=
  by
  refine fnDD (N := N_StepMap_init) (ps := ["self", "period", "services"]) (k := 4) (body := b_StepMap_init c_StepMap) F sc_StepMap_init fun cdv A outer s H E hr ga => ?_
  have hu1 := hu_of hr
  have hu := hu64_of hr
  exact (dss_cons (ds_if (dt_not (dt_val (de_call h_is_int_in hr (by decide) ga passD (pa_consD (de_var 1) (pa_consD de_int (pa_consD (de_glob (v := .int (1000000000000000000)) g_MAX_PERIOD.choose_spec ⟨_, rfl⟩ (fun _ _ _ => .int _)) pa_nilD)))))) (dss_one ds_never) dss_nil)
    (dss_cons (ds_if (dt_not (dt_val (de_call h_are_services hr (by decide) ga passD (pa_consD (de_var 2) (pa_consD (de_glob (v := .int (200)) g_MAX_SERVICES.choose_spec ⟨_, rfl⟩ (fun _ _ _ => .int _)) (pa_consD de_int pa_nilD)))))) (dss_one ds_never) dss_nil)
    (dss_cons (ds_fld f_StepMap_length (de_var 0) (de_var 1))
    (dss_one (ds_fld f_StepMap_rows (de_var 0) (de_call h_needed_steps hr (by decide) ga passD (pa_consD (de_var 1) (pa_consD (de_var 2) pa_nilD))))))))
/-! gcd -/
abbrev s_gcd : Stmt := (top 6)
abbrev N_gcd : List Str := ["first", "second"]
theorem sc_gcd : FnScope N_gcd ["first", "second"] (defScope s_gcd) := ⟨rfl, rfl, rfl, by decide +kernel, rfl, by decide +kernel, by decide +kernel⟩
theorem ok_gcd {P : Program} {w : World} {K : PySem.W.Frag} {mg : Str → Option Value} {base : Heap} {fa : Addr} {fd : FuncData} (F : FD K "gcd" "gcd" s_gcd [] fa fd)
    (b_abs : mg "abs" = none) :
    FnG P w K mg base CX0 1 fa fd ["first", "second"] (spD K 2 (m_gcd)) :=
  by
  refine fnDD (N := N_gcd) (ps := ["first", "second"]) (k := 0) (body := b_gcd) F sc_gcd fun cdv A outer s H E hr ga => ?_
  have hu1 := hu_of hr
  have hu := hu64_of hr
  exact (dss_cons (ds_par (i := 0) (j := 1) rfl sc_gcd.nd (pa_consD (de_callB o_abs b_abs rfl (pa_consD (de_var 0) pa_nilD)) (pa_consD (de_callB o_abs b_abs rfl (pa_consD (de_var 1) pa_nilD)) pa_nilD)))
    (dss_cons (ds_while (fun _ _ => FUEL) PassesOwn.never (dt_cmp o_gt (de_var 1) de_int) (dss_one (ds_par (i := 0) (j := 1) rfl sc_gcd.nd (pa_consD (de_var 1) (pa_consD (de_op o_mod (de_var 0) (de_var 1)) pa_nilD)))))
    (dss_one (ds_ret (de_var 0)))))
/-! reduced -/
abbrev s_reduced : Stmt := (top 7)
abbrev N_reduced : List Str := ["numerator", "denominator", "divisor"]
theorem sc_reduced : FnScope N_reduced ["numerator", "denominator"] (defScope s_reduced) := ⟨rfl, rfl, rfl, by decide +kernel, rfl, by decide +kernel, by decide +kernel⟩
theorem ok_reduced {P : Program} {w : World} {K : PySem.W.Frag} {mg : Str → Option Value} {base : Heap} {fa : Addr} {fd : FuncData} (F : FD K "reduced" "reduced" s_reduced [] fa fd)
    (h_gcd : DFn P w K mg base CX0 1 "gcd" 2 (m_gcd) []) :
    FnG P w K mg base CX0 2 fa fd ["numerator", "denominator"] (spD K 2 (m_reduced)) :=
  by
  refine fnDD (N := N_reduced) (ps := ["numerator", "denominator"]) (k := 1) (body := b_reduced) F sc_reduced fun cdv A outer s H E hr ga => ?_
  have hu1 := hu_of hr
  have hu := hu64_of hr
  exact (dss_cons (ds_set 2 sc_reduced.nd (de_call h_gcd hr (by decide) ga passD (pa_consD (de_var 0) (pa_consD (de_var 1) pa_nilD))))
    (dss_one (ds_ret (de_tup (pa_consD (de_op o_fdiv (de_var 0) (de_var 2)) (pa_consD (de_op o_fdiv (de_var 1) (de_var 2)) pa_nilD))))))
/-! StepMap.step_index -/
abbrev s_StepMap_step_index : Stmt := (inClass (top 16) 5)
abbrev N_StepMap_step_index : List Str := ["self", "time", "offset", "low", "high", "middle"]
theorem sc_StepMap_step_index : FnScope N_StepMap_step_index ["self", "time"] (defScope s_StepMap_step_index) := ⟨rfl, rfl, rfl, by decide +kernel, rfl, by decide +kernel, by decide +kernel⟩
theorem ok_StepMap_step_index {P : Program} {w : World} {K : PySem.W.Frag} {mg : Str → Option Value} {base : Heap} {c_StepMap : Addr} {fa : Addr} {fd : FuncData} (F : FD K "step_index" "StepMap.step_index" s_StepMap_step_index [] fa fd)
    (f_StepMap_length : DFl K c_StepMap "length")
    (f_StepMap_rows : DFl K c_StepMap "rows")
    (b_len : mg "len" = none) :
    FnG P w K mg base CX0 1 fa fd ["self", "time"] (spD K 2 (m_StepMap_step_index c_StepMap)) :=
  by
  refine fnDD (N := N_StepMap_step_index) (ps := ["self", "time"]) (k := 0) (body := b_StepMap_step_index c_StepMap) F sc_StepMap_step_index fun cdv A outer s H E hr ga => ?_
  have hu1 := hu_of hr
  have hu := hu64_of hr
  exact (dss_cons (ds_par3 (i := 2) (j := 3) (l := 4) rfl sc_StepMap_step_index.nd (pa_consD (de_op o_mod (de_var 1) (de_fld f_StepMap_length (de_var 0))) (pa_consD de_int (pa_consD (de_callB o_len b_len rfl (pa_consD (de_fld f_StepMap_rows (de_var 0)) pa_nilD)) pa_nilD))))
    (dss_cons (ds_while (fun _ _ => FUEL) PassesOwn.never (dt_cmp o_lt (de_var 3) (de_var 4)) (dss_cons (ds_set 5 sc_StepMap_step_index.nd (de_op o_fdiv (de_op (o_add (c := false)) (de_var 3) (de_var 4)) de_int))
    (dss_one (ds_if (dt_cmp o_lt (de_ix (o_ix hu1) (de_ix (o_ix hu1) (de_fld f_StepMap_rows (de_var 0)) (de_var 5)) de_int) (de_var 2)) (dss_one (ds_set 3 sc_StepMap_step_index.nd (de_op (o_add (c := false)) (de_var 5) de_int))) (dss_one (ds_set 4 sc_StepMap_step_index.nd (de_var 5)))))))
    (dss_one (ds_ret (de_var 3)))))
/-! StepMap.apply -/
abbrev s_StepMap_apply : Stmt := (inClass (top 16) 6)
abbrev N_StepMap_apply : List Str := ["self", "time", "turns", "index"]
theorem sc_StepMap_apply : FnScope N_StepMap_apply ["self", "time"] (defScope s_StepMap_apply) := ⟨rfl, rfl, rfl, by decide +kernel, rfl, by decide +kernel, by decide +kernel⟩
theorem ok_StepMap_apply {P : Program} {w : World} {K : PySem.W.Frag} {mg : Str → Option Value} {base : Heap} {c_StepMap : Addr} {fa : Addr} {fd : FuncData} (F : FD K "apply" "StepMap.apply" s_StepMap_apply [] fa fd)
    (f_StepMap_length : DFl K c_StepMap "length")
    (h_StepMap_step_index : DMt P w K mg base CX0 1 c_StepMap "step_index" 2 (m_StepMap_step_index c_StepMap) [])
    (f_StepMap_rows : DFl K c_StepMap "rows")
    (b_len : mg "len" = none) :
    FnG P w K mg base CX0 2 fa fd ["self", "time"] (spD K 2 (m_StepMap_apply c_StepMap)) :=
  by
  refine fnDD (N := N_StepMap_apply) (ps := ["self", "time"]) (k := 1) (body := b_StepMap_apply c_StepMap) F sc_StepMap_apply fun cdv A outer s H E hr ga => ?_
  have hu1 := hu_of hr
  have hu := hu64_of hr
  exact (dss_cons (ds_par (i := 2) (j := 3) rfl sc_StepMap_apply.nd (pa_consD (de_op o_fdiv (de_var 1) (de_fld f_StepMap_length (de_var 0))) (pa_consD (de_meth h_StepMap_step_index hr (by decide) ga passD (de_var 0) (pa_consD (de_var 1) pa_nilD)) pa_nilD)))
    (dss_cons (ds_if (dt_cmp (o_eq hu) (de_var 3) (de_callB o_len b_len rfl (pa_consD (de_fld f_StepMap_rows (de_var 0)) pa_nilD))) (dss_one (ds_par (i := 2) (j := 3) rfl sc_StepMap_apply.nd (pa_consD (de_op (o_add (c := false)) (de_var 2) de_int) (pa_consD de_int pa_nilD)))) dss_nil)
    (dss_one (ds_ret (de_op (o_add (c := false)) (de_ix (o_ix hu1) (de_ix (o_ix hu1) (de_fld f_StepMap_rows (de_var 0)) (de_var 3)) de_int) (de_op (o_mul (c := false)) (de_var 2) (de_fld f_StepMap_length (de_var 0))))))))
/-! Track.__init__ -/
abbrev s_Track_init : Stmt := (inClass (top 18) 0)
abbrev N_Track_init : List Str := ["self", "mapping", "time", "seen"]
theorem sc_Track_init : FnScope N_Track_init ["self", "mapping", "time"] (defScope s_Track_init) := ⟨rfl, rfl, rfl, by decide +kernel, rfl, by decide +kernel, by decide +kernel⟩
theorem ok_Track_init {P : Program} {w : World} {K : PySem.W.Frag} {mg : Str → Option Value} {base : Heap} {c_StepMap : Addr} {c_Track : Addr} {fa : Addr} {fd : FuncData} (F : FD K "__init__" "Track.__init__" s_Track_init [] fa fd)
    (f_Track_times : DFl K c_Track "times")
    (f_StepMap_length : DFl K c_StepMap "length")
    (b_len : mg "len" = none)
    (h_StepMap_apply : DMt P w K mg base CX0 2 c_StepMap "apply" 2 (m_StepMap_apply c_StepMap) [])
    (f_Track_start : DFl K c_Track "start")
    (f_Track_gain : DFl K c_Track "gain") :
    FnG P w K mg base CX0 3 fa fd ["self", "mapping", "time"] (spD K 3 (m_Track_init c_StepMap c_Track)) :=
  by
  refine fnDD (N := N_Track_init) (ps := ["self", "mapping", "time"]) (k := 2) (body := b_Track_init c_StepMap c_Track) F sc_Track_init fun cdv A outer s H E hr ga => ?_
  have hu1 := hu_of hr
  have hu := hu64_of hr
  exact (dss_cons (ds_fld f_Track_times (de_var 0) (de_lstC pa_nilD))
    (dss_cons (ds_set 3 sc_Track_init.nd de_dicC)
    (dss_cons (ds_while (fun _ _ => FUEL) PassesOwn.never (dt_cmp (o_nin hu1) (de_op o_mod (de_var 2) (de_fld f_StepMap_length (de_var 1))) (de_var 3)) (dss_cons (ds_asg (de_callB o_len b_len rfl (pa_consD (de_fld f_Track_times (de_var 0)) pa_nilD)) (dg_sub (o_set hu1) (de_var 3) (de_op o_mod (de_var 2) (de_fld f_StepMap_length (de_var 1)))))
    (dss_cons (ds_expr (de_bm PySem.F.plainAttrs_list PySem.F.slot_list_append PySem.F.type_list_append m_append (de_fld f_Track_times (de_var 0)) (pa_consD (de_var 2) pa_nilD)))
    (dss_one (ds_set 2 sc_Track_init.nd (de_meth h_StepMap_apply hr (by decide) ga passD (de_var 1) (pa_consD (de_var 2) pa_nilD)))))))
    (dss_cons (ds_fld f_Track_start (de_var 0) (de_ix (o_ix hu1) (de_var 3) (de_op o_mod (de_var 2) (de_fld f_StepMap_length (de_var 1)))))
    (dss_one (ds_fld f_Track_gain (de_var 0) (de_op o_sub (de_var 2) (de_ix (o_ix hu1) (de_fld f_Track_times (de_var 0)) (de_fld f_Track_start (de_var 0))))))))))
/-! Track.turn -/
abbrev s_Track_turn : Stmt := (inClass (top 18) 1)
abbrev N_Track_turn : List Str := ["self"]
theorem sc_Track_turn : FnScope N_Track_turn ["self"] (defScope s_Track_turn) := ⟨rfl, rfl, rfl, by decide +kernel, rfl, by decide +kernel, by decide +kernel⟩
theorem ok_Track_turn {P : Program} {w : World} {K : PySem.W.Frag} {mg : Str → Option Value} {base : Heap} {c_Track : Addr} {fa : Addr} {fd : FuncData} (F : FD K "turn" "Track.turn" s_Track_turn [] fa fd)
    (f_Track_times : DFl K c_Track "times")
    (f_Track_start : DFl K c_Track "start") :
    FnG P w K mg base CX0 1 fa fd ["self"] (spD K 1 (m_Track_turn c_Track)) :=
  by
  refine fnDD (N := N_Track_turn) (ps := ["self"]) (k := 0) (body := b_Track_turn c_Track) F sc_Track_turn fun cdv A outer s H E hr ga => ?_
  have hu1 := hu_of hr
  have hu := hu64_of hr
  exact (dss_one (ds_ret (de_slice (de_fld f_Track_times (de_var 0)) (dpo_some (de_fld f_Track_start (de_var 0))) dpo_none)))
/-! rotation -/
abbrev s_rotation : Stmt := (top 19)
abbrev N_rotation : List Str := ["mapping", "track"]
theorem sc_rotation : FnScope N_rotation ["mapping"] (defScope s_rotation) := ⟨rfl, rfl, rfl, by decide +kernel, rfl, by decide +kernel, by decide +kernel⟩
theorem ok_rotation {P : Program} {w : World} {K : PySem.W.Frag} {mg : Str → Option Value} {base : Heap} {c_StepMap : Addr} {c_Track : Addr} {fa : Addr} {fd : FuncData} (F : FD K "rotation" "rotation" s_rotation [] fa fd)
    (k_Track : DMk P w K mg base CX0 3 "Track" c_Track 3 (m_Track_init c_StepMap c_Track) [])
    (h_reduced : DFn P w K mg base CX0 2 "reduced" 2 (m_reduced) [])
    (f_Track_gain : DFl K c_Track "gain")
    (f_StepMap_length : DFl K c_StepMap "length")
    (h_Track_turn : DMt P w K mg base CX0 1 c_Track "turn" 1 (m_Track_turn c_Track) [])
    (b_len : mg "len" = none) :
    FnG P w K mg base CX0 5 fa fd ["mapping"] (spD K 1 (m_rotation c_StepMap c_Track)) :=
  by
  refine fnDD (N := N_rotation) (ps := ["mapping"]) (k := 4) (body := b_rotation c_StepMap c_Track) F sc_rotation fun cdv A outer s H E hr ga => ?_
  have hu1 := hu_of hr
  have hu := hu64_of hr
  exact (dss_cons (ds_set 1 sc_rotation.nd (de_frz (de_make k_Track hr (by decide) ga passD (pa_consD (de_var 0) (pa_consD de_int pa_nilD)))))
    (dss_one (ds_ret (de_call h_reduced hr (by decide) ga passD (pa_consD (de_op o_fdiv (de_fld f_Track_gain (de_var 1)) (de_fld f_StepMap_length (de_var 0))) (pa_consD (de_callB o_len b_len rfl (pa_consD (de_meth0 h_Track_turn hr (by decide) ga passD (de_var 1)) pa_nilD)) pa_nilD))))))
/-! _law_pen -/
abbrev s__law_pen : Stmt := (top 21)
abbrev N__law_pen : List Str := ["script"]
theorem sc__law_pen : FnScope N__law_pen ["script"] (defScope s__law_pen) := ⟨rfl, rfl, rfl, by decide +kernel, rfl, by decide +kernel, by decide +kernel⟩
theorem ok__law_pen {P : Program} {w : World} {K : PySem.W.Frag} {mg : Str → Option Value} {base : Heap} {fa : Addr} {fd : FuncData} (F : FD K "_law_pen" "_law_pen" s__law_pen [] fa fd)
    (b_list : mg "list" = none) :
    FnG P w K mg base CX0 1 fa fd ["script"] (spD K 1 (m__law_pen)) :=
  by
  refine fnDD (N := N__law_pen) (ps := ["script"]) (k := 0) (body := b__law_pen) F sc__law_pen fun cdv A outer s H E hr ga => ?_
  have hu1 := hu_of hr
  have hu := hu64_of hr
  exact (dss_one (ds_ret (de_dispC (fs := [((dC (.str "cells")), (dP (pList false) [(dSl false (dVar 0) dNoPart (dPart (dC (.int 63))))])), ((dC (.str "turn")), (dC (.int 0))), ((dC (.str "left")), (dC (.int 0)))]) (pps_consD de_str (de_callTy (o_list (c := false)) b_list rfl (pa_consD (de_slice (de_var 0) dpo_none (dpo_some de_int)) pa_nilD)) (pps_consD de_str de_int (pps_consD de_str de_int pps_nilD))))))
/-! _law_gcd -/
abbrev s__law_gcd : Stmt := (top 26)
abbrev N__law_gcd : List Str := ["one", "two"]
theorem sc__law_gcd : FnScope N__law_gcd ["one", "two"] (defScope s__law_gcd) := ⟨rfl, rfl, rfl, by decide +kernel, rfl, by decide +kernel, by decide +kernel⟩
theorem ok__law_gcd {P : Program} {w : World} {K : PySem.W.Frag} {mg : Str → Option Value} {base : Heap} {fa : Addr} {fd : FuncData} (F : FD K "_law_gcd" "_law_gcd" s__law_gcd [] fa fd)
    (b_abs : mg "abs" = none) :
    FnG P w K mg base CX0 1 fa fd ["one", "two"] (spD K 2 (m__law_gcd)) :=
  by
  refine fnDD (N := N__law_gcd) (ps := ["one", "two"]) (k := 0) (body := b__law_gcd) F sc__law_gcd fun cdv A outer s H E hr ga => ?_
  have hu1 := hu_of hr
  have hu := hu64_of hr
  exact (dss_cons (ds_par (i := 0) (j := 1) rfl sc__law_gcd.nd (pa_consD (de_callB o_abs b_abs rfl (pa_consD (de_var 0) pa_nilD)) (pa_consD (de_callB o_abs b_abs rfl (pa_consD (de_var 1) pa_nilD)) pa_nilD)))
    (dss_cons (ds_while (fun _ _ => FUEL) PassesOwn.never (dt_cmp o_gt (de_var 1) de_int) (dss_one (ds_par (i := 0) (j := 1) rfl sc__law_gcd.nd (pa_consD (de_var 1) (pa_consD (de_op o_mod (de_var 0) (de_var 1)) pa_nilD)))))
    (dss_one (ds_ret (de_var 0)))))
/-! _law_fraction -/
abbrev s__law_fraction : Stmt := (top 27)
abbrev N__law_fraction : List Str := ["numerator", "denominator", "both"]
theorem sc__law_fraction : FnScope N__law_fraction ["numerator", "denominator"] (defScope s__law_fraction) := ⟨rfl, rfl, rfl, by decide +kernel, rfl, by decide +kernel, by decide +kernel⟩
theorem ok__law_fraction {P : Program} {w : World} {K : PySem.W.Frag} {mg : Str → Option Value} {base : Heap} {fa : Addr} {fd : FuncData} (F : FD K "_law_fraction" "_law_fraction" s__law_fraction [] fa fd)
    (h__law_gcd : DFn P w K mg base CX0 1 "_law_gcd" 2 (m__law_gcd) []) :
    FnG P w K mg base CX0 2 fa fd ["numerator", "denominator"] (spD K 2 (m__law_fraction)) :=
  by
  refine fnDD (N := N__law_fraction) (ps := ["numerator", "denominator"]) (k := 1) (body := b__law_fraction) F sc__law_fraction fun cdv A outer s H E hr ga => ?_
  have hu1 := hu_of hr
  have hu := hu64_of hr
  exact (dss_cons (ds_set 2 sc__law_fraction.nd (de_call h__law_gcd hr (by decide) ga passD (pa_consD (de_var 0) (pa_consD (de_var 1) pa_nilD))))
    (dss_one (ds_ret (de_tup (pa_consD (de_op o_fdiv (de_var 0) (de_var 2)) (pa_consD (de_op o_fdiv (de_var 1) (de_var 2)) pa_nilD))))))
/-! _law_value -/
abbrev s__law_value : Stmt := (top 28)
abbrev N__law_value : List Str := ["n", "services", "x", "d", "a"]
theorem sc__law_value : FnScope N__law_value ["n", "services", "x"] (defScope s__law_value) := ⟨rfl, rfl, rfl, by decide +kernel, rfl, by decide +kernel, by decide +kernel⟩
theorem ok__law_value {P : Program} {w : World} {K : PySem.W.Frag} {mg : Str → Option Value} {base : Heap} {fa : Addr} {fd : FuncData} (F : FD K "_law_value" "_law_value" s__law_value [] fa fd)
    (b_min : mg "min" = none) :
    FnG P w K mg base CX0 1 fa fd ["n", "services", "x"] (spD K 3 (m__law_value)) :=
  by
  refine fnDD (N := N__law_value) (ps := ["n", "services", "x"]) (k := 0) (body := b__law_value) F sc__law_value fun cdv A outer s H E hr ga => ?_
  have hu1 := hu_of hr
  have hu := hu64_of hr
  exact (dss_one (ds_ret (de_callB (o_min rfl) b_min rfl (pa_consD (de_lc (own := [("d", 3), ("a", 4)]) rfl sc__law_value.nd (di_seq (de_var 1)) (blkOk_by (own := [("d", 3), ("a", 4)]) (N := N__law_value) (sc := defScope s__law_value) (by decide +kernel)) (fun _ _ _ _ _ => (dgc_tup rfl (dgsc_cons (dgc_name 3 sc__law_value.nd) (dgsc_cons (dgc_name 4 sc__law_value.nd) dgsc_nil)))) (fun _ _ _ _ _ => dts_nil) (fun _ _ _ _ _ => (de_op (o_add (c := false)) (de_var 4) (de_op (o_mul (c := false)) (de_var 0) (de_op o_sub de_int (de_op o_fdiv (de_op o_sub (de_var 3) (de_var 2)) (de_var 0))))))) pa_nilD))))
/-! _law_turn -/
abbrev s__law_turn : Stmt := (top 29)
abbrev N__law_turn : List Str := ["n", "services", "x", "seen", "times", "first"]
theorem sc__law_turn : FnScope N__law_turn ["n", "services", "x"] (defScope s__law_turn) := ⟨rfl, rfl, rfl, by decide +kernel, rfl, by decide +kernel, by decide +kernel⟩
theorem ok__law_turn {P : Program} {w : World} {K : PySem.W.Frag} {mg : Str → Option Value} {base : Heap} {fa : Addr} {fd : FuncData} (F : FD K "_law_turn" "_law_turn" s__law_turn [] fa fd)
    (b_len : mg "len" = none)
    (h__law_value : DFn P w K mg base CX0 1 "_law_value" 3 (m__law_value) []) :
    FnG P w K mg base CX0 2 fa fd ["n", "services", "x"] (spD K 3 (m__law_turn)) :=
  by
  refine fn_exit (g := dDef 6 (b__law_turn)) ?_
  refine fnDD (N := N__law_turn) (ps := ["n", "services", "x"]) (k := 1) (body := b__law_turn) F sc__law_turn fun cdv A outer s H E hr ga => ?_
  have hu1 := hu_of hr
  have hu := hu64_of hr
  exact (dss_cons (ds_par (i := 3) (j := 4) rfl sc__law_turn.nd (pa_consD de_dicC (pa_consD (de_lstC pa_nilD) pa_nilD)))
    (dss_cons (ds_while (fun _ _ => FUEL) PassesOwn.never (dt_cmp (o_nin hu1) (de_op o_mod (de_var 2) (de_var 0)) (de_var 3)) (dss_cons (ds_asg (de_callB o_len b_len rfl (pa_consD (de_var 4) pa_nilD)) (dg_sub (o_set hu1) (de_var 3) (de_op o_mod (de_var 2) (de_var 0))))
    (dss_cons (ds_expr (de_bm PySem.F.plainAttrs_list PySem.F.slot_list_append PySem.F.type_list_append m_append (de_var 4) (pa_consD (de_var 2) pa_nilD)))
    (dss_one (ds_set 2 sc__law_turn.nd (de_call h__law_value hr (by decide) ga passD (pa_consD (de_var 0) (pa_consD (de_var 1) (pa_consD (de_var 2) pa_nilD)))))))))
    (dss_cons (ds_set 5 sc__law_turn.nd (de_ix (o_ix hu1) (de_var 3) (de_op o_mod (de_var 2) (de_var 0))))
    (dss_one (ds_ret (de_tup (pa_consD (de_var 5) (pa_consD (de_op o_fdiv (de_op o_sub (de_var 2) (de_ix (o_ix hu1) (de_var 4) (de_var 5))) (de_var 0)) (pa_consD (de_op o_sub (de_callB o_len b_len rfl (pa_consD (de_var 4) pa_nilD)) (de_var 5)) pa_nilD)))))))))
/-! _law_rotation -/
abbrev s__law_rotation : Stmt := (top 30)
abbrev N__law_rotation : List Str := ["n", "services", "count", "p", "q"]
theorem sc__law_rotation : FnScope N__law_rotation ["n", "services"] (defScope s__law_rotation) := ⟨rfl, rfl, rfl, by decide +kernel, rfl, by decide +kernel, by decide +kernel⟩
theorem ok__law_rotation {P : Program} {w : World} {K : PySem.W.Frag} {mg : Str → Option Value} {base : Heap} {fa : Addr} {fd : FuncData} (F : FD K "_law_rotation" "_law_rotation" s__law_rotation [] fa fd)
    (h__law_turn : DFn P w K mg base CX0 2 "_law_turn" 3 (m__law_turn) [])
    (h__law_fraction : DFn P w K mg base CX0 2 "_law_fraction" 2 (m__law_fraction) []) :
    FnG P w K mg base CX0 3 fa fd ["n", "services"] (spD K 2 (m__law_rotation)) :=
  by
  refine fnDD (N := N__law_rotation) (ps := ["n", "services"]) (k := 2) (body := b__law_rotation) F sc__law_rotation fun cdv A outer s H E hr ga => ?_
  have hu1 := hu_of hr
  have hu := hu64_of hr
  exact (dss_cons (ds_asg (de_call h__law_turn hr (by decide) ga passD (pa_consD (de_var 0) (pa_consD (de_var 1) (pa_consD de_int pa_nilD)))) (dg_tup rfl (dgs_cons (dg_name 2 sc__law_rotation.nd) (dgs_cons (dg_name 3 sc__law_rotation.nd) (dgs_cons (dg_name 4 sc__law_rotation.nd) dgs_nil)))))
    (dss_one (ds_ret (de_call h__law_fraction hr (by decide) ga passD (pa_consD (de_var 3) (pa_consD (de_var 4) pa_nilD))))))
/-! _law_draw -/
abbrev s__law_draw : Stmt := (top 22)
abbrev N__law_draw : List Str := ["pen", "many", "digit", "turn", "cell", "primes", "prime", "drawn"]
theorem sc__law_draw : FnScope N__law_draw ["pen", "many"] (defScope s__law_draw) := ⟨rfl, rfl, rfl, by decide +kernel, rfl, by decide +kernel, by decide +kernel⟩
theorem ok__law_draw {P : Program} {w : World} {K : PySem.W.Frag} {mg : Str → Option Value} {base : Heap} {fa : Addr} {fd : FuncData} (F : FD K "_law_draw" "_law_draw" s__law_draw [] fa fd)
    (b_len : mg "len" = none)
    (b_abs : mg "abs" = none) :
    FnG P w K mg base CX0 1 fa fd ["pen", "many"] (spD K 2 (m__law_draw)) :=
  by
  refine fnDD (N := N__law_draw) (ps := ["pen", "many"]) (k := 0) (body := b__law_draw) F sc__law_draw fun cdv A outer s H E hr ga => ?_
  have hu1 := hu_of hr
  have hu := hu64_of hr
  exact (dss_cons (ds_if (dt_cmp o_gt (de_ix (o_ix hu1) (de_var 0) de_str) de_int) (dss_cons (ds_set 2 sc__law_draw.nd (de_op o_mod (de_ix (o_ix hu1) (de_var 0) de_str) (de_var 1)))
    (dss_cons (ds_asg (de_op o_fdiv (de_ix (o_ix hu1) (de_var 0) de_str) (de_var 1)) (dg_sub (o_set hu1) (de_var 0) de_str))
    (dss_one (ds_ret (de_var 2))))) dss_nil)
    (dss_cons (ds_set 3 sc__law_draw.nd (de_ix (o_ix hu1) (de_var 0) de_str))
    (dss_cons (ds_asg (de_op (o_add (c := false)) (de_var 3) de_int) (dg_sub (o_set hu1) (de_var 0) de_str))
    (dss_cons (ds_set 4 sc__law_draw.nd (de_op (o_add (c := false)) (de_op (o_mul (c := false)) de_int (de_var 3)) de_int))
    (dss_cons (ds_if (dt_cmp (o_ne hu) (de_ix (o_ix hu1) (de_var 0) de_str) (de_lst pa_nilD)) (dss_one (ds_set 4 sc__law_draw.nd (de_ix (o_ix hu1) (de_ix (o_ix hu1) (de_var 0) de_str) (de_op o_mod (de_var 3) (de_callB o_len b_len rfl (pa_consD (de_ix (o_ix hu1) (de_var 0) de_str) pa_nilD)))))) dss_nil)
    (dss_cons (ds_if (dw_and (dt_cmp o_lt (de_var 3) (de_callB o_len b_len rfl (pa_consD (de_ix (o_ix hu1) (de_var 0) de_str) pa_nilD))) (dw_and1 (dt_cmp o_ge (de_callB o_abs b_abs rfl (pa_consD (de_var 4) pa_nilD)) (de_op o_pow de_int de_int)))).pt (dss_cons (ds_asg (de_op o_fdiv (de_op o_sub (de_callB o_abs b_abs rfl (pa_consD (de_var 4) pa_nilD)) (de_op o_pow de_int de_int)) (de_var 1)) (dg_sub (o_set hu1) (de_var 0) de_str))
    (dss_one (ds_ret (de_op o_mod (de_op o_sub (de_callB o_abs b_abs rfl (pa_consD (de_var 4) pa_nilD)) (de_op o_pow de_int de_int)) (de_var 1))))) dss_nil)
    (dss_cons (ds_set 5 sc__law_draw.nd (de_lst (pa_consD de_int (pa_consD de_int (pa_consD de_int (pa_consD de_int (pa_consD de_int pa_nilD)))))))
    (dss_cons (ds_set 6 sc__law_draw.nd (de_ix (o_ix hu1) (de_var 5) (de_op o_mod (de_var 3) de_int)))
    (dss_cons (ds_set 7 sc__law_draw.nd (de_op o_mod (de_op (o_add (c := false)) (de_op (o_add (c := false)) (de_op (o_mul (c := false)) (de_op o_mod (de_var 4) (de_var 6)) de_int) (de_op (o_mul (c := false)) (de_op (o_mul (c := false)) de_int (de_var 3)) (de_var 3))) de_int) (de_var 6)))
    (dss_cons (ds_set 7 sc__law_draw.nd (de_op o_mod (de_op (o_mul (c := false)) (de_var 7) (de_op (o_add (c := false)) (de_var 7) de_int)) (de_ix (o_ix hu1) (de_var 5) (de_op o_mod (de_op (o_add (c := false)) (de_var 3) de_int) de_int))))
    (dss_one (ds_ret (de_op o_mod (de_op o_fdiv (de_op o_mod (de_op (o_mul (c := false)) (de_var 7) (de_var 7)) de_int) de_int) (de_var 1))))))))))))))
/-! _law_close_services -/
abbrev s__law_close_services : Stmt := (top 33)
abbrev N__law_close_services : List Str := ["pen", "n", "most", "result", "many", "k", "d", "late"]
theorem sc__law_close_services : FnScope N__law_close_services ["pen", "n", "most"] (defScope s__law_close_services) := ⟨rfl, rfl, rfl, by decide +kernel, rfl, by decide +kernel, by decide +kernel⟩
theorem ok__law_close_services {P : Program} {w : World} {K : PySem.W.Frag} {mg : Str → Option Value} {base : Heap} {fa : Addr} {fd : FuncData} (F : FD K "_law_close_services" "_law_close_services" s__law_close_services [] fa fd)
    (h__law_draw : DFn P w K mg base CX0 1 "_law_draw" 2 (m__law_draw) [])
    (b_range : mg "range" = none) :
    FnG P w K mg base CX0 2 fa fd ["pen", "n", "most"] (spD K 3 (m__law_close_services)) :=
  by
  refine fn_exit (g := dDef 8 (b__law_close_services)) ?_
  refine fnDD (N := N__law_close_services) (ps := ["pen", "n", "most"]) (k := 1) (body := b__law_close_services) F sc__law_close_services fun cdv A outer s H E hr ga => ?_
  have hu1 := hu_of hr
  have hu := hu64_of hr
  exact (dss_cons (ds_par (i := 3) (j := 4) rfl sc__law_close_services.nd (pa_consD (de_lstC pa_nilD) (pa_consD (de_op (o_add (c := false)) de_int (de_call h__law_draw hr (by decide) ga passD (pa_consD (de_var 0) (pa_consD (de_var 2) pa_nilD)))) pa_nilD)))
    (dss_cons (ds_for PassesOwn.never rfl (di_range1 b_range (de_var 4)) (dg_name 5 sc__law_close_services.nd) (dss_cons (ds_set 6 sc__law_close_services.nd (de_op o_sub (de_op (o_add (c := false)) (de_op o_fdiv (de_op (o_mul (c := false)) (de_var 1) (de_var 5)) (de_var 4)) (de_call h__law_draw hr (by decide) ga passD (pa_consD (de_var 0) (pa_consD de_int pa_nilD)))) de_int))
    (dss_cons (ds_set 7 sc__law_close_services.nd (de_op (o_add (c := false)) (de_op o_fdiv (de_op (o_mul (c := false)) (de_var 1) (de_call h__law_draw hr (by decide) ga passD (pa_consD (de_var 0) (pa_consD (de_var 4) pa_nilD)))) (de_var 4)) (de_call h__law_draw hr (by decide) ga passD (pa_consD (de_var 0) (pa_consD de_int pa_nilD)))))
    (dss_one (ds_expr (de_bm PySem.F.plainAttrs_list PySem.F.slot_list_append PySem.F.type_list_append m_append (de_var 3) (pa_consD (de_tup (pa_consD (de_var 6) (pa_consD (de_op (o_add (c := false)) (de_var 6) (de_var 7)) pa_nilD))) pa_nilD)))))))
    (dss_one (ds_ret (de_var 3)))))
/-! _law_pick -/
abbrev s__law_pick : Stmt := (top 23)
abbrev N__law_pick : List Str := ["pen", "options"]
theorem sc__law_pick : FnScope N__law_pick ["pen", "options"] (defScope s__law_pick) := ⟨rfl, rfl, rfl, by decide +kernel, rfl, by decide +kernel, by decide +kernel⟩
theorem ok__law_pick {P : Program} {w : World} {K : PySem.W.Frag} {mg : Str → Option Value} {base : Heap} {fa : Addr} {fd : FuncData} (F : FD K "_law_pick" "_law_pick" s__law_pick [] fa fd)
    (h__law_draw : DFn P w K mg base CX0 1 "_law_draw" 2 (m__law_draw) [])
    (b_len : mg "len" = none) :
    FnG P w K mg base CX0 2 fa fd ["pen", "options"] (spD K 2 (m__law_pick)) :=
  by
  refine fnDD (N := N__law_pick) (ps := ["pen", "options"]) (k := 1) (body := b__law_pick) F sc__law_pick fun cdv A outer s H E hr ga => ?_
  have hu1 := hu_of hr
  have hu := hu64_of hr
  exact (dss_one (ds_ret (de_ix (o_ix hu1) (de_var 1) (de_call h__law_draw hr (by decide) ga passD (pa_consD (de_var 0) (pa_consD (de_callB o_len b_len rfl (pa_consD (de_var 1) pa_nilD)) pa_nilD))))))
/-! _law_small_services -/
abbrev s__law_small_services : Stmt := (top 31)
abbrev N__law_small_services : List Str := ["pen", "n", "most", "result", "k", "d"]
theorem sc__law_small_services : FnScope N__law_small_services ["pen", "n", "most"] (defScope s__law_small_services) := ⟨rfl, rfl, rfl, by decide +kernel, rfl, by decide +kernel, by decide +kernel⟩
theorem ok__law_small_services {P : Program} {w : World} {K : PySem.W.Frag} {mg : Str → Option Value} {base : Heap} {fa : Addr} {fd : FuncData} (F : FD K "_law_small_services" "_law_small_services" s__law_small_services [] fa fd)
    (h__law_draw : DFn P w K mg base CX0 1 "_law_draw" 2 (m__law_draw) [])
    (b_range : mg "range" = none)
    (h__law_pick : DFn P w K mg base CX0 2 "_law_pick" 2 (m__law_pick) []) :
    FnG P w K mg base CX0 3 fa fd ["pen", "n", "most"] (spD K 3 (m__law_small_services)) :=
  by
  refine fn_exit (g := dDef 6 (b__law_small_services)) ?_
  refine fnDD (N := N__law_small_services) (ps := ["pen", "n", "most"]) (k := 2) (body := b__law_small_services) F sc__law_small_services fun cdv A outer s H E hr ga => ?_
  have hu1 := hu_of hr
  have hu := hu64_of hr
  exact (dss_cons (ds_set 3 sc__law_small_services.nd (de_lstC pa_nilD))
    (dss_cons (ds_for PassesOwn.never rfl (di_range1 b_range (de_op (o_add (c := false)) de_int (de_call h__law_draw hr (by decide) ga passD (pa_consD (de_var 0) (pa_consD (de_var 2) pa_nilD))))) (dg_name 4 sc__law_small_services.nd) (dss_cons (ds_set 5 sc__law_small_services.nd (de_op o_sub (de_call h__law_draw hr (by decide) ga passD (pa_consD (de_var 0) (pa_consD (de_op (o_mul (c := false)) de_int (de_var 1)) pa_nilD))) (de_var 1)))
    (dss_one (ds_expr (de_bm PySem.F.plainAttrs_list PySem.F.slot_list_append PySem.F.type_list_append m_append (de_var 3) (pa_consD (de_tup (pa_consD (de_var 5) (pa_consD (de_op o_sub (de_op (o_add (c := false)) (de_var 5) (de_call h__law_draw hr (by decide) ga passD (pa_consD (de_var 0) (pa_consD (de_op (o_add (c := false)) (de_op (o_mul (c := false)) de_int (de_var 1)) de_int) pa_nilD)))) (de_call h__law_pick hr (by decide) ga passD (pa_consD (de_var 0) (pa_consD (de_lst (pa_consD de_int (pa_consD de_int (pa_consD (de_var 1) (pa_consD (de_op (o_mul (c := false)) de_int (de_var 1)) pa_nilD))))) pa_nilD)))) pa_nilD))) pa_nilD))))))
    (dss_one (ds_ret (de_var 3)))))
/-! _law_small -/
abbrev s__law_small : Stmt := (top 32)
abbrev N__law_small : List Str := ["pen", "n"]
theorem sc__law_small : FnScope N__law_small ["pen"] (defScope s__law_small) := ⟨rfl, rfl, rfl, by decide +kernel, rfl, by decide +kernel, by decide +kernel⟩
theorem ok__law_small {P : Program} {w : World} {K : PySem.W.Frag} {mg : Str → Option Value} {base : Heap} {fa : Addr} {fd : FuncData} (F : FD K "_law_small" "_law_small" s__law_small [] fa fd)
    (h__law_pick : DFn P w K mg base CX0 2 "_law_pick" 2 (m__law_pick) [])
    (h__law_draw : DFn P w K mg base CX0 1 "_law_draw" 2 (m__law_draw) [])
    (h__law_small_services : DFn P w K mg base CX0 3 "_law_small_services" 3 (m__law_small_services) []) :
    FnG P w K mg base CX0 4 fa fd ["pen"] (spD K 1 (m__law_small)) :=
  by
  refine fnDD (N := N__law_small) (ps := ["pen"]) (k := 3) (body := b__law_small) F sc__law_small fun cdv A outer s H E hr ga => ?_
  have hu1 := hu_of hr
  have hu := hu64_of hr
  exact (dss_cons (ds_set 1 sc__law_small.nd (de_op (o_add (c := false)) de_int (de_call h__law_pick hr (by decide) ga passD (pa_consD (de_var 0) (pa_consD (de_lst (pa_consD (de_call h__law_draw hr (by decide) ga passD (pa_consD (de_var 0) (pa_consD de_int pa_nilD))) (pa_consD (de_call h__law_draw hr (by decide) ga passD (pa_consD (de_var 0) (pa_consD de_int pa_nilD))) (pa_consD (de_call h__law_draw hr (by decide) ga passD (pa_consD (de_var 0) (pa_consD de_int pa_nilD))) pa_nilD)))) pa_nilD)))))
    (dss_one (ds_ret (de_tup (pa_consD (de_var 1) (pa_consD (de_call h__law_small_services hr (by decide) ga passD (pa_consD (de_var 0) (pa_consD (de_var 1) (pa_consD (de_call h__law_pick hr (by decide) ga passD (pa_consD (de_var 0) (pa_consD (de_lst (pa_consD de_int (pa_consD de_int (pa_consD de_int pa_nilD)))) pa_nilD))) pa_nilD)))) pa_nilD))))))
/-! _law_great -/
abbrev s__law_great : Stmt := (top 24)
abbrev N__law_great : List Str := ["pen", "figures", "result", "k"]
theorem sc__law_great : FnScope N__law_great ["pen", "figures"] (defScope s__law_great) := ⟨rfl, rfl, rfl, by decide +kernel, rfl, by decide +kernel, by decide +kernel⟩
theorem ok__law_great {P : Program} {w : World} {K : PySem.W.Frag} {mg : Str → Option Value} {base : Heap} {fa : Addr} {fd : FuncData} (F : FD K "_law_great" "_law_great" s__law_great [] fa fd)
    (b_range : mg "range" = none)
    (h__law_draw : DFn P w K mg base CX0 1 "_law_draw" 2 (m__law_draw) []) :
    FnG P w K mg base CX0 2 fa fd ["pen", "figures"] (spD K 2 (m__law_great)) :=
  by
  refine fnDD (N := N__law_great) (ps := ["pen", "figures"]) (k := 1) (body := b__law_great) F sc__law_great fun cdv A outer s H E hr ga => ?_
  have hu1 := hu_of hr
  have hu := hu64_of hr
  exact (dss_cons (ds_set 2 sc__law_great.nd de_int)
    (dss_cons (ds_for PassesOwn.never rfl (di_range1 b_range (de_var 1)) (dg_name 3 sc__law_great.nd) (dss_one (ds_set 2 sc__law_great.nd (de_op (o_add (c := false)) (de_op (o_mul (c := false)) de_int (de_var 2)) (de_call h__law_draw hr (by decide) ga passD (pa_consD (de_var 0) (pa_consD de_int pa_nilD)))))))
    (dss_one (ds_ret (de_var 2)))))
/-! _law_great_map -/
abbrev s__law_great_map : Stmt := (top 34)
abbrev N__law_great_map : List Str := ["pen", "n", "result", "k", "d"]
theorem sc__law_great_map : FnScope N__law_great_map ["pen"] (defScope s__law_great_map) := ⟨rfl, rfl, rfl, by decide +kernel, rfl, by decide +kernel, by decide +kernel⟩
theorem ok__law_great_map {P : Program} {w : World} {K : PySem.W.Frag} {mg : Str → Option Value} {base : Heap} {fa : Addr} {fd : FuncData} (F : FD K "_law_great_map" "_law_great_map" s__law_great_map [] fa fd)
    (h__law_great : DFn P w K mg base CX0 2 "_law_great" 2 (m__law_great) [])
    (h__law_pick : DFn P w K mg base CX0 2 "_law_pick" 2 (m__law_pick) [])
    (b_min : mg "min" = none)
    (h__law_draw : DFn P w K mg base CX0 1 "_law_draw" 2 (m__law_draw) [])
    (h__law_close_services : DFn P w K mg base CX0 2 "_law_close_services" 3 (m__law_close_services) [])
    (b_range : mg "range" = none) :
    FnG P w K mg base CX0 3 fa fd ["pen"] (spD K 1 (m__law_great_map)) :=
  by
  refine fn_exit (g := dDef 5 (b__law_great_map)) ?_
  refine fnDD (N := N__law_great_map) (ps := ["pen"]) (k := 2) (body := b__law_great_map) F sc__law_great_map fun cdv A outer s H E hr ga => ?_
  have hu1 := hu_of hr
  have hu := hu64_of hr
  exact (dss_cons (ds_set 1 sc__law_great_map.nd (de_callB (o_min rfl) b_min rfl (pa_consD (de_op o_pow de_int de_int) (pa_consD (de_op (o_add (c := false)) de_int (de_call h__law_great hr (by decide) ga passD (pa_consD (de_var 0) (pa_consD (de_call h__law_pick hr (by decide) ga passD (pa_consD (de_var 0) (pa_consD (de_lst (pa_consD de_int (pa_consD de_int (pa_consD de_int pa_nilD)))) pa_nilD))) pa_nilD)))) pa_nilD))))
    (dss_cons (ds_if (dt_cmp (o_eq hu) (de_call h__law_draw hr (by decide) ga passD (pa_consD (de_var 0) (pa_consD de_int pa_nilD))) de_int) (dss_one (ds_ret (de_tup (pa_consD (de_var 1) (pa_consD (de_call h__law_close_services hr (by decide) ga passD (pa_consD (de_var 0) (pa_consD (de_var 1) (pa_consD de_int pa_nilD)))) pa_nilD))))) dss_nil)
    (dss_cons (ds_set 2 sc__law_great_map.nd (de_lstC pa_nilD))
    (dss_cons (ds_for PassesOwn.never rfl (di_range1 b_range (de_op (o_add (c := false)) de_int (de_call h__law_draw hr (by decide) ga passD (pa_consD (de_var 0) (pa_consD de_int pa_nilD))))) (dg_name 3 sc__law_great_map.nd) (dss_cons (ds_set 4 sc__law_great_map.nd (de_op (o_mul (c := false)) (de_call h__law_great hr (by decide) ga passD (pa_consD (de_var 0) (pa_consD de_int pa_nilD))) (de_call h__law_pick hr (by decide) ga passD (pa_consD (de_var 0) (pa_consD (de_lst (pa_consD de_int (pa_consD (de_un o_neg de_int) pa_nilD))) pa_nilD)))))
    (dss_one (ds_expr (de_bm PySem.F.plainAttrs_list PySem.F.slot_list_append PySem.F.type_list_append m_append (de_var 2) (pa_consD (de_tup (pa_consD (de_var 4) (pa_consD (de_op (o_add (c := false)) (de_var 4) (de_op (o_mul (c := false)) (de_call h__law_great hr (by decide) ga passD (pa_consD (de_var 0) (pa_consD (de_call h__law_pick hr (by decide) ga passD (pa_consD (de_var 0) (pa_consD (de_lst (pa_consD de_int (pa_consD de_int (pa_consD de_int pa_nilD)))) pa_nilD))) pa_nilD))) (de_call h__law_pick hr (by decide) ga passD (pa_consD (de_var 0) (pa_consD (de_lst (pa_consD de_int (pa_consD de_int (pa_consD de_int (pa_consD (de_un o_neg de_int) pa_nilD))))) pa_nilD))))) pa_nilD))) pa_nilD))))))
    (dss_one (ds_ret (de_tup (pa_consD (de_var 1) (pa_consD (de_var 2) pa_nilD)))))))))
/-! _law_even_map -/
abbrev s__law_even_map : Stmt := (top 36)
abbrev N__law_even_map : List Str := ["pen", "most", "many", "gap", "base", "shift", "result", "k", "early"]
theorem sc__law_even_map : FnScope N__law_even_map ["pen", "most"] (defScope s__law_even_map) := ⟨rfl, rfl, rfl, by decide +kernel, rfl, by decide +kernel, by decide +kernel⟩
theorem ok__law_even_map {P : Program} {w : World} {K : PySem.W.Frag} {mg : Str → Option Value} {base : Heap} {fa : Addr} {fd : FuncData} (F : FD K "_law_even_map" "_law_even_map" s__law_even_map [] fa fd)
    (h__law_draw : DFn P w K mg base CX0 1 "_law_draw" 2 (m__law_draw) [])
    (h__law_great : DFn P w K mg base CX0 2 "_law_great" 2 (m__law_great) [])
    (h__law_pick : DFn P w K mg base CX0 2 "_law_pick" 2 (m__law_pick) [])
    (b_range : mg "range" = none) :
    FnG P w K mg base CX0 3 fa fd ["pen", "most"] (spD K 2 (m__law_even_map)) :=
  by
  refine fn_exit (g := dDef 9 (b__law_even_map)) ?_
  refine fnDD (N := N__law_even_map) (ps := ["pen", "most"]) (k := 2) (body := b__law_even_map) F sc__law_even_map fun cdv A outer s H E hr ga => ?_
  have hu1 := hu_of hr
  have hu := hu64_of hr
  exact (dss_cons (ds_par (i := 2) (j := 3) rfl sc__law_even_map.nd (pa_consD (de_op (o_add (c := false)) de_int (de_call h__law_draw hr (by decide) ga passD (pa_consD (de_var 0) (pa_consD (de_var 1) pa_nilD)))) (pa_consD (de_op (o_add (c := false)) de_int (de_call h__law_great hr (by decide) ga passD (pa_consD (de_var 0) (pa_consD (de_call h__law_pick hr (by decide) ga passD (pa_consD (de_var 0) (pa_consD (de_lst (pa_consD de_int (pa_consD de_int (pa_consD de_int pa_nilD)))) pa_nilD))) pa_nilD)))) pa_nilD)))
    (dss_cons (ds_par (i := 4) (j := 5) rfl sc__law_even_map.nd (pa_consD (de_call h__law_draw hr (by decide) ga passD (pa_consD (de_var 0) (pa_consD de_int pa_nilD))) (pa_consD (de_op o_sub (de_call h__law_draw hr (by decide) ga passD (pa_consD (de_var 0) (pa_consD (de_op (o_add (c := false)) (de_op (o_mul (c := false)) de_int (de_var 2)) de_int) pa_nilD))) (de_op (o_mul (c := false)) de_int (de_var 2))) pa_nilD)))
    (dss_cons (ds_set 6 sc__law_even_map.nd (de_lstC pa_nilD))
    (dss_cons (ds_for PassesOwn.never rfl (di_range1 b_range (de_var 2)) (dg_name 7 sc__law_even_map.nd) (dss_cons (ds_set 8 sc__law_even_map.nd (de_call h__law_pick hr (by decide) ga passD (pa_consD (de_var 0) (pa_consD (de_lst (pa_consD de_int (pa_consD de_int (pa_consD (de_call h__law_draw hr (by decide) ga passD (pa_consD (de_var 0) (pa_consD (de_var 3) pa_nilD))) (pa_consD (de_op o_sub (de_var 3) de_int) pa_nilD))))) pa_nilD))))
    (dss_one (ds_expr (de_bm PySem.F.plainAttrs_list PySem.F.slot_list_append PySem.F.type_list_append m_append (de_var 6) (pa_consD (de_tup (pa_consD (de_op (o_add (c := false)) (de_var 4) (de_op (o_mul (c := false)) (de_var 7) (de_var 3))) (pa_consD (de_op o_sub (de_op (o_add (c := false)) (de_var 4) (de_op (o_mul (c := false)) (de_op (o_add (c := false)) (de_var 7) (de_var 5)) (de_var 3))) (de_var 8)) pa_nilD))) pa_nilD))))))
    (dss_one (ds_ret (de_tup (pa_consD (de_op (o_mul (c := false)) (de_var 2) (de_var 3)) (pa_consD (de_var 6) pa_nilD)))))))))
/-! _law_regular_map -/
abbrev s__law_regular_map : Stmt := (top 35)
abbrev N__law_regular_map : List Str := ["pen"]
theorem sc__law_regular_map : FnScope N__law_regular_map ["pen"] (defScope s__law_regular_map) := ⟨rfl, rfl, rfl, by decide +kernel, rfl, by decide +kernel, by decide +kernel⟩
theorem ok__law_regular_map {P : Program} {w : World} {K : PySem.W.Frag} {mg : Str → Option Value} {base : Heap} {fa : Addr} {fd : FuncData} (F : FD K "_law_regular_map" "_law_regular_map" s__law_regular_map [] fa fd)
    (h__law_even_map : DFn P w K mg base CX0 3 "_law_even_map" 2 (m__law_even_map) [])
    (h__law_pick : DFn P w K mg base CX0 2 "_law_pick" 2 (m__law_pick) []) :
    FnG P w K mg base CX0 4 fa fd ["pen"] (spD K 1 (m__law_regular_map)) :=
  by
  refine fnDD (N := N__law_regular_map) (ps := ["pen"]) (k := 3) (body := b__law_regular_map) F sc__law_regular_map fun cdv A outer s H E hr ga => ?_
  have hu1 := hu_of hr
  have hu := hu64_of hr
  exact (dss_one (ds_ret (de_call h__law_even_map hr (by decide) ga passD (pa_consD (de_var 0) (pa_consD (de_call h__law_pick hr (by decide) ga passD (pa_consD (de_var 0) (pa_consD (de_lst (pa_consD de_int (pa_consD de_int (pa_consD de_int pa_nilD)))) pa_nilD))) pa_nilD)))))
/-! _law_far_map -/
abbrev s__law_far_map : Stmt := (top 37)
abbrev N__law_far_map : List Str := ["pen", "n", "result", "k", "part"]
theorem sc__law_far_map : FnScope N__law_far_map ["pen"] (defScope s__law_far_map) := ⟨rfl, rfl, rfl, by decide +kernel, rfl, by decide +kernel, by decide +kernel⟩
theorem ok__law_far_map {P : Program} {w : World} {K : PySem.W.Frag} {mg : Str → Option Value} {base : Heap} {fa : Addr} {fd : FuncData} (F : FD K "_law_far_map" "_law_far_map" s__law_far_map [] fa fd)
    (h__law_draw : DFn P w K mg base CX0 1 "_law_draw" 2 (m__law_draw) [])
    (b_range : mg "range" = none)
    (h__law_great : DFn P w K mg base CX0 2 "_law_great" 2 (m__law_great) [])
    (h__law_pick : DFn P w K mg base CX0 2 "_law_pick" 2 (m__law_pick) [])
    (b_tuple : mg "tuple" = none) :
    FnG P w K mg base CX0 3 fa fd ["pen"] (spD K 1 (m__law_far_map)) :=
  by
  refine fn_exit (g := dDef 5 (b__law_far_map)) ?_
  refine fnDD (N := N__law_far_map) (ps := ["pen"]) (k := 2) (body := b__law_far_map) F sc__law_far_map fun cdv A outer s H E hr ga => ?_
  have hu1 := hu_of hr
  have hu := hu64_of hr
  exact (dss_cons (ds_par (i := 1) (j := 2) rfl sc__law_far_map.nd (pa_consD (de_op (o_add (c := false)) de_int (de_call h__law_draw hr (by decide) ga passD (pa_consD (de_var 0) (pa_consD de_int pa_nilD)))) (pa_consD (de_lstC pa_nilD) pa_nilD)))
    (dss_cons (ds_for PassesOwn.never rfl (di_range1 b_range (de_op (o_add (c := false)) de_int (de_call h__law_draw hr (by decide) ga passD (pa_consD (de_var 0) (pa_consD de_int pa_nilD))))) (dg_name 3 sc__law_far_map.nd) (dss_one (ds_expr (de_bm PySem.F.plainAttrs_list PySem.F.slot_list_append PySem.F.type_list_append m_append (de_var 2) (pa_consD (de_callTy o_tuple b_tuple rfl (pa_consD (de_lc (own := [("part", 4)]) rfl sc__law_far_map.nd (di_range1 b_range de_int) (blkOk_by (own := [("part", 4)]) (N := N__law_far_map) (sc := defScope s__law_far_map) (by decide +kernel)) (fun _ _ _ _ _ => (dgc_name 4 sc__law_far_map.nd)) (fun _ _ _ _ _ => dts_nil) (fun _ _ _ _ _ => (de_op (o_mul (c := false)) (de_call h__law_great hr (by decide) ga passD (pa_consD (de_var 0) (pa_consD de_int pa_nilD))) (de_call h__law_pick hr (by decide) ga passD (pa_consD (de_var 0) (pa_consD (de_lst (pa_consD de_int (pa_consD (de_un o_neg de_int) pa_nilD))) pa_nilD)))))) pa_nilD)) pa_nilD)))))
    (dss_one (ds_ret (de_tup (pa_consD (de_var 1) (pa_consD (de_var 2) pa_nilD)))))))
/-! _law_wide_map -/
abbrev s__law_wide_map : Stmt := (top 38)
abbrev N__law_wide_map : List Str := ["pen", "n"]
theorem sc__law_wide_map : FnScope N__law_wide_map ["pen"] (defScope s__law_wide_map) := ⟨rfl, rfl, rfl, by decide +kernel, rfl, by decide +kernel, by decide +kernel⟩
theorem ok__law_wide_map {P : Program} {w : World} {K : PySem.W.Frag} {mg : Str → Option Value} {base : Heap} {fa : Addr} {fd : FuncData} (F : FD K "_law_wide_map" "_law_wide_map" s__law_wide_map [] fa fd)
    (h__law_great : DFn P w K mg base CX0 2 "_law_great" 2 (m__law_great) [])
    (h__law_pick : DFn P w K mg base CX0 2 "_law_pick" 2 (m__law_pick) [])
    (h__law_close_services : DFn P w K mg base CX0 2 "_law_close_services" 3 (m__law_close_services) []) :
    FnG P w K mg base CX0 3 fa fd ["pen"] (spD K 1 (m__law_wide_map)) :=
  by
  refine fnDD (N := N__law_wide_map) (ps := ["pen"]) (k := 2) (body := b__law_wide_map) F sc__law_wide_map fun cdv A outer s H E hr ga => ?_
  have hu1 := hu_of hr
  have hu := hu64_of hr
  exact (dss_cons (ds_set 1 sc__law_wide_map.nd (de_op (o_add (c := false)) de_int (de_call h__law_great hr (by decide) ga passD (pa_consD (de_var 0) (pa_consD (de_call h__law_pick hr (by decide) ga passD (pa_consD (de_var 0) (pa_consD (de_lst (pa_consD de_int (pa_consD de_int pa_nilD))) pa_nilD))) pa_nilD)))))
    (dss_one (ds_ret (de_tup (pa_consD (de_var 1) (pa_consD (de_call h__law_close_services hr (by decide) ga passD (pa_consD (de_var 0) (pa_consD (de_var 1) (pa_consD de_int pa_nilD)))) pa_nilD))))))
/-! _law_orbit_map -/
abbrev s__law_orbit_map : Stmt := (top 39)
abbrev N__law_orbit_map : List Str := ["pen", "some"]
theorem sc__law_orbit_map : FnScope N__law_orbit_map ["pen"] (defScope s__law_orbit_map) := ⟨rfl, rfl, rfl, by decide +kernel, rfl, by decide +kernel, by decide +kernel⟩
theorem ok__law_orbit_map {P : Program} {w : World} {K : PySem.W.Frag} {mg : Str → Option Value} {base : Heap} {a__law_far_map : Addr} {a__law_great_map : Addr} {a__law_regular_map : Addr} {a__law_small : Addr} {a__law_wide_map : Addr} {fa : Addr} {fd : FuncData} (F : FD K "_law_orbit_map" "_law_orbit_map" s__law_orbit_map [] fa fd)
    (n__law_small : mg "_law_small" = some (.ref a__law_small))
    (n__law_great_map : mg "_law_great_map" = some (.ref a__law_great_map))
    (n__law_regular_map : mg "_law_regular_map" = some (.ref a__law_regular_map))
    (h__law_pick : DFn P w K mg base CX0 2 "_law_pick" 2 (m__law_pick) [])
    (n__law_wide_map : mg "_law_wide_map" = some (.ref a__law_wide_map))
    (n__law_far_map : mg "_law_far_map" = some (.ref a__law_far_map))
    (t__law_wide_map_4 : DAt P w K mg base CX0 4 a__law_wide_map 1 (m__law_wide_map))
    (t__law_far_map_4 : DAt P w K mg base CX0 4 a__law_far_map 1 (m__law_far_map))
    (t__law_small_4 : DAt P w K mg base CX0 4 a__law_small 1 (m__law_small))
    (t__law_great_map_4 : DAt P w K mg base CX0 4 a__law_great_map 1 (m__law_great_map))
    (t__law_regular_map_4 : DAt P w K mg base CX0 4 a__law_regular_map 1 (m__law_regular_map)) :
    FnG P w K mg base CX0 5 fa fd ["pen"] (spD K 1 (m__law_orbit_map_k25 a__law_far_map a__law_great_map a__law_regular_map a__law_small a__law_wide_map)) :=
  by
  refine fnDD (N := N__law_orbit_map) (ps := ["pen"]) (k := 4) (body := b__law_orbit_map_k25 a__law_far_map a__law_great_map a__law_regular_map a__law_small a__law_wide_map) F sc__law_orbit_map fun cdv A outer s H E hr ga => ?_
  have hu1 := hu_of hr
  have hu := hu64_of hr
  exact (dss_cons (ds_set 1 sc__law_orbit_map.nd (de_lst (pa_consD (de_fnV n__law_small) (pa_consD (de_fnV n__law_small) (pa_consD (de_fnV n__law_small) (pa_consD (de_fnV n__law_great_map) (pa_consD (de_fnV n__law_great_map) (pa_consD (de_fnV n__law_regular_map) (pa_consD (de_fnV n__law_regular_map) pa_nilD)))))))))
    (dss_one (ds_ret (de_callV (tbl := [(a__law_wide_map, m__law_wide_map), (a__law_far_map, m__law_far_map), (a__law_small, m__law_small), (a__law_great_map, m__law_great_map), (a__law_regular_map, m__law_regular_map)]) (tbl_cons t__law_wide_map_4 (tbl_cons t__law_far_map_4 (tbl_cons t__law_small_4 (tbl_cons t__law_great_map_4 (tbl_cons t__law_regular_map_4 tbl_nil))))) hr (by decide) ga passD (de_call h__law_pick hr (by decide) ga passD (pa_consD (de_var 0) (pa_consD (de_op (o_add (c := false)) (de_var 1) (de_lst (pa_consD (de_fnV n__law_wide_map) (pa_consD (de_fnV n__law_far_map) pa_nilD)))) pa_nilD))) (pa_consD (de_var 0) pa_nilD)))))
/-! _law_shuffled -/
abbrev s__law_shuffled : Stmt := (top 25)
abbrev N__law_shuffled : List Str := ["pen", "items", "left", "k"]
theorem sc__law_shuffled : FnScope N__law_shuffled ["pen", "items"] (defScope s__law_shuffled) := ⟨rfl, rfl, rfl, by decide +kernel, rfl, by decide +kernel, by decide +kernel⟩
theorem ok__law_shuffled {P : Program} {w : World} {K : PySem.W.Frag} {mg : Str → Option Value} {base : Heap} {fa : Addr} {fd : FuncData} (F : FD K "_law_shuffled" "_law_shuffled" s__law_shuffled [] fa fd)
    (b_list : mg "list" = none)
    (b_len : mg "len" = none)
    (b_range : mg "range" = none)
    (h__law_draw : DFn P w K mg base CX0 1 "_law_draw" 2 (m__law_draw) []) :
    FnG P w K mg base CX0 2 fa fd ["pen", "items"] (spD K 2 (m__law_shuffled)) :=
  by
  refine fn_exit (g := dDef 4 (b__law_shuffled)) ?_
  refine fnDD (N := N__law_shuffled) (ps := ["pen", "items"]) (k := 1) (body := b__law_shuffled) F sc__law_shuffled fun cdv A outer s H E hr ga => ?_
  have hu1 := hu_of hr
  have hu := hu64_of hr
  exact (dss_cons (ds_set 2 sc__law_shuffled.nd (de_callTy (o_list (c := true)) b_list rfl (pa_consD (de_var 1) pa_nilD)))
    (dss_one (ds_ret (de_lc (own := [("k", 3)]) rfl sc__law_shuffled.nd (di_range1 b_range (de_callB o_len b_len rfl (pa_consD (de_var 2) pa_nilD))) (blkOk_by (own := [("k", 3)]) (N := N__law_shuffled) (sc := defScope s__law_shuffled) (by decide +kernel)) (fun _ _ _ _ _ => (dgc_name 3 sc__law_shuffled.nd)) (fun _ _ _ _ _ => dts_nil) (fun _ _ _ _ _ => (de_bm PySem.F.plainAttrs_list PySem.F.slot_list_pop PySem.F.type_list_pop m_pop (de_var 2) (pa_consD (de_call h__law_draw hr (by decide) ga passD (pa_consD (de_var 0) (pa_consD (de_callB o_len b_len rfl (pa_consD (de_var 2) pa_nilD)) pa_nilD))) pa_nilD)))))))
/-! _law_moved -/
abbrev s__law_moved : Stmt := (top 40)
abbrev N__law_moved : List Str := ["pen", "n", "services", "result", "departure", "arrival", "far"]
theorem sc__law_moved : FnScope N__law_moved ["pen", "n", "services"] (defScope s__law_moved) := ⟨rfl, rfl, rfl, by decide +kernel, rfl, by decide +kernel, by decide +kernel⟩
theorem ok__law_moved {P : Program} {w : World} {K : PySem.W.Frag} {mg : Str → Option Value} {base : Heap} {fa : Addr} {fd : FuncData} (F : FD K "_law_moved" "_law_moved" s__law_moved [] fa fd)
    (h__law_shuffled : DFn P w K mg base CX0 2 "_law_shuffled" 2 (m__law_shuffled) [])
    (h__law_draw : DFn P w K mg base CX0 1 "_law_draw" 2 (m__law_draw) [])
    (b_abs : mg "abs" = none)
    (b_max : mg "max" = none) :
    FnG P w K mg base CX0 3 fa fd ["pen", "n", "services"] (spD K 3 (m__law_moved)) :=
  by
  refine fn_exit (g := dDef 7 (b__law_moved)) ?_
  refine fnDD (N := N__law_moved) (ps := ["pen", "n", "services"]) (k := 2) (body := b__law_moved) F sc__law_moved fun cdv A outer s H E hr ga => ?_
  have hu1 := hu_of hr
  have hu := hu64_of hr
  exact (dss_cons (ds_set 3 sc__law_moved.nd (de_lstC pa_nilD))
    (dss_cons (ds_for PassesOwn.never rfl (di_seq (de_call h__law_shuffled hr (by decide) ga passD (pa_consD (de_var 0) (pa_consD (de_var 2) pa_nilD)))) (dg_tup rfl (dgs_cons (dg_name 4 sc__law_moved.nd) (dgs_cons (dg_name 5 sc__law_moved.nd) dgs_nil))) (dss_cons (ds_set 6 sc__law_moved.nd (de_op (o_mul (c := false)) (de_var 1) (de_op o_sub (de_call h__law_draw hr (by decide) ga passD (pa_consD (de_var 0) (pa_consD de_int pa_nilD))) de_int)))
    (dss_cons (ds_if (dt_cmp o_gt (de_callB (o_max rfl) b_max rfl (pa_consD (de_callB o_abs b_abs rfl (pa_consD (de_op (o_add (c := false)) (de_var 4) (de_var 6)) pa_nilD)) (pa_consD (de_callB o_abs b_abs rfl (pa_consD (de_op (o_add (c := false)) (de_var 5) (de_var 6)) pa_nilD)) pa_nilD))) (de_op o_pow de_int de_int)) (dss_one (ds_set 6 sc__law_moved.nd de_int)) dss_nil)
    (dss_one (ds_expr (de_bm PySem.F.plainAttrs_list PySem.F.slot_list_append PySem.F.type_list_append m_append (de_var 3) (pa_consD (de_tup (pa_consD (de_op (o_add (c := false)) (de_var 4) (de_var 6)) (pa_consD (de_op (o_add (c := false)) (de_var 5) (de_var 6)) pa_nilD))) pa_nilD)))))))
    (dss_one (ds_ret (de_var 3)))))
/-! law -/
abbrev s_law : Stmt := (top 41)
abbrev N_law : List Str := ["script", "pen", "turn", "n", "services", "due", "some"]
theorem sc_law : FnScope N_law ["script"] (defScope s_law) := ⟨rfl, rfl, rfl, by decide +kernel, rfl, by decide +kernel, by decide +kernel⟩
noncomputable def b_law_k27 (a__law_far_map : Addr) (a__law_great_map : Addr) (a__law_regular_map : Addr) (a__law_small : Addr) (a__law_wide_map : Addr) (c_StepMap : Addr) (c_Track : Addr) : DS := (dSeq (dAsg (dCall (m__law_pen) [] [(dVar 0)]) (dgName 1))
    (dSeq (dFor (dRange1 (dC (.int 8))) (dgName 2) (dSeq (dAsg (dIf (dB (dP pGt [(dVar 2), (dC (.int 0))])) (dCall (m__law_orbit_map_k25 a__law_far_map a__law_great_map a__law_regular_map a__law_small a__law_wide_map) [] [(dVar 1)]) (dTup [(dP pPow [(dC (.int 10)), (dC (.int 18))]), (dCall (m__law_close_services) [] [(dVar 1), (dP pPow [(dC (.int 10)), (dC (.int 18))]), (dC (.int 200))])])) (dgTup [(dgName 3), (dgName 4)]))
    (dSeq (dAsg (dCall (m__law_rotation) [] [(dVar 3), (dVar 4)]) (dgName 5))
    (dSeq (dIfS (dB (dP (pEq true) [(dP pReprD [(dCall (m_rotation c_StepMap c_Track) [] [(dFrz (dMake c_StepMap (m_StepMap_init c_StepMap) [] [(dVar 3), (dVar 4)]))])]), (dP pReprD [(dVar 5)])])) (dRet (dC (.bl false))) dNext)
    (dIfS (dB (dP (pEq true) [(dP pReprD [(dCall (m_rotation c_StepMap c_Track) [] [(dFrz (dMake c_StepMap (m_StepMap_init c_StepMap) [] [(dVar 3), (dCall (m__law_moved) [] [(dVar 1), (dVar 3), (dVar 4)])]))])]), (dP pReprD [(dVar 5)])])) (dRet (dC (.bl false))) dNext)))))
    (dSeq (dAsg (dLst [(dCall (m_rotation c_StepMap c_Track) [] [(dFrz (dMake c_StepMap (m_StepMap_init c_StepMap) [] [(dC (.int 10)), (dLst [(dTup [(dC (.int 0)), (dC (.int 10))])])]))]), (dCall (m_rotation c_StepMap c_Track) [] [(dFrz (dMake c_StepMap (m_StepMap_init c_StepMap) [] [(dC (.int 10)), (dLst [(dTup [(dC (.int 3)), (dC (.int 3))])])]))]), (dCall (m_rotation c_StepMap c_Track) [] [(dFrz (dMake c_StepMap (m_StepMap_init c_StepMap) [] [(dC (.int 1)), (dLst [(dTup [(dC (.int 0)), (dP pNeg [(dC (.int 3))])])])]))])]) (dgName 6))
    (dRet (dP (pEq false) [(dP pReprD [(dVar 6)]), (dP pReprD [(dLst [(dTup [(dC (.int 1)), (dC (.int 1))]), (dTup [(dC (.int 0)), (dC (.int 1))]), (dTup [(dP pNeg [(dC (.int 3))]), (dC (.int 1))])])])])))))
noncomputable def m_law_k27 (a__law_far_map : Addr) (a__law_great_map : Addr) (a__law_regular_map : Addr) (a__law_small : Addr) (a__law_wide_map : Addr) (c_StepMap : Addr) (c_Track : Addr) : Pr := exitP (dDef 7 (b_law_k27 a__law_far_map a__law_great_map a__law_regular_map a__law_small a__law_wide_map c_StepMap c_Track))
theorem ok_law {P : Program} {w : World} {K : PySem.W.Frag} {mg : Str → Option Value} {base : Heap} {a__law_far_map : Addr} {a__law_great_map : Addr} {a__law_regular_map : Addr} {a__law_small : Addr} {a__law_wide_map : Addr} {c_StepMap : Addr} {c_Track : Addr} {fa : Addr} {fd : FuncData} (F : FD K "law" "law" s_law [] fa fd)
    (h__law_pen : DFn P w K mg base CX0 1 "_law_pen" 1 (m__law_pen) [])
    (b_range : mg "range" = none)
    (h__law_orbit_map : DFn P w K mg base CX0 5 "_law_orbit_map" 1 (m__law_orbit_map_k25 a__law_far_map a__law_great_map a__law_regular_map a__law_small a__law_wide_map) [])
    (h__law_close_services : DFn P w K mg base CX0 2 "_law_close_services" 3 (m__law_close_services) [])
    (h__law_rotation : DFn P w K mg base CX0 3 "_law_rotation" 2 (m__law_rotation) [])
    (h_rotation : DFn P w K mg base CX0 5 "rotation" 1 (m_rotation c_StepMap c_Track) [])
    (k_StepMap : DMk P w K mg base CX0 5 "StepMap" c_StepMap 3 (m_StepMap_init c_StepMap) [])
    (b_repr : mg "repr" = none)
    (h__law_moved : DFn P w K mg base CX0 3 "_law_moved" 3 (m__law_moved) []) :
    FnG P w K mg base CX0 7 fa fd ["script"] (spD K 1 (m_law_k27 a__law_far_map a__law_great_map a__law_regular_map a__law_small a__law_wide_map c_StepMap c_Track)) :=
  by
  refine fn_exit (g := dDef 7 (b_law_k27 a__law_far_map a__law_great_map a__law_regular_map a__law_small a__law_wide_map c_StepMap c_Track)) ?_
  refine fnDD (N := N_law) (ps := ["script"]) (k := 6) (body := b_law_k27 a__law_far_map a__law_great_map a__law_regular_map a__law_small a__law_wide_map c_StepMap c_Track) F sc_law fun cdv A outer s H E hr ga => ?_
  have hu1 := hu_of hr
  have hu := hu64_of hr
  exact (dss_cons (ds_set 1 sc_law.nd (de_call h__law_pen hr (by decide) ga passD (pa_consD (de_var 0) pa_nilD)))
    (dss_cons (ds_for PassesOwn.never rfl (di_range1 b_range de_int) (dg_name 2 sc_law.nd) (dss_cons (ds_asg (de_ifExp (dt_cmp o_gt (de_var 2) de_int) (de_call h__law_orbit_map hr (by decide) ga passD (pa_consD (de_var 1) pa_nilD)) (de_tup (pa_consD (de_op o_pow de_int de_int) (pa_consD (de_call h__law_close_services hr (by decide) ga passD (pa_consD (de_var 1) (pa_consD (de_op o_pow de_int de_int) (pa_consD de_int pa_nilD)))) pa_nilD)))) (dg_tup rfl (dgs_cons (dg_name 3 sc_law.nd) (dgs_cons (dg_name 4 sc_law.nd) dgs_nil))))
    (dss_cons (ds_set 5 sc_law.nd (de_call h__law_rotation hr (by decide) ga passD (pa_consD (de_var 3) (pa_consD (de_var 4) pa_nilD))))
    (dss_cons (ds_if (dt_cmp (o_ne hu) (de_callB (o_repr hu ga) b_repr rfl (pa_consD (de_call h_rotation hr (by decide) ga passD (pa_consD (de_frz (de_make k_StepMap hr (by decide) ga passD (pa_consD (de_var 3) (pa_consD (de_var 4) pa_nilD)))) pa_nilD)) pa_nilD)) (de_callB (o_repr hu ga) b_repr rfl (pa_consD (de_var 5) pa_nilD))) (dss_one (ds_ret de_bl)) dss_nil)
    (dss_one (ds_if (dt_cmp (o_ne hu) (de_callB (o_repr hu ga) b_repr rfl (pa_consD (de_call h_rotation hr (by decide) ga passD (pa_consD (de_frz (de_make k_StepMap hr (by decide) ga passD (pa_consD (de_var 3) (pa_consD (de_call h__law_moved hr (by decide) ga passD (pa_consD (de_var 1) (pa_consD (de_var 3) (pa_consD (de_var 4) pa_nilD)))) pa_nilD)))) pa_nilD)) pa_nilD)) (de_callB (o_repr hu ga) b_repr rfl (pa_consD (de_var 5) pa_nilD))) (dss_one (ds_ret de_bl)) dss_nil))))))
    (dss_cons (ds_set 6 sc_law.nd (de_lst (pa_consD (de_call h_rotation hr (by decide) ga passD (pa_consD (de_frz (de_make k_StepMap hr (by decide) ga passD (pa_consD de_int (pa_consD (de_lst (pa_consD (de_tup (pa_consD de_int (pa_consD de_int pa_nilD))) pa_nilD)) pa_nilD)))) pa_nilD)) (pa_consD (de_call h_rotation hr (by decide) ga passD (pa_consD (de_frz (de_make k_StepMap hr (by decide) ga passD (pa_consD de_int (pa_consD (de_lst (pa_consD (de_tup (pa_consD de_int (pa_consD de_int pa_nilD))) pa_nilD)) pa_nilD)))) pa_nilD)) (pa_consD (de_call h_rotation hr (by decide) ga passD (pa_consD (de_frz (de_make k_StepMap hr (by decide) ga passD (pa_consD de_int (pa_consD (de_lst (pa_consD (de_tup (pa_consD de_int (pa_consD (de_un o_neg de_int) pa_nilD))) pa_nilD)) pa_nilD)))) pa_nilD)) pa_nilD)))))
    (dss_one (ds_ret (de_cmp (o_eq hu) (de_callB (o_repr hu ga) b_repr rfl (pa_consD (de_var 6) pa_nilD)) (de_callB (o_repr hu ga) b_repr rfl (pa_consD (de_lst (pa_consD (de_tup (pa_consD de_int (pa_consD de_int pa_nilD))) (pa_consD (de_tup (pa_consD de_int (pa_consD de_int pa_nilD))) (pa_consD (de_tup (pa_consD (de_un o_neg de_int) (pa_consD de_int pa_nilD))) pa_nilD)))) pa_nilD))))))))
end DL

namespace DL
open PySem L2
section
variable {B n : Int} {p : D} {r τ : List D} {δ : DEnv} {Φ : D → List D → Prop} {C T : PySem.Addr}
/-- services moved by whole periods -/
theorem moved_rows {ss mv rows rows' : List (Int × Int)} (n1 : 1 ≤ n) (R : Rows n ss rows) (R' : Rows n mv rows') (h1 : ∀ s ∈ ss, ∃ x ∈ mv, ∃ q : Int, x = (s.1 + q * n, s.2 + q * n)) (h2 : ∀ x ∈ mv, ∃ s ∈ ss, ∃ q : Int, x = (s.1 + q * n, s.2 + q * n)) : rows' = rows := by
  refine R'.unique R n1 fun t v => ⟨fun h => ⟨?_, fun s hs q hq => ?_⟩, fun h => ⟨?_, fun x hx q hq => ?_⟩⟩
  · obtain ⟨x, hx, q, e1, e2⟩ := h.ex
    obtain ⟨s, hs, q', rfl⟩ := h2 x hx
    exact ⟨s, hs, q' + q, by rw [Int.add_mul]; simp only at e1; omega, by rw [Int.add_mul]; simp only at e2; omega⟩
  · obtain ⟨x, hx, q', rfl⟩ := h1 s hs
    have := h.le _ hx (q - q') (by simp only; rw [Int.sub_mul]; omega)
    rw [Int.sub_mul] at this
    simp only at this; omega
  · obtain ⟨s, hs, q, e1, e2⟩ := h.ex
    obtain ⟨x, hx, q', rfl⟩ := h1 s hs
    exact ⟨_, hx, q - q', by simp only; rw [Int.sub_mul]; omega, by simp only; rw [Int.sub_mul]; omega⟩
  · obtain ⟨s, hs, q', rfl⟩ := h2 x hx
    have := h.le _ hs (q' + q) (by rw [Int.add_mul]; simp only at hq; omega)
    rw [Int.add_mul] at this
    simp only; omega
theorem law_moved_then {ss : List (Int × Int)} (hp : PenOk B p) (hB : B + 4000 ≤ 10 ^ 12) (n1 : 1 ≤ n) (n2 : n ≤ 10 ^ 18) (l2 : ss.length ≤ 200) (hs : ∀ s ∈ ss, (-10 ^ 30 ≤ s.1 ∧ s.1 ≤ 10 ^ 30) ∧ -10 ^ 30 ≤ s.2 ∧ s.2 ≤ 10 ^ 30)
    (K : ∀ (mv : List (Int × Int)) p', PenOk (B + 2000) p' → mv.length = ss.length → (∀ s ∈ mv, (-10 ^ 30 ≤ s.1 ∧ s.1 ≤ 10 ^ 30) ∧ -10 ^ 30 ≤ s.2 ∧ s.2 ≤ 10 ^ 30) → (∀ s ∈ ss, ∃ x ∈ mv, ∃ q : Int, x = (s.1 + q * n, s.2 + q * n)) → (∀ x ∈ mv, ∃ s ∈ ss, ∃ q : Int, x = (s.1 + q * n, s.2 + q * n)) → Φ (.lst (mv.map pairD)) (p' :: r)) :
    WR (m__law_moved [.cell 0, .int n, .lst (ss.map pairD)] (p :: r)) Φ := by
  unfold m__law_moved b__law_moved
  refine exit1 ?_
  try simp only [wr_ok, w_var, w_c, w_p, w_nil, w_cons, w_call, w_tup, w_lst, w_lstC, w_dicC, w_B, w_and, w_or, w_not, w_andV, w_orV, w_if, w_chain, w_fld, w_meth, w_make, w_bm, w_rev, w_sortIt, w_get2, w_callV,
  w_next, w_seq, w_drop, w_ret, w_retN, w_break, w_cont, w_ifS, w_asg, w_gname, w_gsub, w_gtup, w_gnil, w_gcons, w_par, w_setFld, w_while, w_for, w_items, w_range1, w_lc, w_yes, w_def,
  der_int, der_bl, der_str, der_lst, der_frl, der_tup, der_dic, der_non, der_obj, der_raw, p_add, p_sub, p_mul, p_fdiv, p_mod, p_pow, p_neg, p_cmp, p_abs, p_min2, p_max2, p_eqI, p_notB, p_lenL, p_lenT, p_listL, newL_w, newLC_w, p_ixL, p_ixT,
  List.map_cons, List.map_nil, List.length_cons, List.length_nil, List.replicate_zero, List.replicate_succ, List.replicate, List.cons_append, List.nil_append, List.append_nil, List.getElem?_cons_zero, List.getElem?_cons_succ, List.set_cons_zero, List.set_cons_succ,
  List.zip_cons_cons, List.zip_nil_left, List.zip_nil_right, List.foldl_cons, List.foldl_nil, Nat.reduceAdd, Nat.reduceSub, Nat.zero_add, Nat.add_zero, Nat.reduceLeDiff, true_and, and_true, if_true, Bool.false_eq_true, if_false]
  refine shuffled_then hp (by omega) (by omega) fun out p1 perm hp1 => ?_
  have ol := perm.length_eq
  try simp only [wr_ok, w_var, w_c, w_p, w_nil, w_cons, w_call, w_tup, w_lst, w_lstC, w_dicC, w_B, w_and, w_or, w_not, w_andV, w_orV, w_if, w_chain, w_fld, w_meth, w_make, w_bm, w_rev, w_sortIt, w_get2, w_callV,
  w_next, w_seq, w_drop, w_ret, w_retN, w_break, w_cont, w_ifS, w_asg, w_gname, w_gsub, w_gtup, w_gnil, w_gcons, w_par, w_setFld, w_while, w_for, w_items, w_range1, w_lc, w_yes, w_def,
  der_int, der_bl, der_str, der_lst, der_frl, der_tup, der_dic, der_non, der_obj, der_raw, p_add, p_sub, p_mul, p_fdiv, p_mod, p_pow, p_neg, p_cmp, p_abs, p_min2, p_max2, p_eqI, p_notB, p_lenL, p_lenT, p_listL, newL_w, newLC_w, p_ixL, p_ixT,
  List.map_cons, List.map_nil, List.length_cons, List.length_nil, List.replicate_zero, List.replicate_succ, List.replicate, List.cons_append, List.nil_append, List.append_nil, List.getElem?_cons_zero, List.getElem?_cons_succ, List.set_cons_zero, List.set_cons_succ,
  List.zip_cons_cons, List.zip_nil_left, List.zip_nil_right, List.foldl_cons, List.foldl_nil, Nat.reduceAdd, Nat.reduceSub, Nat.zero_add, Nat.add_zero, Nat.reduceLeDiff, true_and, and_true, if_true, Bool.false_eq_true, if_false]
  refine w_forI (fun i δ τ => i ≤ out.length ∧ ∃ (p' : D) (ms : List (Int × Int)) (o4 o5 o6 : Option D), At δ τ [some (.cell 0), some (.int n), some (.lst (ss.map pairD)), some (.cell (r.length + 1)), o4, o5, o6] (p' :: (r ++ [.lst (ms.map pairD)])) ∧ PenOk (B + 1000 + i) p' ∧ ms.length = i ∧ ∀ (j : Nat) (s : Int × Int), j < i → out[j]? = some s → ∃ q : Int, ms[j]? = some (s.1 + q * n, s.2 + q * n) ∧ ((-10 ^ 30 ≤ s.1 + q * n ∧ s.1 + q * n ≤ 10 ^ 30) ∧ -10 ^ 30 ≤ s.2 + q * n ∧ s.2 + q * n ≤ 10 ^ 30))
    ⟨by omega, p1, [], none, none, none, ⟨rfl, rfl⟩, hp1.mono (by simp), rfl, fun j s h => absurd h (Nat.not_lt_zero _)⟩ ?_ ?_
  · rintro i y δ τ hi ⟨him, p2, ms, o4, o5, o6, ⟨rfl, rfl⟩, hp2, hl, hm⟩
    rw [List.getElem?_map] at hi
    cases e : out[i]? with
    | none => rw [e] at hi; cases hi
    | some s =>
      rw [e] at hi
      cases hi
      have hlt := (List.getElem?_eq_some_iff.mp e).1
      have bs := hs s (perm.mem_iff.mp (List.mem_of_getElem? e))
      have step : ∀ (q : Int) (p3 : D) (o4 o5 o6 : Option D), PenOk (B + 1000 + (i + 1 : Nat)) p3 → ((-10 ^ 30 ≤ s.1 + q * n ∧ s.1 + q * n ≤ 10 ^ 30) ∧ -10 ^ 30 ≤ s.2 + q * n ∧ s.2 + q * n ≤ 10 ^ 30) → ∀ σ, σ = p3 :: (r ++ [.lst (ms.map pairD ++ [.tup [.int (s.1 + q * n), .int (s.2 + q * n)]])]) → i + 1 ≤ out.length ∧ ∃ (p' : D) (ms : List (Int × Int)) (q4 q5 q6 : Option D), At [some (.cell 0), some (.int n), some (.lst (ss.map pairD)), some (.cell (r.length + 1)), o4, o5, o6] σ [some (.cell 0), some (.int n), some (.lst (ss.map pairD)), some (.cell (r.length + 1)), q4, q5, q6] (p' :: (r ++ [.lst (ms.map pairD)])) ∧ PenOk (B + 1000 + (i + 1 : Nat)) p' ∧ ms.length = i + 1 ∧ ∀ (j : Nat) (s : Int × Int), j < i + 1 → out[j]? = some s → ∃ q : Int, ms[j]? = some (s.1 + q * n, s.2 + q * n) ∧ ((-10 ^ 30 ≤ s.1 + q * n ∧ s.1 + q * n ≤ 10 ^ 30) ∧ -10 ^ 30 ≤ s.2 + q * n ∧ s.2 + q * n ≤ 10 ^ 30) := by
        rintro q p3 o4 o5 o6 hp3 hb σ rfl
        refine ⟨by omega, p3, ms ++ [(s.1 + q * n, s.2 + q * n)], _, _, _, ⟨rfl, by simp [pairD]⟩, hp3, by simp [hl], fun j s' hj hs' => ?_⟩
        by_cases c : j < i
        · obtain ⟨q', h1, h2⟩ := hm j s' c hs'
          exact ⟨q', by rw [List.getElem?_append_left (by omega)]; exact h1, h2⟩
        · have : j = i := by omega
          subst this
          rw [e] at hs'
          cases hs'
          exact ⟨q, by rw [List.getElem?_append_right (by omega), hl, Nat.sub_self]; rfl, hb⟩
      try simp only [wr_ok, w_var, w_c, w_p, w_nil, w_cons, w_call, w_tup, w_lst, w_lstC, w_dicC, w_B, w_and, w_or, w_not, w_andV, w_orV, w_if, w_chain, w_fld, w_meth, w_make, w_bm, w_rev, w_sortIt, w_get2, w_callV,
  w_next, w_seq, w_drop, w_ret, w_retN, w_break, w_cont, w_ifS, w_asg, w_gname, w_gsub, w_gtup, w_gnil, w_gcons, w_par, w_setFld, w_while, w_for, w_items, w_range1, w_lc, w_yes, w_def,
  der_int, der_bl, der_str, der_lst, der_frl, der_tup, der_dic, der_non, der_obj, der_raw, p_add, p_sub, p_mul, p_fdiv, p_mod, p_pow, p_neg, p_cmp, p_abs, p_min2, p_max2, p_eqI, p_notB, p_lenL, p_lenT, p_listL, newL_w, newLC_w, p_ixL, p_ixT,
  List.map_cons, List.map_nil, List.length_cons, List.length_nil, List.replicate_zero, List.replicate_succ, List.replicate, List.cons_append, List.nil_append, List.append_nil, List.getElem?_cons_zero, List.getElem?_cons_succ, List.set_cons_zero, List.set_cons_succ,
  List.zip_cons_cons, List.zip_nil_left, List.zip_nil_right, List.foldl_cons, List.foldl_nil, Nat.reduceAdd, Nat.reduceSub, Nat.zero_add, Nat.add_zero, Nat.reduceLeDiff, true_and, and_true, if_true, Bool.false_eq_true, if_false, der_pair]
      refine draw_then hp2 (by omega) (by omega) (by omega) fun x p3 hp3 x0 x1 => ?_
      have hx : -(4 * n) ≤ n * (x - 4) ∧ n * (x - 4) ≤ 4 * n := by
        obtain rfl | rfl | rfl | rfl | rfl | rfl | rfl | rfl | rfl : x = 0 ∨ x = 1 ∨ x = 2 ∨ x = 3 ∨ x = 4 ∨ x = 5 ∨ x = 6 ∨ x = 7 ∨ x = 8 := by omega
        all_goals omega
      have hc : n * (x - 4) = (x - 4) * n := Int.mul_comm _ _
      try simp only [wr_ok, w_var, w_c, w_p, w_nil, w_cons, w_call, w_tup, w_lst, w_lstC, w_dicC, w_B, w_and, w_or, w_not, w_andV, w_orV, w_if, w_chain, w_fld, w_meth, w_make, w_bm, w_rev, w_sortIt, w_get2, w_callV,
  w_next, w_seq, w_drop, w_ret, w_retN, w_break, w_cont, w_ifS, w_asg, w_gname, w_gsub, w_gtup, w_gnil, w_gcons, w_par, w_setFld, w_while, w_for, w_items, w_range1, w_lc, w_yes, w_def,
  der_int, der_bl, der_str, der_lst, der_frl, der_tup, der_dic, der_non, der_obj, der_raw, p_add, p_sub, p_mul, p_fdiv, p_mod, p_pow, p_neg, p_cmp, p_abs, p_min2, p_max2, p_eqI, p_notB, p_lenL, p_lenT, p_listL, newL_w, newLC_w, p_ixL, p_ixT,
  List.map_cons, List.map_nil, List.length_cons, List.length_nil, List.replicate_zero, List.replicate_succ, List.replicate, List.cons_append, List.nil_append, List.append_nil, List.getElem?_cons_zero, List.getElem?_cons_succ, List.set_cons_zero, List.set_cons_succ,
  List.zip_cons_cons, List.zip_nil_left, List.zip_nil_right, List.foldl_cons, List.foldl_nil, Nat.reduceAdd, Nat.reduceSub, Nat.zero_add, Nat.add_zero, Nat.reduceLeDiff, true_and, and_true, if_true, Bool.false_eq_true, if_false]
      refine ⟨⟨big_of (by omega), big_of (by omega)⟩, ?_⟩
      have e30 : (10 : Int) ^ (30 : Int).toNat = 10 ^ 30 := rfl
      rw [e30]
      refine ⟨⟨by decide, by decide, by decide⟩, ?_⟩
      generalize hA : (if s.2 + n * (x - 4) < 0 then -(s.2 + n * (x - 4)) else s.2 + n * (x - 4)) = A
      generalize hBq : (if s.1 + n * (x - 4) < 0 then -(s.1 + n * (x - 4)) else s.1 + n * (x - 4)) = A'
      generalize hM : (if A > A' then A else A') = mx
      by_cases hq : 10 ^ 30 < mx
      · have e1 : decide (10 ^ 30 < mx) = true := decide_eq_true hq
        try simp only [wr_ok, w_var, w_c, w_p, w_nil, w_cons, w_call, w_tup, w_lst, w_lstC, w_dicC, w_B, w_and, w_or, w_not, w_andV, w_orV, w_if, w_chain, w_fld, w_meth, w_make, w_bm, w_rev, w_sortIt, w_get2, w_callV,
  w_next, w_seq, w_drop, w_ret, w_retN, w_break, w_cont, w_ifS, w_asg, w_gname, w_gsub, w_gtup, w_gnil, w_gcons, w_par, w_setFld, w_while, w_for, w_items, w_range1, w_lc, w_yes, w_def,
  der_int, der_bl, der_str, der_lst, der_frl, der_tup, der_dic, der_non, der_obj, der_raw, p_add, p_sub, p_mul, p_fdiv, p_mod, p_pow, p_neg, p_cmp, p_abs, p_min2, p_max2, p_eqI, p_notB, p_lenL, p_lenT, p_listL, newL_w, newLC_w, p_ixL, p_ixT,
  List.map_cons, List.map_nil, List.length_cons, List.length_nil, List.replicate_zero, List.replicate_succ, List.replicate, List.cons_append, List.nil_append, List.append_nil, List.getElem?_cons_zero, List.getElem?_cons_succ, List.set_cons_zero, List.set_cons_succ,
  List.zip_cons_cons, List.zip_nil_left, List.zip_nil_right, List.foldl_cons, List.foldl_nil, Nat.reduceAdd, Nat.reduceSub, Nat.zero_add, Nat.add_zero, Nat.reduceLeDiff, true_and, and_true, if_true, Bool.false_eq_true, if_false, e1, der_c1, isT_lst, p_append1]
        refine ⟨by rw [List.length_map, hl]; unfold cap; omega, ?_⟩
        refine step 0 p3 _ _ _ (hp3.mono (by omega)) (by simp only [Int.zero_mul, Int.add_zero]; exact bs) _ ?_
        simp
      · have e1 : decide (10 ^ 30 < mx) = false := decide_eq_false hq
        try simp only [wr_ok, w_var, w_c, w_p, w_nil, w_cons, w_call, w_tup, w_lst, w_lstC, w_dicC, w_B, w_and, w_or, w_not, w_andV, w_orV, w_if, w_chain, w_fld, w_meth, w_make, w_bm, w_rev, w_sortIt, w_get2, w_callV,
  w_next, w_seq, w_drop, w_ret, w_retN, w_break, w_cont, w_ifS, w_asg, w_gname, w_gsub, w_gtup, w_gnil, w_gcons, w_par, w_setFld, w_while, w_for, w_items, w_range1, w_lc, w_yes, w_def,
  der_int, der_bl, der_str, der_lst, der_frl, der_tup, der_dic, der_non, der_obj, der_raw, p_add, p_sub, p_mul, p_fdiv, p_mod, p_pow, p_neg, p_cmp, p_abs, p_min2, p_max2, p_eqI, p_notB, p_lenL, p_lenT, p_listL, newL_w, newLC_w, p_ixL, p_ixT,
  List.map_cons, List.map_nil, List.length_cons, List.length_nil, List.replicate_zero, List.replicate_succ, List.replicate, List.cons_append, List.nil_append, List.append_nil, List.getElem?_cons_zero, List.getElem?_cons_succ, List.set_cons_zero, List.set_cons_succ,
  List.zip_cons_cons, List.zip_nil_left, List.zip_nil_right, List.foldl_cons, List.foldl_nil, Nat.reduceAdd, Nat.reduceSub, Nat.zero_add, Nat.add_zero, Nat.reduceLeDiff, true_and, and_true, if_true, Bool.false_eq_true, if_false, e1, der_c1, isT_lst, p_append1]
        refine ⟨by rw [List.length_map, hl]; unfold cap; omega, ?_⟩
        have hA1 : A ≤ 10 ^ 30 ∧ A' ≤ 10 ^ 30 := by revert hM; split <;> (intro hM; omega)
        have hA2 : -10 ^ 30 ≤ s.2 + n * (x - 4) ∧ s.2 + n * (x - 4) ≤ 10 ^ 30 := by revert hA; split <;> (intro hA; omega)
        have hA3 : -10 ^ 30 ≤ s.1 + n * (x - 4) ∧ s.1 + n * (x - 4) ≤ 10 ^ 30 := by revert hBq; split <;> (intro hBq; omega)
        refine step (x - 4) p3 _ _ _ (hp3.mono (by omega)) ?_ _ ?_
        · rw [← hc]; exact ⟨hA3, hA2⟩
        · rw [hc]
  · rintro δ τ ⟨him, p2, ms, o4, o5, o6, ⟨rfl, rfl⟩, hp2, hl, hm⟩
    simp only [List.length_map] at hp2 hl hm
    try simp only [wr_ok, w_var, w_c, w_p, w_nil, w_cons, w_call, w_tup, w_lst, w_lstC, w_dicC, w_B, w_and, w_or, w_not, w_andV, w_orV, w_if, w_chain, w_fld, w_meth, w_make, w_bm, w_rev, w_sortIt, w_get2, w_callV,
  w_next, w_seq, w_drop, w_ret, w_retN, w_break, w_cont, w_ifS, w_asg, w_gname, w_gsub, w_gtup, w_gnil, w_gcons, w_par, w_setFld, w_while, w_for, w_items, w_range1, w_lc, w_yes, w_def,
  der_int, der_bl, der_str, der_lst, der_frl, der_tup, der_dic, der_non, der_obj, der_raw, p_add, p_sub, p_mul, p_fdiv, p_mod, p_pow, p_neg, p_cmp, p_abs, p_min2, p_max2, p_eqI, p_notB, p_lenL, p_lenT, p_listL, newL_w, newLC_w, p_ixL, p_ixT,
  List.map_cons, List.map_nil, List.length_cons, List.length_nil, List.replicate_zero, List.replicate_succ, List.replicate, List.cons_append, List.nil_append, List.append_nil, List.getElem?_cons_zero, List.getElem?_cons_succ, List.set_cons_zero, List.set_cons_succ,
  List.zip_cons_cons, List.zip_nil_left, List.zip_nil_right, List.foldl_cons, List.foldl_nil, Nat.reduceAdd, Nat.reduceSub, Nat.zero_add, Nat.add_zero, Nat.reduceLeDiff, true_and, and_true, if_true, Bool.false_eq_true, if_false]
    refine ⟨p2, _, .lst (ms.map pairD), rfl, hp2.pla, pla_pairs _, fun c hc => hc, K ms p2 (hp2.mono (by omega)) (by omega) (fun x hx => ?_) (fun s hs => ?_) fun x hx => ?_⟩
    · obtain ⟨j, hj⟩ := List.getElem?_of_mem hx
      have hjl := (List.getElem?_eq_some_iff.mp hj).1
      obtain ⟨q, h1, h2⟩ := hm j (out[j]'(by omega)) (by omega) (List.getElem?_eq_getElem (by omega))
      rw [hj] at h1
      cases h1
      exact h2
    · obtain ⟨j, hj⟩ := List.getElem?_of_mem (perm.mem_iff.mpr hs)
      obtain ⟨q, h1, h2⟩ := hm j s (List.getElem?_eq_some_iff.mp hj).1 hj
      exact ⟨_, List.mem_of_getElem? h1, q, rfl⟩
    · obtain ⟨j, hj⟩ := List.getElem?_of_mem hx
      have hjl := (List.getElem?_eq_some_iff.mp hj).1
      obtain ⟨q, h1, h2⟩ := hm j (out[j]'(by omega)) (by omega) (List.getElem?_eq_getElem (by omega))
      rw [hj] at h1
      cases h1
      exact ⟨_, perm.mem_iff.mp (List.getElem_mem _), q, rfl⟩
/-- the rotation of a map of one service -/
theorem orb_pair {C T : PySem.Addr} {d a : Int} {k0 s0 : Nat} {y : Int} (n1 : 1 ≤ n) (n2 : n ≤ 100) (hd : d.natAbs ≤ 100) (ha : a.natAbs ≤ 100)
    (O0 : ∀ f : Int → Int, (∀ t v, IsVal n [(d, a)] t v → f t = v) → (∀ t j, f (t + j * n) = f t + j * n) → Orb n f 0 k0 s0 ∧ frD ((itr f k0 0 - itr f s0 0) / n) ((k0 : Int) - s0) = pairD (y, 1))
    (K : Φ (pairD (y, 1)) τ) {δ : DEnv} {ga : DE} (hg : ga δ τ = .ok (.lst [.tup [.int d, .int a]]) τ) : WR (dFrz (dMake C (m_StepMap_init C) [] [dC (.int n), ga]) δ τ) fun d τ1 => WR (m_rotation C T [d] τ1) Φ := by
  have sv : Svs [(d, a)] := ⟨by simp, by simp, fun s hs => by rw [List.mem_singleton.mp hs]; exact ⟨by simp only; omega, by simp only; omega⟩⟩
  refine make_then (ss := [(d, a)]) (.inl rfl) n1 (by omega) sv (fun f Rf => ?_) rfl hg
  have lf := Rf.len
  have bf : Bd (10 ^ 32) f := fun k hk => by
    have := bd_of (M := 10 ^ 30) Rf n1 sv.sv k hk
    omega
  try simp only [wr_ok, w_var, w_c, w_p, w_nil, w_cons, w_call, w_tup, w_lst, w_lstC, w_dicC, w_B, w_and, w_or, w_not, w_andV, w_orV, w_if, w_chain, w_fld, w_meth, w_make, w_bm, w_rev, w_sortIt, w_get2, w_callV,
  w_next, w_seq, w_drop, w_ret, w_retN, w_break, w_cont, w_ifS, w_asg, w_gname, w_gsub, w_gtup, w_gnil, w_gcons, w_par, w_setFld, w_while, w_for, w_items, w_range1, w_lc, w_yes, w_def,
  der_int, der_bl, der_str, der_lst, der_frl, der_tup, der_dic, der_non, der_obj, der_raw, p_add, p_sub, p_mul, p_fdiv, p_mod, p_pow, p_neg, p_cmp, p_abs, p_min2, p_max2, p_eqI, p_notB, p_lenL, p_lenT, p_listL, newL_w, newLC_w, p_ixL, p_ixT,
  List.map_cons, List.map_nil, List.length_cons, List.length_nil, List.replicate_zero, List.replicate_succ, List.replicate, List.cons_append, List.nil_append, List.append_nil, List.getElem?_cons_zero, List.getElem?_cons_succ, List.set_cons_zero, List.set_cons_succ,
  List.zip_cons_cons, List.zip_nil_left, List.zip_nil_right, List.foldl_cons, List.foldl_nil, Nat.reduceAdd, Nat.reduceSub, Nat.zero_add, Nat.add_zero, Nat.reduceLeDiff, true_and, and_true, if_true, Bool.false_eq_true, if_false]
  refine rotation_of Rf.mp n1 (by omega) (by simp at lf; omega) bf (by decide) fun k s O hk => ?_
  obtain ⟨O1, e⟩ := O0 (DL.val n f) (fun t v h => (val_of Rf n1 h).symm) (fun t j => val_shift Rf.mp n1 t j)
  obtain ⟨rfl, rfl⟩ := O.uniq O1
  rw [e]
  exact K
end
theorem law_true_k27 (a b c d e f g : PySem.Addr) (ns : List Int) (h : ns.length ≤ 63) : ∃ τ, m_law_k27 a b c d e f g [.frl (ns.map D.int)] [] = .ok (.bl true) τ := by
  refine law_of ?_
  unfold m_law_k27 b_law_k27
  refine law_exit ?_
  rw [w_def]
  generalize hS : D.frl (ns.map D.int) = S
  refine w_cut (fun δ τ => ∃ p', At δ τ (some S :: some (.cell 0) :: List.replicate 5 none) [p'] ∧ PenOk 0 p') ?_ ?_
  · rw [← hS]
    try simp only [wr_ok, w_var, w_c, w_p, w_nil, w_cons, w_call, w_tup, w_lst, w_lstC, w_dicC, w_B, w_and, w_or, w_not, w_andV, w_orV, w_if, w_chain, w_fld, w_meth, w_make, w_bm, w_rev, w_sortIt, w_get2, w_callV,
  w_next, w_seq, w_drop, w_ret, w_retN, w_break, w_cont, w_ifS, w_asg, w_gname, w_gsub, w_gtup, w_gnil, w_gcons, w_par, w_setFld, w_while, w_for, w_items, w_range1, w_lc, w_yes, w_def,
  der_int, der_bl, der_str, der_lst, der_frl, der_tup, der_dic, der_non, der_obj, der_raw, p_add, p_sub, p_mul, p_fdiv, p_mod, p_pow, p_neg, p_cmp, p_abs, p_min2, p_max2, p_eqI, p_notB, p_lenL, p_lenT, p_listL, newL_w, newLC_w, p_ixL, p_ixT,
  List.map_cons, List.map_nil, List.length_cons, List.length_nil, List.replicate_zero, List.replicate_succ, List.replicate, List.cons_append, List.nil_append, List.append_nil, List.getElem?_cons_zero, List.getElem?_cons_succ, List.set_cons_zero, List.set_cons_succ,
  List.zip_cons_cons, List.zip_nil_left, List.zip_nil_right, List.foldl_cons, List.foldl_nil, Nat.reduceAdd, Nat.reduceSub, Nat.zero_add, Nat.add_zero, Nat.reduceLeDiff, true_and, and_true, if_true, Bool.false_eq_true, if_false]
    exact pen_then fun p' hp' => ⟨p', ⟨rfl, rfl⟩, hp'⟩
  rintro δ τ ⟨p0, ⟨rfl, rfl⟩, hp0⟩
  refine w_cut (fun δ τ => ∃ p' o2 o3 o4 o5 o6, At δ τ [some (S), some (.cell 0), o2, o3, o4, o5, o6] [p'] ∧ PenOk (10 ^ 7) p') ?_ ?_
  · try simp only [wr_ok, w_var, w_c, w_p, w_nil, w_cons, w_call, w_tup, w_lst, w_lstC, w_dicC, w_B, w_and, w_or, w_not, w_andV, w_orV, w_if, w_chain, w_fld, w_meth, w_make, w_bm, w_rev, w_sortIt, w_get2, w_callV,
  w_next, w_seq, w_drop, w_ret, w_retN, w_break, w_cont, w_ifS, w_asg, w_gname, w_gsub, w_gtup, w_gnil, w_gcons, w_par, w_setFld, w_while, w_for, w_items, w_range1, w_lc, w_yes, w_def,
  der_int, der_bl, der_str, der_lst, der_frl, der_tup, der_dic, der_non, der_obj, der_raw, p_add, p_sub, p_mul, p_fdiv, p_mod, p_pow, p_neg, p_cmp, p_abs, p_min2, p_max2, p_eqI, p_notB, p_lenL, p_lenT, p_listL, newL_w, newLC_w, p_ixL, p_ixT,
  List.map_cons, List.map_nil, List.length_cons, List.length_nil, List.replicate_zero, List.replicate_succ, List.replicate, List.cons_append, List.nil_append, List.append_nil, List.getElem?_cons_zero, List.getElem?_cons_succ, List.set_cons_zero, List.set_cons_succ,
  List.zip_cons_cons, List.zip_nil_left, List.zip_nil_right, List.foldl_cons, List.foldl_nil, Nat.reduceAdd, Nat.reduceSub, Nat.zero_add, Nat.add_zero, Nat.reduceLeDiff, true_and, and_true, if_true, Bool.false_eq_true, if_false]
    refine ⟨by decide, ?_⟩
    refine w_forI (fun i δ τ => ∃ p' o2 o3 o4 o5 o6, At δ τ [some (S), some (.cell 0), o2, o3, o4, o5, o6] [p'] ∧ PenOk (i * 10 ^ 6) p')
      ⟨p0, none, none, none, none, none, ⟨rfl, rfl⟩, by simpa using hp0⟩ ?_ (fun δ τ ⟨p', o2, o3, o4, o5, o6, ⟨e1, e2⟩, hp'⟩ => by subst e1 e2; exact ⟨p', o2, o3, o4, o5, o6, ⟨rfl, rfl⟩, hp'.mono (by simp)⟩)
    rintro i y δ τ hi ⟨p', o2, o3, o4, o5, o6, ⟨rfl, rfl⟩, hp'⟩
    have hlt : i < 8 := by
      have := (List.getElem?_eq_some_iff.mp hi).1
      simpa using this
    rw [List.getElem?_map, List.getElem?_range (by omega)] at hi
    cases hi
    rw [w_gname]
    
    refine w_cut (fun δ τ => ∃ (p' : D) (n : Int) (ss : List (Int × Int)), At δ τ [some (S), some (.cell 0), some (.int ((i : Nat) : Int)), some (.int n), some (.lst (ss.map pairD)), o5, o6] [p'] ∧ PenOk (i * 10 ^ 6 + 7000) p' ∧ (1 ≤ n ∧ n ≤ 10 ^ 18) ∧ Svs ss) ?_ ?_
    · try simp only [wr_ok, w_var, w_c, w_p, w_nil, w_cons, w_call, w_tup, w_lst, w_lstC, w_dicC, w_B, w_and, w_or, w_not, w_andV, w_orV, w_if, w_chain, w_fld, w_meth, w_make, w_bm, w_rev, w_sortIt, w_get2, w_callV,
  w_next, w_seq, w_drop, w_ret, w_retN, w_break, w_cont, w_ifS, w_asg, w_gname, w_gsub, w_gtup, w_gnil, w_gcons, w_par, w_setFld, w_while, w_for, w_items, w_range1, w_lc, w_yes, w_def,
  der_int, der_bl, der_str, der_lst, der_frl, der_tup, der_dic, der_non, der_obj, der_raw, p_add, p_sub, p_mul, p_fdiv, p_mod, p_pow, p_neg, p_cmp, p_abs, p_min2, p_max2, p_eqI, p_notB, p_lenL, p_lenT, p_listL, newL_w, newLC_w, p_ixL, p_ixT,
  List.map_cons, List.map_nil, List.length_cons, List.length_nil, List.replicate_zero, List.replicate_succ, List.replicate, List.cons_append, List.nil_append, List.append_nil, List.getElem?_cons_zero, List.getElem?_cons_succ, List.set_cons_zero, List.set_cons_succ,
  List.zip_cons_cons, List.zip_nil_left, List.zip_nil_right, List.foldl_cons, List.foldl_nil, Nat.reduceAdd, Nat.reduceSub, Nat.zero_add, Nat.add_zero, Nat.reduceLeDiff, true_and, and_true, if_true, Bool.false_eq_true, if_false]
      split
      · refine orbit_map_then hp' (by omega) fun n ss p1 hp1 M => ?_
        try simp only [wr_ok, w_var, w_c, w_p, w_nil, w_cons, w_call, w_tup, w_lst, w_lstC, w_dicC, w_B, w_and, w_or, w_not, w_andV, w_orV, w_if, w_chain, w_fld, w_meth, w_make, w_bm, w_rev, w_sortIt, w_get2, w_callV,
  w_next, w_seq, w_drop, w_ret, w_retN, w_break, w_cont, w_ifS, w_asg, w_gname, w_gsub, w_gtup, w_gnil, w_gcons, w_par, w_setFld, w_while, w_for, w_items, w_range1, w_lc, w_yes, w_def,
  der_int, der_bl, der_str, der_lst, der_frl, der_tup, der_dic, der_non, der_obj, der_raw, p_add, p_sub, p_mul, p_fdiv, p_mod, p_pow, p_neg, p_cmp, p_abs, p_min2, p_max2, p_eqI, p_notB, p_lenL, p_lenT, p_listL, newL_w, newLC_w, p_ixL, p_ixT,
  List.map_cons, List.map_nil, List.length_cons, List.length_nil, List.replicate_zero, List.replicate_succ, List.replicate, List.cons_append, List.nil_append, List.append_nil, List.getElem?_cons_zero, List.getElem?_cons_succ, List.set_cons_zero, List.set_cons_succ,
  List.zip_cons_cons, List.zip_nil_left, List.zip_nil_right, List.foldl_cons, List.foldl_nil, Nat.reduceAdd, Nat.reduceSub, Nat.zero_add, Nat.add_zero, Nat.reduceLeDiff, true_and, and_true, if_true, Bool.false_eq_true, if_false]
        exact ⟨p1, n, ss, ⟨rfl, rfl⟩, hp1, ⟨M.n1, M.n2⟩, M.svs⟩
      · have e18 : (10 : Int) ^ (18 : Int).toNat = 10 ^ 18 := rfl
        try simp only [wr_ok, w_var, w_c, w_p, w_nil, w_cons, w_call, w_tup, w_lst, w_lstC, w_dicC, w_B, w_and, w_or, w_not, w_andV, w_orV, w_if, w_chain, w_fld, w_meth, w_make, w_bm, w_rev, w_sortIt, w_get2, w_callV,
  w_next, w_seq, w_drop, w_ret, w_retN, w_break, w_cont, w_ifS, w_asg, w_gname, w_gsub, w_gtup, w_gnil, w_gcons, w_par, w_setFld, w_while, w_for, w_items, w_range1, w_lc, w_yes, w_def,
  der_int, der_bl, der_str, der_lst, der_frl, der_tup, der_dic, der_non, der_obj, der_raw, p_add, p_sub, p_mul, p_fdiv, p_mod, p_pow, p_neg, p_cmp, p_abs, p_min2, p_max2, p_eqI, p_notB, p_lenL, p_lenT, p_listL, newL_w, newLC_w, p_ixL, p_ixT,
  List.map_cons, List.map_nil, List.length_cons, List.length_nil, List.replicate_zero, List.replicate_succ, List.replicate, List.cons_append, List.nil_append, List.append_nil, List.getElem?_cons_zero, List.getElem?_cons_succ, List.set_cons_zero, List.set_cons_succ,
  List.zip_cons_cons, List.zip_nil_left, List.zip_nil_right, List.foldl_cons, List.foldl_nil, Nat.reduceAdd, Nat.reduceSub, Nat.zero_add, Nat.add_zero, Nat.reduceLeDiff, true_and, and_true, if_true, Bool.false_eq_true, if_false]
        rw [e18]
        refine ⟨⟨by decide, by decide, by decide⟩, ⟨by decide, by decide, by decide⟩, ?_⟩
        refine close_services_then hp' (by omega) (by decide) (by decide) (by decide) (by decide) fun ss p1 hp1 l1 l2 hs => ?_
        try simp only [wr_ok, w_var, w_c, w_p, w_nil, w_cons, w_call, w_tup, w_lst, w_lstC, w_dicC, w_B, w_and, w_or, w_not, w_andV, w_orV, w_if, w_chain, w_fld, w_meth, w_make, w_bm, w_rev, w_sortIt, w_get2, w_callV,
  w_next, w_seq, w_drop, w_ret, w_retN, w_break, w_cont, w_ifS, w_asg, w_gname, w_gsub, w_gtup, w_gnil, w_gcons, w_par, w_setFld, w_while, w_for, w_items, w_range1, w_lc, w_yes, w_def,
  der_int, der_bl, der_str, der_lst, der_frl, der_tup, der_dic, der_non, der_obj, der_raw, p_add, p_sub, p_mul, p_fdiv, p_mod, p_pow, p_neg, p_cmp, p_abs, p_min2, p_max2, p_eqI, p_notB, p_lenL, p_lenT, p_listL, newL_w, newLC_w, p_ixL, p_ixT,
  List.map_cons, List.map_nil, List.length_cons, List.length_nil, List.replicate_zero, List.replicate_succ, List.replicate, List.cons_append, List.nil_append, List.append_nil, List.getElem?_cons_zero, List.getElem?_cons_succ, List.set_cons_zero, List.set_cons_succ,
  List.zip_cons_cons, List.zip_nil_left, List.zip_nil_right, List.foldl_cons, List.foldl_nil, Nat.reduceAdd, Nat.reduceSub, Nat.zero_add, Nat.add_zero, Nat.reduceLeDiff, true_and, and_true, if_true, Bool.false_eq_true, if_false]
        exact ⟨p1, _, ss, ⟨rfl, rfl⟩, hp1.mono (by omega), ⟨by decide, by decide⟩, l1, by omega, fun s h => by
          obtain ⟨q1, q2, q3, q4⟩ := hs s h
          omega⟩
    rintro δ τ ⟨p1, n, ss, ⟨rfl, rfl⟩, hp1, ⟨n1, n2⟩, sv⟩
    have sl := sv.s2
    have hs99 : ∀ s ∈ ss, s.1.natAbs ≤ 10 ^ 99 := fun s hs => by have := sv.sv s hs; omega
    obtain ⟨rows, R⟩ := exrows n1 (by omega) sv.s1 (by omega) (fun s hs => by have := hs99 s hs; omega)
    have lf := R.len
    have bf : Bd (10 ^ 32) rows := fun k hk => by
      have := bd_of (M := 10 ^ 30) R n1 sv.sv k hk
      omega
    refine w_cut (fun δ τ => ∃ (k s : Nat), At δ τ [some (S), some (.cell 0), some (.int ((i : Nat) : Int)), some (.int n), some (.lst (ss.map pairD)), some (frD ((itr (DL.val n rows) k 0 - itr (DL.val n rows) s 0) / n) (k - s)), o6] [p1] ∧ Orb n (DL.val n rows) 0 k s ∧ k ≤ 1001) ?_ ?_
    · try simp only [wr_ok, w_var, w_c, w_p, w_nil, w_cons, w_call, w_tup, w_lst, w_lstC, w_dicC, w_B, w_and, w_or, w_not, w_andV, w_orV, w_if, w_chain, w_fld, w_meth, w_make, w_bm, w_rev, w_sortIt, w_get2, w_callV,
  w_next, w_seq, w_drop, w_ret, w_retN, w_break, w_cont, w_ifS, w_asg, w_gname, w_gsub, w_gtup, w_gnil, w_gcons, w_par, w_setFld, w_while, w_for, w_items, w_range1, w_lc, w_yes, w_def,
  der_int, der_bl, der_str, der_lst, der_frl, der_tup, der_dic, der_non, der_obj, der_raw, p_add, p_sub, p_mul, p_fdiv, p_mod, p_pow, p_neg, p_cmp, p_abs, p_min2, p_max2, p_eqI, p_notB, p_lenL, p_lenT, p_listL, newL_w, newLC_w, p_ixL, p_ixT,
  List.map_cons, List.map_nil, List.length_cons, List.length_nil, List.replicate_zero, List.replicate_succ, List.replicate, List.cons_append, List.nil_append, List.append_nil, List.getElem?_cons_zero, List.getElem?_cons_succ, List.set_cons_zero, List.set_cons_succ,
  List.zip_cons_cons, List.zip_nil_left, List.zip_nil_right, List.foldl_cons, List.foldl_nil, Nat.reduceAdd, Nat.reduceSub, Nat.zero_add, Nat.add_zero, Nat.reduceLeDiff, true_and, and_true, if_true, Bool.false_eq_true, if_false]
      refine law_rotation_of R n1 (by omega) (by omega) hs99 bf (by decide) fun k s O hk => ?_
      try simp only [wr_ok, w_var, w_c, w_p, w_nil, w_cons, w_call, w_tup, w_lst, w_lstC, w_dicC, w_B, w_and, w_or, w_not, w_andV, w_orV, w_if, w_chain, w_fld, w_meth, w_make, w_bm, w_rev, w_sortIt, w_get2, w_callV,
  w_next, w_seq, w_drop, w_ret, w_retN, w_break, w_cont, w_ifS, w_asg, w_gname, w_gsub, w_gtup, w_gnil, w_gcons, w_par, w_setFld, w_while, w_for, w_items, w_range1, w_lc, w_yes, w_def,
  der_int, der_bl, der_str, der_lst, der_frl, der_tup, der_dic, der_non, der_obj, der_raw, p_add, p_sub, p_mul, p_fdiv, p_mod, p_pow, p_neg, p_cmp, p_abs, p_min2, p_max2, p_eqI, p_notB, p_lenL, p_lenT, p_listL, newL_w, newLC_w, p_ixL, p_ixT,
  List.map_cons, List.map_nil, List.length_cons, List.length_nil, List.replicate_zero, List.replicate_succ, List.replicate, List.cons_append, List.nil_append, List.append_nil, List.getElem?_cons_zero, List.getElem?_cons_succ, List.set_cons_zero, List.set_cons_succ,
  List.zip_cons_cons, List.zip_nil_left, List.zip_nil_right, List.foldl_cons, List.foldl_nil, Nat.reduceAdd, Nat.reduceSub, Nat.zero_add, Nat.add_zero, Nat.reduceLeDiff, true_and, and_true, if_true, Bool.false_eq_true, if_false]
      exact ⟨k, s, ⟨rfl, rfl⟩, O, hk⟩
    rintro δ τ ⟨k, s, ⟨rfl, rfl⟩, O, hk⟩
    obtain ⟨x, z, ef, xb, zb⟩ := fr_small R.mp n1 (by omega) bf (by decide) O hk
    have ef : frD ((itr (DL.val n rows) k 0 - itr (DL.val n rows) s 0) / n) (k - s) = pairD (x, z) := ef
    have xz : Sml (x, z) := ⟨xb, zb⟩
    have same : ∀ {C T : PySem.Addr} {σ : List D} {Φ : D → List D → Prop} {rows' : List (Int × Int)}, rows' = rows → Φ (pairD (x, z)) σ → WR (m_rotation C T [.obj C (mapF n rows')] σ) Φ := by
      rintro C T σ Φ rows' rfl K
      refine rotation_of R.mp n1 (by omega) (by omega) bf (by decide) fun k' s' O' hk' => ?_
      obtain ⟨rfl, rfl⟩ := O.uniq O'
      rw [ef]
      exact K
    rw [ef]
    refine w_cut (fun δ τ => At δ τ [some (S), some (.cell 0), some (.int ((i : Nat) : Int)), some (.int n), some (.lst (ss.map pairD)), some (pairD (x, z)), o6] [p1]) ?_ ?_
    · try simp only [wr_ok, w_var, w_c, w_p, w_nil, w_cons, w_call, w_tup, w_lst, w_lstC, w_dicC, w_B, w_and, w_or, w_not, w_andV, w_orV, w_if, w_chain, w_fld, w_meth, w_make, w_bm, w_rev, w_sortIt, w_get2, w_callV,
  w_next, w_seq, w_drop, w_ret, w_retN, w_break, w_cont, w_ifS, w_asg, w_gname, w_gsub, w_gtup, w_gnil, w_gcons, w_par, w_setFld, w_while, w_for, w_items, w_range1, w_lc, w_yes, w_def,
  der_int, der_bl, der_str, der_lst, der_frl, der_tup, der_dic, der_non, der_obj, der_raw, p_add, p_sub, p_mul, p_fdiv, p_mod, p_pow, p_neg, p_cmp, p_abs, p_min2, p_max2, p_eqI, p_notB, p_lenL, p_lenT, p_listL, newL_w, newLC_w, p_ixL, p_ixT,
  List.map_cons, List.map_nil, List.length_cons, List.length_nil, List.replicate_zero, List.replicate_succ, List.replicate, List.cons_append, List.nil_append, List.append_nil, List.getElem?_cons_zero, List.getElem?_cons_succ, List.set_cons_zero, List.set_cons_succ,
  List.zip_cons_cons, List.zip_nil_left, List.zip_nil_right, List.foldl_cons, List.foldl_nil, Nat.reduceAdd, Nat.reduceSub, Nat.zero_add, Nat.add_zero, Nat.reduceLeDiff, true_and, and_true, if_true, Bool.false_eq_true, if_false]
      refine make_then (.inl rfl) n1 n2 sv (fun f Rf => ?_) rfl rfl
      try simp only [wr_ok, w_var, w_c, w_p, w_nil, w_cons, w_call, w_tup, w_lst, w_lstC, w_dicC, w_B, w_and, w_or, w_not, w_andV, w_orV, w_if, w_chain, w_fld, w_meth, w_make, w_bm, w_rev, w_sortIt, w_get2, w_callV,
  w_next, w_seq, w_drop, w_ret, w_retN, w_break, w_cont, w_ifS, w_asg, w_gname, w_gsub, w_gtup, w_gnil, w_gcons, w_par, w_setFld, w_while, w_for, w_items, w_range1, w_lc, w_yes, w_def,
  der_int, der_bl, der_str, der_lst, der_frl, der_tup, der_dic, der_non, der_obj, der_raw, p_add, p_sub, p_mul, p_fdiv, p_mod, p_pow, p_neg, p_cmp, p_abs, p_min2, p_max2, p_eqI, p_notB, p_lenL, p_lenT, p_listL, newL_w, newLC_w, p_ixL, p_ixT,
  List.map_cons, List.map_nil, List.length_cons, List.length_nil, List.replicate_zero, List.replicate_succ, List.replicate, List.cons_append, List.nil_append, List.append_nil, List.getElem?_cons_zero, List.getElem?_cons_succ, List.set_cons_zero, List.set_cons_succ,
  List.zip_cons_cons, List.zip_nil_left, List.zip_nil_right, List.foldl_cons, List.foldl_nil, Nat.reduceAdd, Nat.reduceSub, Nat.zero_add, Nat.add_zero, Nat.reduceLeDiff, true_and, and_true, if_true, Bool.false_eq_true, if_false]
      refine same (Rf.unique R n1 fun _ _ => Iff.rfl) ?_
      rw [repr_pair xz]
      try simp only [wr_ok, w_var, w_c, w_p, w_nil, w_cons, w_call, w_tup, w_lst, w_lstC, w_dicC, w_B, w_and, w_or, w_not, w_andV, w_orV, w_if, w_chain, w_fld, w_meth, w_make, w_bm, w_rev, w_sortIt, w_get2, w_callV,
  w_next, w_seq, w_drop, w_ret, w_retN, w_break, w_cont, w_ifS, w_asg, w_gname, w_gsub, w_gtup, w_gnil, w_gcons, w_par, w_setFld, w_while, w_for, w_items, w_range1, w_lc, w_yes, w_def,
  der_int, der_bl, der_str, der_lst, der_frl, der_tup, der_dic, der_non, der_obj, der_raw, p_add, p_sub, p_mul, p_fdiv, p_mod, p_pow, p_neg, p_cmp, p_abs, p_min2, p_max2, p_eqI, p_notB, p_lenL, p_lenT, p_listL, newL_w, newLC_w, p_ixL, p_ixT,
  List.map_cons, List.map_nil, List.length_cons, List.length_nil, List.replicate_zero, List.replicate_succ, List.replicate, List.cons_append, List.nil_append, List.append_nil, List.getElem?_cons_zero, List.getElem?_cons_succ, List.set_cons_zero, List.set_cons_succ,
  List.zip_cons_cons, List.zip_nil_left, List.zip_nil_right, List.foldl_cons, List.foldl_nil, Nat.reduceAdd, Nat.reduceSub, Nat.zero_add, Nat.add_zero, Nat.reduceLeDiff, true_and, and_true, if_true, Bool.false_eq_true, if_false]
      rw [repr_pair xz]
      try simp only [wr_ok, w_var, w_c, w_p, w_nil, w_cons, w_call, w_tup, w_lst, w_lstC, w_dicC, w_B, w_and, w_or, w_not, w_andV, w_orV, w_if, w_chain, w_fld, w_meth, w_make, w_bm, w_rev, w_sortIt, w_get2, w_callV,
  w_next, w_seq, w_drop, w_ret, w_retN, w_break, w_cont, w_ifS, w_asg, w_gname, w_gsub, w_gtup, w_gnil, w_gcons, w_par, w_setFld, w_while, w_for, w_items, w_range1, w_lc, w_yes, w_def,
  der_int, der_bl, der_str, der_lst, der_frl, der_tup, der_dic, der_non, der_obj, der_raw, p_add, p_sub, p_mul, p_fdiv, p_mod, p_pow, p_neg, p_cmp, p_abs, p_min2, p_max2, p_eqI, p_notB, p_lenL, p_lenT, p_listL, newL_w, newLC_w, p_ixL, p_ixT,
  List.map_cons, List.map_nil, List.length_cons, List.length_nil, List.replicate_zero, List.replicate_succ, List.replicate, List.cons_append, List.nil_append, List.append_nil, List.getElem?_cons_zero, List.getElem?_cons_succ, List.set_cons_zero, List.set_cons_succ,
  List.zip_cons_cons, List.zip_nil_left, List.zip_nil_right, List.foldl_cons, List.foldl_nil, Nat.reduceAdd, Nat.reduceSub, Nat.zero_add, Nat.add_zero, Nat.reduceLeDiff, true_and, and_true, if_true, Bool.false_eq_true, if_false, p_eqS, decide_true, Bool.not_true]
      exact ⟨rfl, rfl⟩
    rintro δ τ ⟨rfl, rfl⟩
    try simp only [wr_ok, w_var, w_c, w_p, w_nil, w_cons, w_call, w_tup, w_lst, w_lstC, w_dicC, w_B, w_and, w_or, w_not, w_andV, w_orV, w_if, w_chain, w_fld, w_meth, w_make, w_bm, w_rev, w_sortIt, w_get2, w_callV,
  w_next, w_seq, w_drop, w_ret, w_retN, w_break, w_cont, w_ifS, w_asg, w_gname, w_gsub, w_gtup, w_gnil, w_gcons, w_par, w_setFld, w_while, w_for, w_items, w_range1, w_lc, w_yes, w_def,
  der_int, der_bl, der_str, der_lst, der_frl, der_tup, der_dic, der_non, der_obj, der_raw, p_add, p_sub, p_mul, p_fdiv, p_mod, p_pow, p_neg, p_cmp, p_abs, p_min2, p_max2, p_eqI, p_notB, p_lenL, p_lenT, p_listL, newL_w, newLC_w, p_ixL, p_ixT,
  List.map_cons, List.map_nil, List.length_cons, List.length_nil, List.replicate_zero, List.replicate_succ, List.replicate, List.cons_append, List.nil_append, List.append_nil, List.getElem?_cons_zero, List.getElem?_cons_succ, List.set_cons_zero, List.set_cons_succ,
  List.zip_cons_cons, List.zip_nil_left, List.zip_nil_right, List.foldl_cons, List.foldl_nil, Nat.reduceAdd, Nat.reduceSub, Nat.zero_add, Nat.add_zero, Nat.reduceLeDiff, true_and, and_true, if_true, Bool.false_eq_true, if_false]
    refine make_pen (n := n) ?_
    try simp only [wr_ok, w_var, w_c, w_p, w_nil, w_cons, w_call, w_tup, w_lst, w_lstC, w_dicC, w_B, w_and, w_or, w_not, w_andV, w_orV, w_if, w_chain, w_fld, w_meth, w_make, w_bm, w_rev, w_sortIt, w_get2, w_callV,
  w_next, w_seq, w_drop, w_ret, w_retN, w_break, w_cont, w_ifS, w_asg, w_gname, w_gsub, w_gtup, w_gnil, w_gcons, w_par, w_setFld, w_while, w_for, w_items, w_range1, w_lc, w_yes, w_def,
  der_int, der_bl, der_str, der_lst, der_frl, der_tup, der_dic, der_non, der_obj, der_raw, p_add, p_sub, p_mul, p_fdiv, p_mod, p_pow, p_neg, p_cmp, p_abs, p_min2, p_max2, p_eqI, p_notB, p_lenL, p_lenT, p_listL, newL_w, newLC_w, p_ixL, p_ixT,
  List.map_cons, List.map_nil, List.length_cons, List.length_nil, List.replicate_zero, List.replicate_succ, List.replicate, List.cons_append, List.nil_append, List.append_nil, List.getElem?_cons_zero, List.getElem?_cons_succ, List.set_cons_zero, List.set_cons_succ,
  List.zip_cons_cons, List.zip_nil_left, List.zip_nil_right, List.foldl_cons, List.foldl_nil, Nat.reduceAdd, Nat.reduceSub, Nat.zero_add, Nat.add_zero, Nat.reduceLeDiff, true_and, and_true, if_true, Bool.false_eq_true, if_false]
    refine law_moved_then hp1 (by omega) n1 n2 sl sv.sv fun mv p2 hp2 ml mb m1 m2 => ?_
    refine ⟨p2, mv, rfl, hp2.pla, .inl rfl, ⟨n1, n2⟩, ⟨by rw [ml]; exact sv.s1, by omega, mb⟩, fun rows' R' => ?_⟩
    refine same (moved_rows n1 R R' m1 m2) ?_
    rw [repr_pair xz]
    try simp only [wr_ok, w_var, w_c, w_p, w_nil, w_cons, w_call, w_tup, w_lst, w_lstC, w_dicC, w_B, w_and, w_or, w_not, w_andV, w_orV, w_if, w_chain, w_fld, w_meth, w_make, w_bm, w_rev, w_sortIt, w_get2, w_callV,
  w_next, w_seq, w_drop, w_ret, w_retN, w_break, w_cont, w_ifS, w_asg, w_gname, w_gsub, w_gtup, w_gnil, w_gcons, w_par, w_setFld, w_while, w_for, w_items, w_range1, w_lc, w_yes, w_def,
  der_int, der_bl, der_str, der_lst, der_frl, der_tup, der_dic, der_non, der_obj, der_raw, p_add, p_sub, p_mul, p_fdiv, p_mod, p_pow, p_neg, p_cmp, p_abs, p_min2, p_max2, p_eqI, p_notB, p_lenL, p_lenT, p_listL, newL_w, newLC_w, p_ixL, p_ixT,
  List.map_cons, List.map_nil, List.length_cons, List.length_nil, List.replicate_zero, List.replicate_succ, List.replicate, List.cons_append, List.nil_append, List.append_nil, List.getElem?_cons_zero, List.getElem?_cons_succ, List.set_cons_zero, List.set_cons_succ,
  List.zip_cons_cons, List.zip_nil_left, List.zip_nil_right, List.foldl_cons, List.foldl_nil, Nat.reduceAdd, Nat.reduceSub, Nat.zero_add, Nat.add_zero, Nat.reduceLeDiff, true_and, and_true, if_true, Bool.false_eq_true, if_false]
    rw [repr_pair xz]
    try simp only [wr_ok, w_var, w_c, w_p, w_nil, w_cons, w_call, w_tup, w_lst, w_lstC, w_dicC, w_B, w_and, w_or, w_not, w_andV, w_orV, w_if, w_chain, w_fld, w_meth, w_make, w_bm, w_rev, w_sortIt, w_get2, w_callV,
  w_next, w_seq, w_drop, w_ret, w_retN, w_break, w_cont, w_ifS, w_asg, w_gname, w_gsub, w_gtup, w_gnil, w_gcons, w_par, w_setFld, w_while, w_for, w_items, w_range1, w_lc, w_yes, w_def,
  der_int, der_bl, der_str, der_lst, der_frl, der_tup, der_dic, der_non, der_obj, der_raw, p_add, p_sub, p_mul, p_fdiv, p_mod, p_pow, p_neg, p_cmp, p_abs, p_min2, p_max2, p_eqI, p_notB, p_lenL, p_lenT, p_listL, newL_w, newLC_w, p_ixL, p_ixT,
  List.map_cons, List.map_nil, List.length_cons, List.length_nil, List.replicate_zero, List.replicate_succ, List.replicate, List.cons_append, List.nil_append, List.append_nil, List.getElem?_cons_zero, List.getElem?_cons_succ, List.set_cons_zero, List.set_cons_succ,
  List.zip_cons_cons, List.zip_nil_left, List.zip_nil_right, List.foldl_cons, List.foldl_nil, Nat.reduceAdd, Nat.reduceSub, Nat.zero_add, Nat.add_zero, Nat.reduceLeDiff, true_and, and_true, if_true, Bool.false_eq_true, if_false, p_eqS, decide_true, Bool.not_true]
    exact ⟨p2, _, _, _, _, _, ⟨rfl, rfl⟩, hp2.mono (by omega)⟩
  rintro δ τ ⟨p', o2, o3, o4, o5, o6, ⟨rfl, rfl⟩, hp'⟩
  try simp only [wr_ok, w_var, w_c, w_p, w_nil, w_cons, w_call, w_tup, w_lst, w_lstC, w_dicC, w_B, w_and, w_or, w_not, w_andV, w_orV, w_if, w_chain, w_fld, w_meth, w_make, w_bm, w_rev, w_sortIt, w_get2, w_callV,
  w_next, w_seq, w_drop, w_ret, w_retN, w_break, w_cont, w_ifS, w_asg, w_gname, w_gsub, w_gtup, w_gnil, w_gcons, w_par, w_setFld, w_while, w_for, w_items, w_range1, w_lc, w_yes, w_def,
  der_int, der_bl, der_str, der_lst, der_frl, der_tup, der_dic, der_non, der_obj, der_raw, p_add, p_sub, p_mul, p_fdiv, p_mod, p_pow, p_neg, p_cmp, p_abs, p_min2, p_max2, p_eqI, p_notB, p_lenL, p_lenT, p_listL, newL_w, newLC_w, p_ixL, p_ixT,
  List.map_cons, List.map_nil, List.length_cons, List.length_nil, List.replicate_zero, List.replicate_succ, List.replicate, List.cons_append, List.nil_append, List.append_nil, List.getElem?_cons_zero, List.getElem?_cons_succ, List.set_cons_zero, List.set_cons_succ,
  List.zip_cons_cons, List.zip_nil_left, List.zip_nil_right, List.foldl_cons, List.foldl_nil, Nat.reduceAdd, Nat.reduceSub, Nat.zero_add, Nat.add_zero, Nat.reduceLeDiff, true_and, and_true, if_true, Bool.false_eq_true, if_false]
  refine orb_pair (n := 10) (d := 0) (a := 10) (k0 := 1) (s0 := 0) (y := 1) (by decide) (by decide) (by decide) (by decide) (fun f hv per => ?_) ?_ rfl
  · have e0 : f 0 = 10 := hv 0 10 ⟨⟨(0, 10), by simp, 0, by decide, by decide⟩, fun k hk q hq => by rw [List.mem_singleton.mp hk] at hq ⊢; simp only at hq ⊢; omega⟩
    have e1 : itr f 1 0 = 10 := e0
    refine ⟨⟨fun i j h1 h2 => by omega, by decide, by rw [e1]; rfl⟩, ?_⟩
    rw [e1, show itr f 0 0 = 0 from rfl]; rfl
  try simp only [wr_ok, w_var, w_c, w_p, w_nil, w_cons, w_call, w_tup, w_lst, w_lstC, w_dicC, w_B, w_and, w_or, w_not, w_andV, w_orV, w_if, w_chain, w_fld, w_meth, w_make, w_bm, w_rev, w_sortIt, w_get2, w_callV,
  w_next, w_seq, w_drop, w_ret, w_retN, w_break, w_cont, w_ifS, w_asg, w_gname, w_gsub, w_gtup, w_gnil, w_gcons, w_par, w_setFld, w_while, w_for, w_items, w_range1, w_lc, w_yes, w_def,
  der_int, der_bl, der_str, der_lst, der_frl, der_tup, der_dic, der_non, der_obj, der_raw, p_add, p_sub, p_mul, p_fdiv, p_mod, p_pow, p_neg, p_cmp, p_abs, p_min2, p_max2, p_eqI, p_notB, p_lenL, p_lenT, p_listL, newL_w, newLC_w, p_ixL, p_ixT,
  List.map_cons, List.map_nil, List.length_cons, List.length_nil, List.replicate_zero, List.replicate_succ, List.replicate, List.cons_append, List.nil_append, List.append_nil, List.getElem?_cons_zero, List.getElem?_cons_succ, List.set_cons_zero, List.set_cons_succ,
  List.zip_cons_cons, List.zip_nil_left, List.zip_nil_right, List.foldl_cons, List.foldl_nil, Nat.reduceAdd, Nat.reduceSub, Nat.zero_add, Nat.add_zero, Nat.reduceLeDiff, true_and, and_true, if_true, Bool.false_eq_true, if_false]
  refine orb_pair (n := 10) (d := 3) (a := 3) (k0 := 2) (s0 := 1) (y := 0) (by decide) (by decide) (by decide) (by decide) (fun f hv per => ?_) ?_ rfl
  · have e0 : f 0 = 3 := hv 0 3 ⟨⟨(3, 3), by simp, 0, by decide, by decide⟩, fun k hk q hq => by rw [List.mem_singleton.mp hk] at hq ⊢; simp only at hq ⊢; omega⟩
    have e3 : f 3 = 3 := hv 3 3 ⟨⟨(3, 3), by simp, 0, by decide, by decide⟩, fun k hk q hq => by rw [List.mem_singleton.mp hk] at hq ⊢; simp only at hq ⊢; omega⟩
    have e1 : itr f 1 0 = 3 := e0
    have e2 : itr f 2 0 = 3 := by show f (itr f 1 0) = 3; rw [e1, e3]
    refine ⟨⟨fun i j h1 h2 => ?_, by decide, by rw [e1, e2]⟩, ?_⟩
    · have : i = 0 ∧ j = 1 := by omega
      obtain ⟨rfl, rfl⟩ := this
      rw [e1]
      show (0 : Int) % 10 ≠ 3 % 10
      decide
    · rw [e1, e2]; rfl
  try simp only [wr_ok, w_var, w_c, w_p, w_nil, w_cons, w_call, w_tup, w_lst, w_lstC, w_dicC, w_B, w_and, w_or, w_not, w_andV, w_orV, w_if, w_chain, w_fld, w_meth, w_make, w_bm, w_rev, w_sortIt, w_get2, w_callV,
  w_next, w_seq, w_drop, w_ret, w_retN, w_break, w_cont, w_ifS, w_asg, w_gname, w_gsub, w_gtup, w_gnil, w_gcons, w_par, w_setFld, w_while, w_for, w_items, w_range1, w_lc, w_yes, w_def,
  der_int, der_bl, der_str, der_lst, der_frl, der_tup, der_dic, der_non, der_obj, der_raw, p_add, p_sub, p_mul, p_fdiv, p_mod, p_pow, p_neg, p_cmp, p_abs, p_min2, p_max2, p_eqI, p_notB, p_lenL, p_lenT, p_listL, newL_w, newLC_w, p_ixL, p_ixT,
  List.map_cons, List.map_nil, List.length_cons, List.length_nil, List.replicate_zero, List.replicate_succ, List.replicate, List.cons_append, List.nil_append, List.append_nil, List.getElem?_cons_zero, List.getElem?_cons_succ, List.set_cons_zero, List.set_cons_succ,
  List.zip_cons_cons, List.zip_nil_left, List.zip_nil_right, List.foldl_cons, List.foldl_nil, Nat.reduceAdd, Nat.reduceSub, Nat.zero_add, Nat.add_zero, Nat.reduceLeDiff, true_and, and_true, if_true, Bool.false_eq_true, if_false]
  refine orb_pair (n := 1) (d := 0) (a := -3) (k0 := 1) (s0 := 0) (y := -3) (by decide) (by decide) (by decide) (by decide) (fun f hv per => ?_) ?_ (by with_unfolding_all rfl)
  · have e0 : f 0 = -3 := hv 0 (-3) ⟨⟨(0, -3), by simp, 0, by decide, by decide⟩, fun k hk q hq => by rw [List.mem_singleton.mp hk] at hq ⊢; simp only at hq ⊢; omega⟩
    have e1 : itr f 1 0 = -3 := e0
    refine ⟨⟨fun i j h1 h2 => by omega, by decide, by rw [e1]; rfl⟩, ?_⟩
    rw [e1, show itr f 0 0 = 0 from rfl]; rfl
  try simp only [wr_ok, w_var, w_c, w_p, w_nil, w_cons, w_call, w_tup, w_lst, w_lstC, w_dicC, w_B, w_and, w_or, w_not, w_andV, w_orV, w_if, w_chain, w_fld, w_meth, w_make, w_bm, w_rev, w_sortIt, w_get2, w_callV,
  w_next, w_seq, w_drop, w_ret, w_retN, w_break, w_cont, w_ifS, w_asg, w_gname, w_gsub, w_gtup, w_gnil, w_gcons, w_par, w_setFld, w_while, w_for, w_items, w_range1, w_lc, w_yes, w_def,
  der_int, der_bl, der_str, der_lst, der_frl, der_tup, der_dic, der_non, der_obj, der_raw, p_add, p_sub, p_mul, p_fdiv, p_mod, p_pow, p_neg, p_cmp, p_abs, p_min2, p_max2, p_eqI, p_notB, p_lenL, p_lenT, p_listL, newL_w, newLC_w, p_ixL, p_ixT,
  List.map_cons, List.map_nil, List.length_cons, List.length_nil, List.replicate_zero, List.replicate_succ, List.replicate, List.cons_append, List.nil_append, List.append_nil, List.getElem?_cons_zero, List.getElem?_cons_succ, List.set_cons_zero, List.set_cons_succ,
  List.zip_cons_cons, List.zip_nil_left, List.zip_nil_right, List.foldl_cons, List.foldl_nil, Nat.reduceAdd, Nat.reduceSub, Nat.zero_add, Nat.add_zero, Nat.reduceLeDiff, true_and, and_true, if_true, Bool.false_eq_true, if_false]
  have el : ([pairD (1, 1), pairD (0, 1), pairD (-3, 1)] : List D) = [(1, 1), (0, 1), (-3, 1)].map pairD := rfl
  have el2 : ([.tup [.int 1, .int 1], .tup [.int 0, .int 1], .tup [.int (-3), .int 1]] : List D) = [(1, 1), (0, 1), (-3, 1)].map pairD := rfl
  have sm : ∀ s ∈ ([(1, 1), (0, 1), (-3, 1)] : List (Int × Int)), Sml s := by
    intro s hs
    simp only [List.mem_cons, List.not_mem_nil, or_false] at hs
    rcases hs with rfl | rfl | rfl <;> exact ⟨by decide +kernel, by decide +kernel⟩
  have ll : ([(1, 1), (0, 1), (-3, 1)] : List (Int × Int)).length ≤ 1000 := by decide
  rw [el, el2]
  generalize ([(1, 1), (0, 1), (-3, 1)] : List (Int × Int)) = L at sm ll ⊢
  rw [repr_pairs sm ll]
  try simp only [wr_ok, w_var, w_c, w_p, w_nil, w_cons, w_call, w_tup, w_lst, w_lstC, w_dicC, w_B, w_and, w_or, w_not, w_andV, w_orV, w_if, w_chain, w_fld, w_meth, w_make, w_bm, w_rev, w_sortIt, w_get2, w_callV,
  w_next, w_seq, w_drop, w_ret, w_retN, w_break, w_cont, w_ifS, w_asg, w_gname, w_gsub, w_gtup, w_gnil, w_gcons, w_par, w_setFld, w_while, w_for, w_items, w_range1, w_lc, w_yes, w_def,
  der_int, der_bl, der_str, der_lst, der_frl, der_tup, der_dic, der_non, der_obj, der_raw, p_add, p_sub, p_mul, p_fdiv, p_mod, p_pow, p_neg, p_cmp, p_abs, p_min2, p_max2, p_eqI, p_notB, p_lenL, p_lenT, p_listL, newL_w, newLC_w, p_ixL, p_ixT,
  List.map_cons, List.map_nil, List.length_cons, List.length_nil, List.replicate_zero, List.replicate_succ, List.replicate, List.cons_append, List.nil_append, List.append_nil, List.getElem?_cons_zero, List.getElem?_cons_succ, List.set_cons_zero, List.set_cons_succ,
  List.zip_cons_cons, List.zip_nil_left, List.zip_nil_right, List.foldl_cons, List.foldl_nil, Nat.reduceAdd, Nat.reduceSub, Nat.zero_add, Nat.add_zero, Nat.reduceLeDiff, true_and, and_true, if_true, Bool.false_eq_true, if_false]
  rw [repr_pairs sm ll]
  try simp only [wr_ok, w_var, w_c, w_p, w_nil, w_cons, w_call, w_tup, w_lst, w_lstC, w_dicC, w_B, w_and, w_or, w_not, w_andV, w_orV, w_if, w_chain, w_fld, w_meth, w_make, w_bm, w_rev, w_sortIt, w_get2, w_callV,
  w_next, w_seq, w_drop, w_ret, w_retN, w_break, w_cont, w_ifS, w_asg, w_gname, w_gsub, w_gtup, w_gnil, w_gcons, w_par, w_setFld, w_while, w_for, w_items, w_range1, w_lc, w_yes, w_def,
  der_int, der_bl, der_str, der_lst, der_frl, der_tup, der_dic, der_non, der_obj, der_raw, p_add, p_sub, p_mul, p_fdiv, p_mod, p_pow, p_neg, p_cmp, p_abs, p_min2, p_max2, p_eqI, p_notB, p_lenL, p_lenT, p_listL, newL_w, newLC_w, p_ixL, p_ixT,
  List.map_cons, List.map_nil, List.length_cons, List.length_nil, List.replicate_zero, List.replicate_succ, List.replicate, List.cons_append, List.nil_append, List.append_nil, List.getElem?_cons_zero, List.getElem?_cons_succ, List.set_cons_zero, List.set_cons_succ,
  List.zip_cons_cons, List.zip_nil_left, List.zip_nil_right, List.foldl_cons, List.foldl_nil, Nat.reduceAdd, Nat.reduceSub, Nat.zero_add, Nat.add_zero, Nat.reduceLeDiff, true_and, and_true, if_true, Bool.false_eq_true, if_false, p_eqS, decide_true]
end DL

namespace DL
open PySem L2
set_option maxHeartbeats 0 in
theorem all_mk_k27 {P : Program} {w : World} {K : PySem.W.Frag} {h : Heap} {mg : Str → Option Value} {fa p_is_int p_is_int_in p_is_service p_are_services p_in_first_period p_needed_steps p_StepMap_init p_gcd p_reduced p_StepMap_step_index p_StepMap_apply p_Track_init p_Track_turn p_rotation p__law_pen p__law_gcd p__law_fraction p__law_value p__law_turn p__law_rotation p__law_draw p__law_close_services p__law_pick p__law_small_services p__law_small p__law_great p__law_great_map p__law_even_map p__law_regular_map p__law_far_map p__law_wide_map p__law_orbit_map p__law_shuffled p__law_moved p_law c_StepMap c_Track tdare_services : Addr} (X : K.In h) (G : h.Ns mainGlobals mg) (hfa : mg "law" = some (.ref fa))
    {dis_int nis_int dis_int_in nis_int_in dis_service nis_service dare_services nare_services din_first_period nin_first_period dneeded_steps nneeded_steps dStepMap_init nStepMap_init dgcd ngcd dreduced nreduced dStepMap_step_index nStepMap_step_index dStepMap_apply nStepMap_apply dTrack_init nTrack_init dTrack_turn nTrack_turn drotation nrotation d_law_pen n_law_pen d_law_gcd n_law_gcd d_law_fraction n_law_fraction d_law_value n_law_value d_law_turn n_law_turn d_law_rotation n_law_rotation d_law_draw n_law_draw d_law_close_services n_law_close_services d_law_pick n_law_pick d_law_small_services n_law_small_services d_law_small n_law_small d_law_great n_law_great d_law_great_map n_law_great_map d_law_even_map n_law_even_map d_law_regular_map n_law_regular_map d_law_far_map n_law_far_map d_law_wide_map n_law_wide_map d_law_orbit_map n_law_orbit_map d_law_shuffled n_law_shuffled d_law_moved n_law_moved dlaw nlaw toare_services : Option Addr} {ois_int kwis_int eis_int pmis_int cvis_int ctis_int ois_int_in kwis_int_in eis_int_in pmis_int_in cvis_int_in ctis_int_in ois_service kwis_service eis_service pmis_service cvis_service ctis_service oare_services kware_services eare_services pmare_services cvare_services ctare_services oin_first_period kwin_first_period ein_first_period pmin_first_period cvin_first_period ctin_first_period oneeded_steps kwneeded_steps eneeded_steps pmneeded_steps cvneeded_steps ctneeded_steps oStepMap_init kwStepMap_init eStepMap_init pmStepMap_init cvStepMap_init ctStepMap_init ogcd kwgcd egcd pmgcd cvgcd ctgcd oreduced kwreduced ereduced pmreduced cvreduced ctreduced oStepMap_step_index kwStepMap_step_index eStepMap_step_index pmStepMap_step_index cvStepMap_step_index ctStepMap_step_index oStepMap_apply kwStepMap_apply eStepMap_apply pmStepMap_apply cvStepMap_apply ctStepMap_apply oTrack_init kwTrack_init eTrack_init pmTrack_init cvTrack_init ctTrack_init oTrack_turn kwTrack_turn eTrack_turn pmTrack_turn cvTrack_turn ctTrack_turn orotation kwrotation erotation pmrotation cvrotation ctrotation o_law_pen kw_law_pen e_law_pen pm_law_pen cv_law_pen ct_law_pen o_law_gcd kw_law_gcd e_law_gcd pm_law_gcd cv_law_gcd ct_law_gcd o_law_fraction kw_law_fraction e_law_fraction pm_law_fraction cv_law_fraction ct_law_fraction o_law_value kw_law_value e_law_value pm_law_value cv_law_value ct_law_value o_law_turn kw_law_turn e_law_turn pm_law_turn cv_law_turn ct_law_turn o_law_rotation kw_law_rotation e_law_rotation pm_law_rotation cv_law_rotation ct_law_rotation o_law_draw kw_law_draw e_law_draw pm_law_draw cv_law_draw ct_law_draw o_law_close_services kw_law_close_services e_law_close_services pm_law_close_services cv_law_close_services ct_law_close_services o_law_pick kw_law_pick e_law_pick pm_law_pick cv_law_pick ct_law_pick o_law_small_services kw_law_small_services e_law_small_services pm_law_small_services cv_law_small_services ct_law_small_services o_law_small kw_law_small e_law_small pm_law_small cv_law_small ct_law_small o_law_great kw_law_great e_law_great pm_law_great cv_law_great ct_law_great o_law_great_map kw_law_great_map e_law_great_map pm_law_great_map cv_law_great_map ct_law_great_map o_law_even_map kw_law_even_map e_law_even_map pm_law_even_map cv_law_even_map ct_law_even_map o_law_regular_map kw_law_regular_map e_law_regular_map pm_law_regular_map cv_law_regular_map ct_law_regular_map o_law_far_map kw_law_far_map e_law_far_map pm_law_far_map cv_law_far_map ct_law_far_map o_law_wide_map kw_law_wide_map e_law_wide_map pm_law_wide_map cv_law_wide_map ct_law_wide_map o_law_orbit_map kw_law_orbit_map e_law_orbit_map pm_law_orbit_map cv_law_orbit_map ct_law_orbit_map o_law_shuffled kw_law_shuffled e_law_shuffled pm_law_shuffled cv_law_shuffled ct_law_shuffled o_law_moved kw_law_moved e_law_moved pm_law_moved cv_law_moved ct_law_moved olaw kwlaw elaw pmlaw cvlaw ctlaw tcare_services : Value} {slis_int slis_int_in slis_service slare_services slin_first_period slneeded_steps slStepMap_init slgcd slreduced slStepMap_step_index slStepMap_apply slTrack_init slTrack_turn slrotation sl_law_pen sl_law_gcd sl_law_fraction sl_law_value sl_law_turn sl_law_rotation sl_law_draw sl_law_close_services sl_law_pick sl_law_small_services sl_law_small sl_law_great sl_law_great_map sl_law_even_map sl_law_regular_map sl_law_far_map sl_law_wide_map sl_law_orbit_map sl_law_shuffled sl_law_moved sllaw tsare_services : Array (Option Value)} {tkare_services0 tc_MAX_SERVICES : Tok} {tnare_services : Nat}
    (x_StepMap : PySem.W.nsIn K mainGlobals "StepMap" = some (some (.ref c_StepMap)))
    (pg_StepMap : PySem.W.plainGet K c_StepMap Str.empty = true)
    (hd_StepMap : PySem.W.hasDictIn K c_StepMap = true)
    (po_StepMap : PySem.W.plainOver K c_StepMap = true)
    (sa_StepMap : PySem.W.findIn K (.ref c_StepMap) "__setattr__" = some (some (.builtin "object.__setattr__")))
    (x_Track : PySem.W.nsIn K mainGlobals "Track" = some (some (.ref c_Track)))
    (pg_Track : PySem.W.plainGet K c_Track Str.empty = true)
    (hd_Track : PySem.W.hasDictIn K c_Track = true)
    (po_Track : PySem.W.plainOver K c_Track = true)
    (sa_Track : PySem.W.findIn K (.ref c_Track) "__setattr__" = some (some (.builtin "object.__setattr__")))
    (nf_StepMap_length : PySem.W.findIn K (.ref c_StepMap) "length" = some none)
    (nf_StepMap_rows : PySem.W.findIn K (.ref c_StepMap) "rows" = some none)
    (nf_Track_gain : PySem.W.findIn K (.ref c_Track) "gain" = some none)
    (nf_Track_start : PySem.W.findIn K (.ref c_Track) "start" = some none)
    (nf_Track_times : PySem.W.findIn K (.ref c_Track) "times" = some none)
    (z_abs : PySem.W.nsIn K mainGlobals "abs" = some none)
    (z_all : PySem.W.nsIn K mainGlobals "all" = some none)
    (z_bool : PySem.W.nsIn K mainGlobals "bool" = some none)
    (z_int : PySem.W.nsIn K mainGlobals "int" = some none)
    (z_isinstance : PySem.W.nsIn K mainGlobals "isinstance" = some none)
    (z_len : PySem.W.nsIn K mainGlobals "len" = some none)
    (z_list : PySem.W.nsIn K mainGlobals "list" = some none)
    (z_max : PySem.W.nsIn K mainGlobals "max" = some none)
    (z_min : PySem.W.nsIn K mainGlobals "min" = some none)
    (z_range : PySem.W.nsIn K mainGlobals "range" = some none)
    (z_repr : PySem.W.nsIn K mainGlobals "repr" = some none)
    (z_sorted : PySem.W.nsIn K mainGlobals "sorted" = some none)
    (z_tuple : PySem.W.nsIn K mainGlobals "tuple" = some none)
    (ais_int : PySem.W.nsIn K mainGlobals "is_int" = some (some (.ref p_is_int)))
    (lis_int : K.lookup p_is_int = some ⟨ois_int, dis_int, .func (PySem.W.fnOf "is_int" "is_int" (defArgs s_is_int) (defBody s_is_int) (defScope s_is_int) .none kwis_int eis_int pmis_int nis_int cvis_int ctis_int), slis_int⟩)
    (cdis_int : PySem.W.codeIn K cvis_int "is_int" = true)
    (kpis_int : PySem.W.keepIn K (.ref p_is_int) = true)
    (ais_int_in : PySem.W.nsIn K mainGlobals "is_int_in" = some (some (.ref p_is_int_in)))
    (lis_int_in : K.lookup p_is_int_in = some ⟨ois_int_in, dis_int_in, .func (PySem.W.fnOf "is_int_in" "is_int_in" (defArgs s_is_int_in) (defBody s_is_int_in) (defScope s_is_int_in) .none kwis_int_in eis_int_in pmis_int_in nis_int_in cvis_int_in ctis_int_in), slis_int_in⟩)
    (cdis_int_in : PySem.W.codeIn K cvis_int_in "is_int_in" = true)
    (kpis_int_in : PySem.W.keepIn K (.ref p_is_int_in) = true)
    (ais_service : PySem.W.nsIn K mainGlobals "is_service" = some (some (.ref p_is_service)))
    (lis_service : K.lookup p_is_service = some ⟨ois_service, dis_service, .func (PySem.W.fnOf "is_service" "is_service" (defArgs s_is_service) (defBody s_is_service) (defScope s_is_service) .none kwis_service eis_service pmis_service nis_service cvis_service ctis_service), slis_service⟩)
    (cdis_service : PySem.W.codeIn K cvis_service "is_service" = true)
    (kpis_service : PySem.W.keepIn K (.ref p_is_service) = true)
    (aare_services : PySem.W.nsIn K mainGlobals "are_services" = some (some (.ref p_are_services)))
    (lare_services : K.lookup p_are_services = some ⟨oare_services, dare_services, .func (PySem.W.fnOf "are_services" "are_services" (defArgs s_are_services) (defBody s_are_services) (defScope s_are_services) (.ref tdare_services) kware_services eare_services pmare_services nare_services cvare_services ctare_services), slare_services⟩)
    (tlare_services : K.lookup tdare_services = some ⟨tcare_services, toare_services, .seq #[.int 0 tkare_services0] tnare_services, tsare_services⟩)
    (cdare_services : PySem.W.codeIn K cvare_services "are_services" = true)
    (kpare_services : PySem.W.keepIn K (.ref p_are_services) = true)
    (ain_first_period : PySem.W.nsIn K mainGlobals "in_first_period" = some (some (.ref p_in_first_period)))
    (lin_first_period : K.lookup p_in_first_period = some ⟨oin_first_period, din_first_period, .func (PySem.W.fnOf "in_first_period" "in_first_period" (defArgs s_in_first_period) (defBody s_in_first_period) (defScope s_in_first_period) .none kwin_first_period ein_first_period pmin_first_period nin_first_period cvin_first_period ctin_first_period), slin_first_period⟩)
    (cdin_first_period : PySem.W.codeIn K cvin_first_period "in_first_period" = true)
    (kpin_first_period : PySem.W.keepIn K (.ref p_in_first_period) = true)
    (aneeded_steps : PySem.W.nsIn K mainGlobals "needed_steps" = some (some (.ref p_needed_steps)))
    (lneeded_steps : K.lookup p_needed_steps = some ⟨oneeded_steps, dneeded_steps, .func (PySem.W.fnOf "needed_steps" "needed_steps" (defArgs s_needed_steps) (defBody s_needed_steps) (defScope s_needed_steps) .none kwneeded_steps eneeded_steps pmneeded_steps nneeded_steps cvneeded_steps ctneeded_steps), slneeded_steps⟩)
    (cdneeded_steps : PySem.W.codeIn K cvneeded_steps "needed_steps" = true)
    (kpneeded_steps : PySem.W.keepIn K (.ref p_needed_steps) = true)
    (aStepMap_init : PySem.W.findIn K (.ref c_StepMap) "__init__" = some (some (.ref p_StepMap_init)))
    (iStepMap_init : PySem.W.isFn K (.ref p_StepMap_init) = true)
    (lStepMap_init : K.lookup p_StepMap_init = some ⟨oStepMap_init, dStepMap_init, .func (PySem.W.fnOf "__init__" "StepMap.__init__" (defArgs s_StepMap_init) (defBody s_StepMap_init) (defScope s_StepMap_init) .none kwStepMap_init eStepMap_init pmStepMap_init nStepMap_init cvStepMap_init ctStepMap_init), slStepMap_init⟩)
    (cdStepMap_init : PySem.W.codeIn K cvStepMap_init "StepMap.__init__" = true)
    (kpStepMap_init : PySem.W.keepIn K (.ref p_StepMap_init) = true)
    (mkStepMap : PySem.W.makesIn K c_StepMap = true)
    (kcStepMap : PySem.W.keepIn K (.ref c_StepMap) = true)
    (agcd : PySem.W.nsIn K mainGlobals "gcd" = some (some (.ref p_gcd)))
    (lgcd : K.lookup p_gcd = some ⟨ogcd, dgcd, .func (PySem.W.fnOf "gcd" "gcd" (defArgs s_gcd) (defBody s_gcd) (defScope s_gcd) .none kwgcd egcd pmgcd ngcd cvgcd ctgcd), slgcd⟩)
    (cdgcd : PySem.W.codeIn K cvgcd "gcd" = true)
    (kpgcd : PySem.W.keepIn K (.ref p_gcd) = true)
    (areduced : PySem.W.nsIn K mainGlobals "reduced" = some (some (.ref p_reduced)))
    (lreduced : K.lookup p_reduced = some ⟨oreduced, dreduced, .func (PySem.W.fnOf "reduced" "reduced" (defArgs s_reduced) (defBody s_reduced) (defScope s_reduced) .none kwreduced ereduced pmreduced nreduced cvreduced ctreduced), slreduced⟩)
    (cdreduced : PySem.W.codeIn K cvreduced "reduced" = true)
    (kpreduced : PySem.W.keepIn K (.ref p_reduced) = true)
    (aStepMap_step_index : PySem.W.findIn K (.ref c_StepMap) "step_index" = some (some (.ref p_StepMap_step_index)))
    (iStepMap_step_index : PySem.W.isFn K (.ref p_StepMap_step_index) = true)
    (lStepMap_step_index : K.lookup p_StepMap_step_index = some ⟨oStepMap_step_index, dStepMap_step_index, .func (PySem.W.fnOf "step_index" "StepMap.step_index" (defArgs s_StepMap_step_index) (defBody s_StepMap_step_index) (defScope s_StepMap_step_index) .none kwStepMap_step_index eStepMap_step_index pmStepMap_step_index nStepMap_step_index cvStepMap_step_index ctStepMap_step_index), slStepMap_step_index⟩)
    (cdStepMap_step_index : PySem.W.codeIn K cvStepMap_step_index "StepMap.step_index" = true)
    (kpStepMap_step_index : PySem.W.keepIn K (.ref p_StepMap_step_index) = true)
    (aStepMap_apply : PySem.W.findIn K (.ref c_StepMap) "apply" = some (some (.ref p_StepMap_apply)))
    (iStepMap_apply : PySem.W.isFn K (.ref p_StepMap_apply) = true)
    (lStepMap_apply : K.lookup p_StepMap_apply = some ⟨oStepMap_apply, dStepMap_apply, .func (PySem.W.fnOf "apply" "StepMap.apply" (defArgs s_StepMap_apply) (defBody s_StepMap_apply) (defScope s_StepMap_apply) .none kwStepMap_apply eStepMap_apply pmStepMap_apply nStepMap_apply cvStepMap_apply ctStepMap_apply), slStepMap_apply⟩)
    (cdStepMap_apply : PySem.W.codeIn K cvStepMap_apply "StepMap.apply" = true)
    (kpStepMap_apply : PySem.W.keepIn K (.ref p_StepMap_apply) = true)
    (aTrack_init : PySem.W.findIn K (.ref c_Track) "__init__" = some (some (.ref p_Track_init)))
    (iTrack_init : PySem.W.isFn K (.ref p_Track_init) = true)
    (lTrack_init : K.lookup p_Track_init = some ⟨oTrack_init, dTrack_init, .func (PySem.W.fnOf "__init__" "Track.__init__" (defArgs s_Track_init) (defBody s_Track_init) (defScope s_Track_init) .none kwTrack_init eTrack_init pmTrack_init nTrack_init cvTrack_init ctTrack_init), slTrack_init⟩)
    (cdTrack_init : PySem.W.codeIn K cvTrack_init "Track.__init__" = true)
    (kpTrack_init : PySem.W.keepIn K (.ref p_Track_init) = true)
    (mkTrack : PySem.W.makesIn K c_Track = true)
    (kcTrack : PySem.W.keepIn K (.ref c_Track) = true)
    (aTrack_turn : PySem.W.findIn K (.ref c_Track) "turn" = some (some (.ref p_Track_turn)))
    (iTrack_turn : PySem.W.isFn K (.ref p_Track_turn) = true)
    (lTrack_turn : K.lookup p_Track_turn = some ⟨oTrack_turn, dTrack_turn, .func (PySem.W.fnOf "turn" "Track.turn" (defArgs s_Track_turn) (defBody s_Track_turn) (defScope s_Track_turn) .none kwTrack_turn eTrack_turn pmTrack_turn nTrack_turn cvTrack_turn ctTrack_turn), slTrack_turn⟩)
    (cdTrack_turn : PySem.W.codeIn K cvTrack_turn "Track.turn" = true)
    (kpTrack_turn : PySem.W.keepIn K (.ref p_Track_turn) = true)
    (arotation : PySem.W.nsIn K mainGlobals "rotation" = some (some (.ref p_rotation)))
    (lrotation : K.lookup p_rotation = some ⟨orotation, drotation, .func (PySem.W.fnOf "rotation" "rotation" (defArgs s_rotation) (defBody s_rotation) (defScope s_rotation) .none kwrotation erotation pmrotation nrotation cvrotation ctrotation), slrotation⟩)
    (cdrotation : PySem.W.codeIn K cvrotation "rotation" = true)
    (kprotation : PySem.W.keepIn K (.ref p_rotation) = true)
    (a_law_pen : PySem.W.nsIn K mainGlobals "_law_pen" = some (some (.ref p__law_pen)))
    (l_law_pen : K.lookup p__law_pen = some ⟨o_law_pen, d_law_pen, .func (PySem.W.fnOf "_law_pen" "_law_pen" (defArgs s__law_pen) (defBody s__law_pen) (defScope s__law_pen) .none kw_law_pen e_law_pen pm_law_pen n_law_pen cv_law_pen ct_law_pen), sl_law_pen⟩)
    (cd_law_pen : PySem.W.codeIn K cv_law_pen "_law_pen" = true)
    (kp_law_pen : PySem.W.keepIn K (.ref p__law_pen) = true)
    (a_law_gcd : PySem.W.nsIn K mainGlobals "_law_gcd" = some (some (.ref p__law_gcd)))
    (l_law_gcd : K.lookup p__law_gcd = some ⟨o_law_gcd, d_law_gcd, .func (PySem.W.fnOf "_law_gcd" "_law_gcd" (defArgs s__law_gcd) (defBody s__law_gcd) (defScope s__law_gcd) .none kw_law_gcd e_law_gcd pm_law_gcd n_law_gcd cv_law_gcd ct_law_gcd), sl_law_gcd⟩)
    (cd_law_gcd : PySem.W.codeIn K cv_law_gcd "_law_gcd" = true)
    (kp_law_gcd : PySem.W.keepIn K (.ref p__law_gcd) = true)
    (a_law_fraction : PySem.W.nsIn K mainGlobals "_law_fraction" = some (some (.ref p__law_fraction)))
    (l_law_fraction : K.lookup p__law_fraction = some ⟨o_law_fraction, d_law_fraction, .func (PySem.W.fnOf "_law_fraction" "_law_fraction" (defArgs s__law_fraction) (defBody s__law_fraction) (defScope s__law_fraction) .none kw_law_fraction e_law_fraction pm_law_fraction n_law_fraction cv_law_fraction ct_law_fraction), sl_law_fraction⟩)
    (cd_law_fraction : PySem.W.codeIn K cv_law_fraction "_law_fraction" = true)
    (kp_law_fraction : PySem.W.keepIn K (.ref p__law_fraction) = true)
    (a_law_value : PySem.W.nsIn K mainGlobals "_law_value" = some (some (.ref p__law_value)))
    (l_law_value : K.lookup p__law_value = some ⟨o_law_value, d_law_value, .func (PySem.W.fnOf "_law_value" "_law_value" (defArgs s__law_value) (defBody s__law_value) (defScope s__law_value) .none kw_law_value e_law_value pm_law_value n_law_value cv_law_value ct_law_value), sl_law_value⟩)
    (cd_law_value : PySem.W.codeIn K cv_law_value "_law_value" = true)
    (kp_law_value : PySem.W.keepIn K (.ref p__law_value) = true)
    (a_law_turn : PySem.W.nsIn K mainGlobals "_law_turn" = some (some (.ref p__law_turn)))
    (l_law_turn : K.lookup p__law_turn = some ⟨o_law_turn, d_law_turn, .func (PySem.W.fnOf "_law_turn" "_law_turn" (defArgs s__law_turn) (defBody s__law_turn) (defScope s__law_turn) .none kw_law_turn e_law_turn pm_law_turn n_law_turn cv_law_turn ct_law_turn), sl_law_turn⟩)
    (cd_law_turn : PySem.W.codeIn K cv_law_turn "_law_turn" = true)
    (kp_law_turn : PySem.W.keepIn K (.ref p__law_turn) = true)
    (a_law_rotation : PySem.W.nsIn K mainGlobals "_law_rotation" = some (some (.ref p__law_rotation)))
    (l_law_rotation : K.lookup p__law_rotation = some ⟨o_law_rotation, d_law_rotation, .func (PySem.W.fnOf "_law_rotation" "_law_rotation" (defArgs s__law_rotation) (defBody s__law_rotation) (defScope s__law_rotation) .none kw_law_rotation e_law_rotation pm_law_rotation n_law_rotation cv_law_rotation ct_law_rotation), sl_law_rotation⟩)
    (cd_law_rotation : PySem.W.codeIn K cv_law_rotation "_law_rotation" = true)
    (kp_law_rotation : PySem.W.keepIn K (.ref p__law_rotation) = true)
    (a_law_draw : PySem.W.nsIn K mainGlobals "_law_draw" = some (some (.ref p__law_draw)))
    (l_law_draw : K.lookup p__law_draw = some ⟨o_law_draw, d_law_draw, .func (PySem.W.fnOf "_law_draw" "_law_draw" (defArgs s__law_draw) (defBody s__law_draw) (defScope s__law_draw) .none kw_law_draw e_law_draw pm_law_draw n_law_draw cv_law_draw ct_law_draw), sl_law_draw⟩)
    (cd_law_draw : PySem.W.codeIn K cv_law_draw "_law_draw" = true)
    (kp_law_draw : PySem.W.keepIn K (.ref p__law_draw) = true)
    (a_law_close_services : PySem.W.nsIn K mainGlobals "_law_close_services" = some (some (.ref p__law_close_services)))
    (l_law_close_services : K.lookup p__law_close_services = some ⟨o_law_close_services, d_law_close_services, .func (PySem.W.fnOf "_law_close_services" "_law_close_services" (defArgs s__law_close_services) (defBody s__law_close_services) (defScope s__law_close_services) .none kw_law_close_services e_law_close_services pm_law_close_services n_law_close_services cv_law_close_services ct_law_close_services), sl_law_close_services⟩)
    (cd_law_close_services : PySem.W.codeIn K cv_law_close_services "_law_close_services" = true)
    (kp_law_close_services : PySem.W.keepIn K (.ref p__law_close_services) = true)
    (a_law_pick : PySem.W.nsIn K mainGlobals "_law_pick" = some (some (.ref p__law_pick)))
    (l_law_pick : K.lookup p__law_pick = some ⟨o_law_pick, d_law_pick, .func (PySem.W.fnOf "_law_pick" "_law_pick" (defArgs s__law_pick) (defBody s__law_pick) (defScope s__law_pick) .none kw_law_pick e_law_pick pm_law_pick n_law_pick cv_law_pick ct_law_pick), sl_law_pick⟩)
    (cd_law_pick : PySem.W.codeIn K cv_law_pick "_law_pick" = true)
    (kp_law_pick : PySem.W.keepIn K (.ref p__law_pick) = true)
    (a_law_small_services : PySem.W.nsIn K mainGlobals "_law_small_services" = some (some (.ref p__law_small_services)))
    (l_law_small_services : K.lookup p__law_small_services = some ⟨o_law_small_services, d_law_small_services, .func (PySem.W.fnOf "_law_small_services" "_law_small_services" (defArgs s__law_small_services) (defBody s__law_small_services) (defScope s__law_small_services) .none kw_law_small_services e_law_small_services pm_law_small_services n_law_small_services cv_law_small_services ct_law_small_services), sl_law_small_services⟩)
    (cd_law_small_services : PySem.W.codeIn K cv_law_small_services "_law_small_services" = true)
    (kp_law_small_services : PySem.W.keepIn K (.ref p__law_small_services) = true)
    (a_law_small : PySem.W.nsIn K mainGlobals "_law_small" = some (some (.ref p__law_small)))
    (l_law_small : K.lookup p__law_small = some ⟨o_law_small, d_law_small, .func (PySem.W.fnOf "_law_small" "_law_small" (defArgs s__law_small) (defBody s__law_small) (defScope s__law_small) .none kw_law_small e_law_small pm_law_small n_law_small cv_law_small ct_law_small), sl_law_small⟩)
    (cd_law_small : PySem.W.codeIn K cv_law_small "_law_small" = true)
    (kp_law_small : PySem.W.keepIn K (.ref p__law_small) = true)
    (a_law_great : PySem.W.nsIn K mainGlobals "_law_great" = some (some (.ref p__law_great)))
    (l_law_great : K.lookup p__law_great = some ⟨o_law_great, d_law_great, .func (PySem.W.fnOf "_law_great" "_law_great" (defArgs s__law_great) (defBody s__law_great) (defScope s__law_great) .none kw_law_great e_law_great pm_law_great n_law_great cv_law_great ct_law_great), sl_law_great⟩)
    (cd_law_great : PySem.W.codeIn K cv_law_great "_law_great" = true)
    (kp_law_great : PySem.W.keepIn K (.ref p__law_great) = true)
    (a_law_great_map : PySem.W.nsIn K mainGlobals "_law_great_map" = some (some (.ref p__law_great_map)))
    (l_law_great_map : K.lookup p__law_great_map = some ⟨o_law_great_map, d_law_great_map, .func (PySem.W.fnOf "_law_great_map" "_law_great_map" (defArgs s__law_great_map) (defBody s__law_great_map) (defScope s__law_great_map) .none kw_law_great_map e_law_great_map pm_law_great_map n_law_great_map cv_law_great_map ct_law_great_map), sl_law_great_map⟩)
    (cd_law_great_map : PySem.W.codeIn K cv_law_great_map "_law_great_map" = true)
    (kp_law_great_map : PySem.W.keepIn K (.ref p__law_great_map) = true)
    (a_law_even_map : PySem.W.nsIn K mainGlobals "_law_even_map" = some (some (.ref p__law_even_map)))
    (l_law_even_map : K.lookup p__law_even_map = some ⟨o_law_even_map, d_law_even_map, .func (PySem.W.fnOf "_law_even_map" "_law_even_map" (defArgs s__law_even_map) (defBody s__law_even_map) (defScope s__law_even_map) .none kw_law_even_map e_law_even_map pm_law_even_map n_law_even_map cv_law_even_map ct_law_even_map), sl_law_even_map⟩)
    (cd_law_even_map : PySem.W.codeIn K cv_law_even_map "_law_even_map" = true)
    (kp_law_even_map : PySem.W.keepIn K (.ref p__law_even_map) = true)
    (a_law_regular_map : PySem.W.nsIn K mainGlobals "_law_regular_map" = some (some (.ref p__law_regular_map)))
    (l_law_regular_map : K.lookup p__law_regular_map = some ⟨o_law_regular_map, d_law_regular_map, .func (PySem.W.fnOf "_law_regular_map" "_law_regular_map" (defArgs s__law_regular_map) (defBody s__law_regular_map) (defScope s__law_regular_map) .none kw_law_regular_map e_law_regular_map pm_law_regular_map n_law_regular_map cv_law_regular_map ct_law_regular_map), sl_law_regular_map⟩)
    (cd_law_regular_map : PySem.W.codeIn K cv_law_regular_map "_law_regular_map" = true)
    (kp_law_regular_map : PySem.W.keepIn K (.ref p__law_regular_map) = true)
    (a_law_far_map : PySem.W.nsIn K mainGlobals "_law_far_map" = some (some (.ref p__law_far_map)))
    (l_law_far_map : K.lookup p__law_far_map = some ⟨o_law_far_map, d_law_far_map, .func (PySem.W.fnOf "_law_far_map" "_law_far_map" (defArgs s__law_far_map) (defBody s__law_far_map) (defScope s__law_far_map) .none kw_law_far_map e_law_far_map pm_law_far_map n_law_far_map cv_law_far_map ct_law_far_map), sl_law_far_map⟩)
    (cd_law_far_map : PySem.W.codeIn K cv_law_far_map "_law_far_map" = true)
    (kp_law_far_map : PySem.W.keepIn K (.ref p__law_far_map) = true)
    (a_law_wide_map : PySem.W.nsIn K mainGlobals "_law_wide_map" = some (some (.ref p__law_wide_map)))
    (l_law_wide_map : K.lookup p__law_wide_map = some ⟨o_law_wide_map, d_law_wide_map, .func (PySem.W.fnOf "_law_wide_map" "_law_wide_map" (defArgs s__law_wide_map) (defBody s__law_wide_map) (defScope s__law_wide_map) .none kw_law_wide_map e_law_wide_map pm_law_wide_map n_law_wide_map cv_law_wide_map ct_law_wide_map), sl_law_wide_map⟩)
    (cd_law_wide_map : PySem.W.codeIn K cv_law_wide_map "_law_wide_map" = true)
    (kp_law_wide_map : PySem.W.keepIn K (.ref p__law_wide_map) = true)
    (a_law_orbit_map : PySem.W.nsIn K mainGlobals "_law_orbit_map" = some (some (.ref p__law_orbit_map)))
    (l_law_orbit_map : K.lookup p__law_orbit_map = some ⟨o_law_orbit_map, d_law_orbit_map, .func (PySem.W.fnOf "_law_orbit_map" "_law_orbit_map" (defArgs s__law_orbit_map) (defBody s__law_orbit_map) (defScope s__law_orbit_map) .none kw_law_orbit_map e_law_orbit_map pm_law_orbit_map n_law_orbit_map cv_law_orbit_map ct_law_orbit_map), sl_law_orbit_map⟩)
    (cd_law_orbit_map : PySem.W.codeIn K cv_law_orbit_map "_law_orbit_map" = true)
    (kp_law_orbit_map : PySem.W.keepIn K (.ref p__law_orbit_map) = true)
    (a_law_shuffled : PySem.W.nsIn K mainGlobals "_law_shuffled" = some (some (.ref p__law_shuffled)))
    (l_law_shuffled : K.lookup p__law_shuffled = some ⟨o_law_shuffled, d_law_shuffled, .func (PySem.W.fnOf "_law_shuffled" "_law_shuffled" (defArgs s__law_shuffled) (defBody s__law_shuffled) (defScope s__law_shuffled) .none kw_law_shuffled e_law_shuffled pm_law_shuffled n_law_shuffled cv_law_shuffled ct_law_shuffled), sl_law_shuffled⟩)
    (cd_law_shuffled : PySem.W.codeIn K cv_law_shuffled "_law_shuffled" = true)
    (kp_law_shuffled : PySem.W.keepIn K (.ref p__law_shuffled) = true)
    (a_law_moved : PySem.W.nsIn K mainGlobals "_law_moved" = some (some (.ref p__law_moved)))
    (l_law_moved : K.lookup p__law_moved = some ⟨o_law_moved, d_law_moved, .func (PySem.W.fnOf "_law_moved" "_law_moved" (defArgs s__law_moved) (defBody s__law_moved) (defScope s__law_moved) .none kw_law_moved e_law_moved pm_law_moved n_law_moved cv_law_moved ct_law_moved), sl_law_moved⟩)
    (cd_law_moved : PySem.W.codeIn K cv_law_moved "_law_moved" = true)
    (kp_law_moved : PySem.W.keepIn K (.ref p__law_moved) = true)
    (alaw : PySem.W.nsIn K mainGlobals "law" = some (some (.ref p_law)))
    (llaw : K.lookup p_law = some ⟨olaw, dlaw, .func (PySem.W.fnOf "law" "law" (defArgs s_law) (defBody s_law) (defScope s_law) .none kwlaw elaw pmlaw nlaw cvlaw ctlaw), sllaw⟩)
    (cdlaw : PySem.W.codeIn K cvlaw "law" = true)
    (kplaw : PySem.W.keepIn K (.ref p_law) = true)
    (zc_MAX_SERVICES : PySem.W.nsIn K mainGlobals "MAX_SERVICES" = some (some (.int (200) tc_MAX_SERVICES)))
    (g_MAX_PERIOD : ∃ t, mg "MAX_PERIOD" = some (.int (1000000000000000000) t))
    (g_MAX_SERVICE_TIME : ∃ t, mg "MAX_SERVICE_TIME" = some (.int (1000000000000000000000000000000) t)) :
    ∃ fd : FuncData, (∀ (s : Shared) (v : Value), BindsTo s fd ⟨[v], []⟩ [("script", v)]) ∧ ∀ base : Heap, K.In base → base.Ns mainGlobals mg → FnG P w K mg base CX0 7 fa fd ["script"] (spLaw K) := by
  have e := hfa.symm.trans (PySem.W.mg_of X G alaw)
  cases e
  refine ⟨PySem.W.fnOf "law" "law" (defArgs s_law) (defBody s_law) (defScope s_law) .none kwlaw elaw pmlaw nlaw cvlaw ctlaw, fun s v => .of_eq rfl, fun base KB GB => ?_⟩
  have cl_StepMap : Cls K c_StepMap := ⟨pg_StepMap, hd_StepMap, po_StepMap, sa_StepMap⟩
  have cl_Track : Cls K c_Track := ⟨pg_Track, hd_Track, po_Track, sa_Track⟩
  have f_StepMap_length : DFl K c_StepMap "length" := ⟨cl_StepMap, nf_StepMap_length⟩
  have f_StepMap_rows : DFl K c_StepMap "rows" := ⟨cl_StepMap, nf_StepMap_rows⟩
  have f_Track_gain : DFl K c_Track "gain" := ⟨cl_Track, nf_Track_gain⟩
  have f_Track_start : DFl K c_Track "start" := ⟨cl_Track, nf_Track_start⟩
  have f_Track_times : DFl K c_Track "times" := ⟨cl_Track, nf_Track_times⟩
  have b_abs := PySem.W.mg_none_of X G z_abs
  have b_all := PySem.W.mg_none_of X G z_all
  have b_bool := PySem.W.mg_none_of X G z_bool
  have b_int := PySem.W.mg_none_of X G z_int
  have b_isinstance := PySem.W.mg_none_of X G z_isinstance
  have b_len := PySem.W.mg_none_of X G z_len
  have b_list := PySem.W.mg_none_of X G z_list
  have b_max := PySem.W.mg_none_of X G z_max
  have b_min := PySem.W.mg_none_of X G z_min
  have b_range := PySem.W.mg_none_of X G z_range
  have b_repr := PySem.W.mg_none_of X G z_repr
  have b_sorted := PySem.W.mg_none_of X G z_sorted
  have b_tuple := PySem.W.mg_none_of X G z_tuple
  have g_MAX_SERVICES : ∃ t, mg "MAX_SERVICES" = some (.int (200) t) := ⟨_, PySem.W.mg_of X G zc_MAX_SERVICES⟩
  have Fis_int : FD K "is_int" "is_int" s_is_int [] p_is_int _ := ⟨⟨ois_int, dis_int, .none, kwis_int, eis_int, pmis_int, nis_int, cvis_int, ctis_int, slis_int, rfl, lis_int, cdis_int, .inl ⟨rfl, rfl⟩, .inl rfl⟩, kpis_int⟩
  have Bis_int : Binds K _ ["value"] [] := Fis_int.bindsN (ps := ["value"]) fun _ _ _ _ _ _ us hl => match us, hl with | [_], _ => rfl
  have Ois_int := ok_is_int (P := P) (w := w) (mg := mg) (base := base) Fis_int b_int b_isinstance b_bool
  have n_is_int := PySem.W.mg_of X G ais_int
  have h_is_int : DFn P w K mg base CX0 1 "is_int" 1 (m_is_int) [] := ⟨_, _, _, [], Ois_int, n_is_int, kpis_int, Bis_int, .nil⟩
  have Fis_int_in : FD K "is_int_in" "is_int_in" s_is_int_in [] p_is_int_in _ := ⟨⟨ois_int_in, dis_int_in, .none, kwis_int_in, eis_int_in, pmis_int_in, nis_int_in, cvis_int_in, ctis_int_in, slis_int_in, rfl, lis_int_in, cdis_int_in, .inl ⟨rfl, rfl⟩, .inl rfl⟩, kpis_int_in⟩
  have Bis_int_in : Binds K _ ["value", "low", "high"] [] := Fis_int_in.bindsN (ps := ["value", "low", "high"]) fun _ _ _ _ _ _ us hl => match us, hl with | [_, _, _], _ => rfl
  have Ois_int_in := ok_is_int_in (P := P) (w := w) (mg := mg) (base := base) Fis_int_in h_is_int
  have n_is_int_in := PySem.W.mg_of X G ais_int_in
  have h_is_int_in : DFn P w K mg base CX0 2 "is_int_in" 3 (m_is_int_in) [] := ⟨_, _, _, [], Ois_int_in, n_is_int_in, kpis_int_in, Bis_int_in, .nil⟩
  have Fis_service : FD K "is_service" "is_service" s_is_service [] p_is_service _ := ⟨⟨ois_service, dis_service, .none, kwis_service, eis_service, pmis_service, nis_service, cvis_service, ctis_service, slis_service, rfl, lis_service, cdis_service, .inl ⟨rfl, rfl⟩, .inl rfl⟩, kpis_service⟩
  have Bis_service : Binds K _ ["value"] [] := Fis_service.bindsN (ps := ["value"]) fun _ _ _ _ _ _ us hl => match us, hl with | [_], _ => rfl
  have Ois_service := ok_is_service (P := P) (w := w) (mg := mg) (base := base) Fis_service b_tuple b_isinstance b_len h_is_int_in g_MAX_SERVICE_TIME b_all
  have n_is_service := PySem.W.mg_of X G ais_service
  have h_is_service : DFn P w K mg base CX0 3 "is_service" 1 (m_is_service) [] := ⟨_, _, _, [], Ois_service, n_is_service, kpis_service, Bis_service, .nil⟩
  have Fare_services : FD K "are_services" "are_services" s_are_services [.int 0] p_are_services _ := ⟨⟨oare_services, dare_services, .ref tdare_services, kware_services, eare_services, pmare_services, nare_services, cvare_services, ctare_services, slare_services, rfl, lare_services, cdare_services, .inr ⟨(fun z => nomatch z), tdare_services, _, _, _, rfl, tlare_services, rfl, (.cons ⟨_, rfl⟩ .nil)⟩, .inl rfl⟩, kpare_services⟩
  obtain ⟨dsare_services0, Rare_services0, Bare_services0⟩ := Fare_services.binds1 (ps := ["value", "most", "least"]) 2 0 (fun z => nomatch z) rfl fun T kV doc pm an cdv ct us its h1 h2 => match us, its, h1, h2 with | [_, _], [_], _, _ => ⟨_, rfl, rfl⟩
  obtain ⟨dsare_services1, Rare_services1, Bare_services1⟩ := Fare_services.binds1 (ps := ["value", "most", "least"]) 3 1 (fun z => nomatch z) rfl fun T kV doc pm an cdv ct us its h1 h2 => match us, its, h1, h2 with | [_, _, _], [_], _, _ => ⟨_, rfl, rfl⟩
  have Oare_services := ok_are_services (P := P) (w := w) (mg := mg) (base := base) Fare_services b_list b_tuple b_isinstance b_len h_is_service b_all
  have n_are_services := PySem.W.mg_of X G aare_services
  have h_are_services : DFn P w K mg base CX0 4 "are_services" 3 (m_are_services) [] := ⟨_, _, _, _, Oare_services, n_are_services, kpare_services, Bare_services1, Rare_services1⟩
  have Fin_first_period : FD K "in_first_period" "in_first_period" s_in_first_period [] p_in_first_period _ := ⟨⟨oin_first_period, din_first_period, .none, kwin_first_period, ein_first_period, pmin_first_period, nin_first_period, cvin_first_period, ctin_first_period, slin_first_period, rfl, lin_first_period, cdin_first_period, .inl ⟨rfl, rfl⟩, .inl rfl⟩, kpin_first_period⟩
  have Bin_first_period : Binds K _ ["service", "period"] [] := Fin_first_period.bindsN (ps := ["service", "period"]) fun _ _ _ _ _ _ us hl => match us, hl with | [_, _], _ => rfl
  have Oin_first_period := ok_in_first_period (P := P) (w := w) (mg := mg) (base := base) Fin_first_period 
  have n_in_first_period := PySem.W.mg_of X G ain_first_period
  have h_in_first_period : DFn P w K mg base CX0 1 "in_first_period" 2 (m_in_first_period) [] := ⟨_, _, _, [], Oin_first_period, n_in_first_period, kpin_first_period, Bin_first_period, .nil⟩
  have Fneeded_steps : FD K "needed_steps" "needed_steps" s_needed_steps [] p_needed_steps _ := ⟨⟨oneeded_steps, dneeded_steps, .none, kwneeded_steps, eneeded_steps, pmneeded_steps, nneeded_steps, cvneeded_steps, ctneeded_steps, slneeded_steps, rfl, lneeded_steps, cdneeded_steps, .inl ⟨rfl, rfl⟩, .inl rfl⟩, kpneeded_steps⟩
  have Bneeded_steps : Binds K _ ["period", "services"] [] := Fneeded_steps.bindsN (ps := ["period", "services"]) fun _ _ _ _ _ _ us hl => match us, hl with | [_, _], _ => rfl
  have Oneeded_steps := ok_needed_steps (P := P) (w := w) (mg := mg) (base := base) Fneeded_steps h_in_first_period b_min b_sorted
  have n_needed_steps := PySem.W.mg_of X G aneeded_steps
  have h_needed_steps : DFn P w K mg base CX0 2 "needed_steps" 2 (m_needed_steps) [] := ⟨_, _, _, [], Oneeded_steps, n_needed_steps, kpneeded_steps, Bneeded_steps, .nil⟩
  have FStepMap_init : FD K "__init__" "StepMap.__init__" s_StepMap_init [] p_StepMap_init _ := ⟨⟨oStepMap_init, dStepMap_init, .none, kwStepMap_init, eStepMap_init, pmStepMap_init, nStepMap_init, cvStepMap_init, ctStepMap_init, slStepMap_init, rfl, lStepMap_init, cdStepMap_init, .inl ⟨rfl, rfl⟩, .inl rfl⟩, kpStepMap_init⟩
  have BStepMap_init : Binds K _ ["self", "period", "services"] [] := FStepMap_init.bindsN (ps := ["self", "period", "services"]) fun _ _ _ _ _ _ us hl => match us, hl with | [_, _, _], _ => rfl
  have OStepMap_init := ok_StepMap_init (P := P) (w := w) (mg := mg) (base := base) (c_StepMap := c_StepMap) FStepMap_init h_is_int_in g_MAX_PERIOD h_are_services g_MAX_SERVICES f_StepMap_length h_needed_steps f_StepMap_rows
  have k_StepMap : DMk P w K mg base CX0 5 "StepMap" c_StepMap 3 (m_StepMap_init c_StepMap) [] := ⟨_, _, _, [], ⟨mkStepMap, aStepMap_init, iStepMap_init, kcStepMap⟩, OStepMap_init, PySem.W.mg_of X G x_StepMap, BStepMap_init, .nil⟩
  have Fgcd : FD K "gcd" "gcd" s_gcd [] p_gcd _ := ⟨⟨ogcd, dgcd, .none, kwgcd, egcd, pmgcd, ngcd, cvgcd, ctgcd, slgcd, rfl, lgcd, cdgcd, .inl ⟨rfl, rfl⟩, .inl rfl⟩, kpgcd⟩
  have Bgcd : Binds K _ ["first", "second"] [] := Fgcd.bindsN (ps := ["first", "second"]) fun _ _ _ _ _ _ us hl => match us, hl with | [_, _], _ => rfl
  have Ogcd := ok_gcd (P := P) (w := w) (mg := mg) (base := base) Fgcd b_abs
  have n_gcd := PySem.W.mg_of X G agcd
  have h_gcd : DFn P w K mg base CX0 1 "gcd" 2 (m_gcd) [] := ⟨_, _, _, [], Ogcd, n_gcd, kpgcd, Bgcd, .nil⟩
  have Freduced : FD K "reduced" "reduced" s_reduced [] p_reduced _ := ⟨⟨oreduced, dreduced, .none, kwreduced, ereduced, pmreduced, nreduced, cvreduced, ctreduced, slreduced, rfl, lreduced, cdreduced, .inl ⟨rfl, rfl⟩, .inl rfl⟩, kpreduced⟩
  have Breduced : Binds K _ ["numerator", "denominator"] [] := Freduced.bindsN (ps := ["numerator", "denominator"]) fun _ _ _ _ _ _ us hl => match us, hl with | [_, _], _ => rfl
  have Oreduced := ok_reduced (P := P) (w := w) (mg := mg) (base := base) Freduced h_gcd
  have n_reduced := PySem.W.mg_of X G areduced
  have h_reduced : DFn P w K mg base CX0 2 "reduced" 2 (m_reduced) [] := ⟨_, _, _, [], Oreduced, n_reduced, kpreduced, Breduced, .nil⟩
  have FStepMap_step_index : FD K "step_index" "StepMap.step_index" s_StepMap_step_index [] p_StepMap_step_index _ := ⟨⟨oStepMap_step_index, dStepMap_step_index, .none, kwStepMap_step_index, eStepMap_step_index, pmStepMap_step_index, nStepMap_step_index, cvStepMap_step_index, ctStepMap_step_index, slStepMap_step_index, rfl, lStepMap_step_index, cdStepMap_step_index, .inl ⟨rfl, rfl⟩, .inl rfl⟩, kpStepMap_step_index⟩
  have BStepMap_step_index : Binds K _ ["self", "time"] [] := FStepMap_step_index.bindsN (ps := ["self", "time"]) fun _ _ _ _ _ _ us hl => match us, hl with | [_, _], _ => rfl
  have OStepMap_step_index := ok_StepMap_step_index (P := P) (w := w) (mg := mg) (base := base) (c_StepMap := c_StepMap) FStepMap_step_index f_StepMap_length f_StepMap_rows b_len
  have h_StepMap_step_index : DMt P w K mg base CX0 1 c_StepMap "step_index" 2 (m_StepMap_step_index c_StepMap) [] := ⟨_, _, _, [], cl_StepMap, ⟨aStepMap_step_index, iStepMap_step_index, kpStepMap_step_index⟩, OStepMap_step_index, BStepMap_step_index, .nil⟩
  have FStepMap_apply : FD K "apply" "StepMap.apply" s_StepMap_apply [] p_StepMap_apply _ := ⟨⟨oStepMap_apply, dStepMap_apply, .none, kwStepMap_apply, eStepMap_apply, pmStepMap_apply, nStepMap_apply, cvStepMap_apply, ctStepMap_apply, slStepMap_apply, rfl, lStepMap_apply, cdStepMap_apply, .inl ⟨rfl, rfl⟩, .inl rfl⟩, kpStepMap_apply⟩
  have BStepMap_apply : Binds K _ ["self", "time"] [] := FStepMap_apply.bindsN (ps := ["self", "time"]) fun _ _ _ _ _ _ us hl => match us, hl with | [_, _], _ => rfl
  have OStepMap_apply := ok_StepMap_apply (P := P) (w := w) (mg := mg) (base := base) (c_StepMap := c_StepMap) FStepMap_apply f_StepMap_length h_StepMap_step_index f_StepMap_rows b_len
  have h_StepMap_apply : DMt P w K mg base CX0 2 c_StepMap "apply" 2 (m_StepMap_apply c_StepMap) [] := ⟨_, _, _, [], cl_StepMap, ⟨aStepMap_apply, iStepMap_apply, kpStepMap_apply⟩, OStepMap_apply, BStepMap_apply, .nil⟩
  have FTrack_init : FD K "__init__" "Track.__init__" s_Track_init [] p_Track_init _ := ⟨⟨oTrack_init, dTrack_init, .none, kwTrack_init, eTrack_init, pmTrack_init, nTrack_init, cvTrack_init, ctTrack_init, slTrack_init, rfl, lTrack_init, cdTrack_init, .inl ⟨rfl, rfl⟩, .inl rfl⟩, kpTrack_init⟩
  have BTrack_init : Binds K _ ["self", "mapping", "time"] [] := FTrack_init.bindsN (ps := ["self", "mapping", "time"]) fun _ _ _ _ _ _ us hl => match us, hl with | [_, _, _], _ => rfl
  have OTrack_init := ok_Track_init (P := P) (w := w) (mg := mg) (base := base) (c_StepMap := c_StepMap) (c_Track := c_Track) FTrack_init f_Track_times f_StepMap_length b_len h_StepMap_apply f_Track_start f_Track_gain
  have k_Track : DMk P w K mg base CX0 3 "Track" c_Track 3 (m_Track_init c_StepMap c_Track) [] := ⟨_, _, _, [], ⟨mkTrack, aTrack_init, iTrack_init, kcTrack⟩, OTrack_init, PySem.W.mg_of X G x_Track, BTrack_init, .nil⟩
  have FTrack_turn : FD K "turn" "Track.turn" s_Track_turn [] p_Track_turn _ := ⟨⟨oTrack_turn, dTrack_turn, .none, kwTrack_turn, eTrack_turn, pmTrack_turn, nTrack_turn, cvTrack_turn, ctTrack_turn, slTrack_turn, rfl, lTrack_turn, cdTrack_turn, .inl ⟨rfl, rfl⟩, .inl rfl⟩, kpTrack_turn⟩
  have BTrack_turn : Binds K _ ["self"] [] := FTrack_turn.bindsN (ps := ["self"]) fun _ _ _ _ _ _ us hl => match us, hl with | [_], _ => rfl
  have OTrack_turn := ok_Track_turn (P := P) (w := w) (mg := mg) (base := base) (c_Track := c_Track) FTrack_turn f_Track_times f_Track_start
  have h_Track_turn : DMt P w K mg base CX0 1 c_Track "turn" 1 (m_Track_turn c_Track) [] := ⟨_, _, _, [], cl_Track, ⟨aTrack_turn, iTrack_turn, kpTrack_turn⟩, OTrack_turn, BTrack_turn, .nil⟩
  have Frotation : FD K "rotation" "rotation" s_rotation [] p_rotation _ := ⟨⟨orotation, drotation, .none, kwrotation, erotation, pmrotation, nrotation, cvrotation, ctrotation, slrotation, rfl, lrotation, cdrotation, .inl ⟨rfl, rfl⟩, .inl rfl⟩, kprotation⟩
  have Brotation : Binds K _ ["mapping"] [] := Frotation.bindsN (ps := ["mapping"]) fun _ _ _ _ _ _ us hl => match us, hl with | [_], _ => rfl
  have Orotation := ok_rotation (P := P) (w := w) (mg := mg) (base := base) (c_StepMap := c_StepMap) (c_Track := c_Track) Frotation k_Track h_reduced f_Track_gain f_StepMap_length h_Track_turn b_len
  have n_rotation := PySem.W.mg_of X G arotation
  have h_rotation : DFn P w K mg base CX0 5 "rotation" 1 (m_rotation c_StepMap c_Track) [] := ⟨_, _, _, [], Orotation, n_rotation, kprotation, Brotation, .nil⟩
  have F_law_pen : FD K "_law_pen" "_law_pen" s__law_pen [] p__law_pen _ := ⟨⟨o_law_pen, d_law_pen, .none, kw_law_pen, e_law_pen, pm_law_pen, n_law_pen, cv_law_pen, ct_law_pen, sl_law_pen, rfl, l_law_pen, cd_law_pen, .inl ⟨rfl, rfl⟩, .inl rfl⟩, kp_law_pen⟩
  have B_law_pen : Binds K _ ["script"] [] := F_law_pen.bindsN (ps := ["script"]) fun _ _ _ _ _ _ us hl => match us, hl with | [_], _ => rfl
  have O_law_pen := ok__law_pen (P := P) (w := w) (mg := mg) (base := base) F_law_pen b_list
  have n__law_pen := PySem.W.mg_of X G a_law_pen
  have h__law_pen : DFn P w K mg base CX0 1 "_law_pen" 1 (m__law_pen) [] := ⟨_, _, _, [], O_law_pen, n__law_pen, kp_law_pen, B_law_pen, .nil⟩
  have F_law_gcd : FD K "_law_gcd" "_law_gcd" s__law_gcd [] p__law_gcd _ := ⟨⟨o_law_gcd, d_law_gcd, .none, kw_law_gcd, e_law_gcd, pm_law_gcd, n_law_gcd, cv_law_gcd, ct_law_gcd, sl_law_gcd, rfl, l_law_gcd, cd_law_gcd, .inl ⟨rfl, rfl⟩, .inl rfl⟩, kp_law_gcd⟩
  have B_law_gcd : Binds K _ ["one", "two"] [] := F_law_gcd.bindsN (ps := ["one", "two"]) fun _ _ _ _ _ _ us hl => match us, hl with | [_, _], _ => rfl
  have O_law_gcd := ok__law_gcd (P := P) (w := w) (mg := mg) (base := base) F_law_gcd b_abs
  have n__law_gcd := PySem.W.mg_of X G a_law_gcd
  have h__law_gcd : DFn P w K mg base CX0 1 "_law_gcd" 2 (m__law_gcd) [] := ⟨_, _, _, [], O_law_gcd, n__law_gcd, kp_law_gcd, B_law_gcd, .nil⟩
  have F_law_fraction : FD K "_law_fraction" "_law_fraction" s__law_fraction [] p__law_fraction _ := ⟨⟨o_law_fraction, d_law_fraction, .none, kw_law_fraction, e_law_fraction, pm_law_fraction, n_law_fraction, cv_law_fraction, ct_law_fraction, sl_law_fraction, rfl, l_law_fraction, cd_law_fraction, .inl ⟨rfl, rfl⟩, .inl rfl⟩, kp_law_fraction⟩
  have B_law_fraction : Binds K _ ["numerator", "denominator"] [] := F_law_fraction.bindsN (ps := ["numerator", "denominator"]) fun _ _ _ _ _ _ us hl => match us, hl with | [_, _], _ => rfl
  have O_law_fraction := ok__law_fraction (P := P) (w := w) (mg := mg) (base := base) F_law_fraction h__law_gcd
  have n__law_fraction := PySem.W.mg_of X G a_law_fraction
  have h__law_fraction : DFn P w K mg base CX0 2 "_law_fraction" 2 (m__law_fraction) [] := ⟨_, _, _, [], O_law_fraction, n__law_fraction, kp_law_fraction, B_law_fraction, .nil⟩
  have F_law_value : FD K "_law_value" "_law_value" s__law_value [] p__law_value _ := ⟨⟨o_law_value, d_law_value, .none, kw_law_value, e_law_value, pm_law_value, n_law_value, cv_law_value, ct_law_value, sl_law_value, rfl, l_law_value, cd_law_value, .inl ⟨rfl, rfl⟩, .inl rfl⟩, kp_law_value⟩
  have B_law_value : Binds K _ ["n", "services", "x"] [] := F_law_value.bindsN (ps := ["n", "services", "x"]) fun _ _ _ _ _ _ us hl => match us, hl with | [_, _, _], _ => rfl
  have O_law_value := ok__law_value (P := P) (w := w) (mg := mg) (base := base) F_law_value b_min
  have n__law_value := PySem.W.mg_of X G a_law_value
  have h__law_value : DFn P w K mg base CX0 1 "_law_value" 3 (m__law_value) [] := ⟨_, _, _, [], O_law_value, n__law_value, kp_law_value, B_law_value, .nil⟩
  have F_law_turn : FD K "_law_turn" "_law_turn" s__law_turn [] p__law_turn _ := ⟨⟨o_law_turn, d_law_turn, .none, kw_law_turn, e_law_turn, pm_law_turn, n_law_turn, cv_law_turn, ct_law_turn, sl_law_turn, rfl, l_law_turn, cd_law_turn, .inl ⟨rfl, rfl⟩, .inl rfl⟩, kp_law_turn⟩
  have B_law_turn : Binds K _ ["n", "services", "x"] [] := F_law_turn.bindsN (ps := ["n", "services", "x"]) fun _ _ _ _ _ _ us hl => match us, hl with | [_, _, _], _ => rfl
  have O_law_turn := ok__law_turn (P := P) (w := w) (mg := mg) (base := base) F_law_turn b_len h__law_value
  have n__law_turn := PySem.W.mg_of X G a_law_turn
  have h__law_turn : DFn P w K mg base CX0 2 "_law_turn" 3 (m__law_turn) [] := ⟨_, _, _, [], O_law_turn, n__law_turn, kp_law_turn, B_law_turn, .nil⟩
  have F_law_rotation : FD K "_law_rotation" "_law_rotation" s__law_rotation [] p__law_rotation _ := ⟨⟨o_law_rotation, d_law_rotation, .none, kw_law_rotation, e_law_rotation, pm_law_rotation, n_law_rotation, cv_law_rotation, ct_law_rotation, sl_law_rotation, rfl, l_law_rotation, cd_law_rotation, .inl ⟨rfl, rfl⟩, .inl rfl⟩, kp_law_rotation⟩
  have B_law_rotation : Binds K _ ["n", "services"] [] := F_law_rotation.bindsN (ps := ["n", "services"]) fun _ _ _ _ _ _ us hl => match us, hl with | [_, _], _ => rfl
  have O_law_rotation := ok__law_rotation (P := P) (w := w) (mg := mg) (base := base) F_law_rotation h__law_turn h__law_fraction
  have n__law_rotation := PySem.W.mg_of X G a_law_rotation
  have h__law_rotation : DFn P w K mg base CX0 3 "_law_rotation" 2 (m__law_rotation) [] := ⟨_, _, _, [], O_law_rotation, n__law_rotation, kp_law_rotation, B_law_rotation, .nil⟩
  have F_law_draw : FD K "_law_draw" "_law_draw" s__law_draw [] p__law_draw _ := ⟨⟨o_law_draw, d_law_draw, .none, kw_law_draw, e_law_draw, pm_law_draw, n_law_draw, cv_law_draw, ct_law_draw, sl_law_draw, rfl, l_law_draw, cd_law_draw, .inl ⟨rfl, rfl⟩, .inl rfl⟩, kp_law_draw⟩
  have B_law_draw : Binds K _ ["pen", "many"] [] := F_law_draw.bindsN (ps := ["pen", "many"]) fun _ _ _ _ _ _ us hl => match us, hl with | [_, _], _ => rfl
  have O_law_draw := ok__law_draw (P := P) (w := w) (mg := mg) (base := base) F_law_draw b_len b_abs
  have n__law_draw := PySem.W.mg_of X G a_law_draw
  have h__law_draw : DFn P w K mg base CX0 1 "_law_draw" 2 (m__law_draw) [] := ⟨_, _, _, [], O_law_draw, n__law_draw, kp_law_draw, B_law_draw, .nil⟩
  have F_law_close_services : FD K "_law_close_services" "_law_close_services" s__law_close_services [] p__law_close_services _ := ⟨⟨o_law_close_services, d_law_close_services, .none, kw_law_close_services, e_law_close_services, pm_law_close_services, n_law_close_services, cv_law_close_services, ct_law_close_services, sl_law_close_services, rfl, l_law_close_services, cd_law_close_services, .inl ⟨rfl, rfl⟩, .inl rfl⟩, kp_law_close_services⟩
  have B_law_close_services : Binds K _ ["pen", "n", "most"] [] := F_law_close_services.bindsN (ps := ["pen", "n", "most"]) fun _ _ _ _ _ _ us hl => match us, hl with | [_, _, _], _ => rfl
  have O_law_close_services := ok__law_close_services (P := P) (w := w) (mg := mg) (base := base) F_law_close_services h__law_draw b_range
  have n__law_close_services := PySem.W.mg_of X G a_law_close_services
  have h__law_close_services : DFn P w K mg base CX0 2 "_law_close_services" 3 (m__law_close_services) [] := ⟨_, _, _, [], O_law_close_services, n__law_close_services, kp_law_close_services, B_law_close_services, .nil⟩
  have F_law_pick : FD K "_law_pick" "_law_pick" s__law_pick [] p__law_pick _ := ⟨⟨o_law_pick, d_law_pick, .none, kw_law_pick, e_law_pick, pm_law_pick, n_law_pick, cv_law_pick, ct_law_pick, sl_law_pick, rfl, l_law_pick, cd_law_pick, .inl ⟨rfl, rfl⟩, .inl rfl⟩, kp_law_pick⟩
  have B_law_pick : Binds K _ ["pen", "options"] [] := F_law_pick.bindsN (ps := ["pen", "options"]) fun _ _ _ _ _ _ us hl => match us, hl with | [_, _], _ => rfl
  have O_law_pick := ok__law_pick (P := P) (w := w) (mg := mg) (base := base) F_law_pick h__law_draw b_len
  have n__law_pick := PySem.W.mg_of X G a_law_pick
  have h__law_pick : DFn P w K mg base CX0 2 "_law_pick" 2 (m__law_pick) [] := ⟨_, _, _, [], O_law_pick, n__law_pick, kp_law_pick, B_law_pick, .nil⟩
  have F_law_small_services : FD K "_law_small_services" "_law_small_services" s__law_small_services [] p__law_small_services _ := ⟨⟨o_law_small_services, d_law_small_services, .none, kw_law_small_services, e_law_small_services, pm_law_small_services, n_law_small_services, cv_law_small_services, ct_law_small_services, sl_law_small_services, rfl, l_law_small_services, cd_law_small_services, .inl ⟨rfl, rfl⟩, .inl rfl⟩, kp_law_small_services⟩
  have B_law_small_services : Binds K _ ["pen", "n", "most"] [] := F_law_small_services.bindsN (ps := ["pen", "n", "most"]) fun _ _ _ _ _ _ us hl => match us, hl with | [_, _, _], _ => rfl
  have O_law_small_services := ok__law_small_services (P := P) (w := w) (mg := mg) (base := base) F_law_small_services h__law_draw b_range h__law_pick
  have n__law_small_services := PySem.W.mg_of X G a_law_small_services
  have h__law_small_services : DFn P w K mg base CX0 3 "_law_small_services" 3 (m__law_small_services) [] := ⟨_, _, _, [], O_law_small_services, n__law_small_services, kp_law_small_services, B_law_small_services, .nil⟩
  have F_law_small : FD K "_law_small" "_law_small" s__law_small [] p__law_small _ := ⟨⟨o_law_small, d_law_small, .none, kw_law_small, e_law_small, pm_law_small, n_law_small, cv_law_small, ct_law_small, sl_law_small, rfl, l_law_small, cd_law_small, .inl ⟨rfl, rfl⟩, .inl rfl⟩, kp_law_small⟩
  have B_law_small : Binds K _ ["pen"] [] := F_law_small.bindsN (ps := ["pen"]) fun _ _ _ _ _ _ us hl => match us, hl with | [_], _ => rfl
  have O_law_small := ok__law_small (P := P) (w := w) (mg := mg) (base := base) F_law_small h__law_pick h__law_draw h__law_small_services
  have n__law_small := PySem.W.mg_of X G a_law_small
  have t__law_small_4 : DAt P w K mg base CX0 4 p__law_small 1 (m__law_small) := ⟨_, _, O_law_small.mono (by decide), kp_law_small, B_law_small⟩
  have F_law_great : FD K "_law_great" "_law_great" s__law_great [] p__law_great _ := ⟨⟨o_law_great, d_law_great, .none, kw_law_great, e_law_great, pm_law_great, n_law_great, cv_law_great, ct_law_great, sl_law_great, rfl, l_law_great, cd_law_great, .inl ⟨rfl, rfl⟩, .inl rfl⟩, kp_law_great⟩
  have B_law_great : Binds K _ ["pen", "figures"] [] := F_law_great.bindsN (ps := ["pen", "figures"]) fun _ _ _ _ _ _ us hl => match us, hl with | [_, _], _ => rfl
  have O_law_great := ok__law_great (P := P) (w := w) (mg := mg) (base := base) F_law_great b_range h__law_draw
  have n__law_great := PySem.W.mg_of X G a_law_great
  have h__law_great : DFn P w K mg base CX0 2 "_law_great" 2 (m__law_great) [] := ⟨_, _, _, [], O_law_great, n__law_great, kp_law_great, B_law_great, .nil⟩
  have F_law_great_map : FD K "_law_great_map" "_law_great_map" s__law_great_map [] p__law_great_map _ := ⟨⟨o_law_great_map, d_law_great_map, .none, kw_law_great_map, e_law_great_map, pm_law_great_map, n_law_great_map, cv_law_great_map, ct_law_great_map, sl_law_great_map, rfl, l_law_great_map, cd_law_great_map, .inl ⟨rfl, rfl⟩, .inl rfl⟩, kp_law_great_map⟩
  have B_law_great_map : Binds K _ ["pen"] [] := F_law_great_map.bindsN (ps := ["pen"]) fun _ _ _ _ _ _ us hl => match us, hl with | [_], _ => rfl
  have O_law_great_map := ok__law_great_map (P := P) (w := w) (mg := mg) (base := base) F_law_great_map h__law_great h__law_pick b_min h__law_draw h__law_close_services b_range
  have n__law_great_map := PySem.W.mg_of X G a_law_great_map
  have t__law_great_map_4 : DAt P w K mg base CX0 4 p__law_great_map 1 (m__law_great_map) := ⟨_, _, O_law_great_map.mono (by decide), kp_law_great_map, B_law_great_map⟩
  have F_law_even_map : FD K "_law_even_map" "_law_even_map" s__law_even_map [] p__law_even_map _ := ⟨⟨o_law_even_map, d_law_even_map, .none, kw_law_even_map, e_law_even_map, pm_law_even_map, n_law_even_map, cv_law_even_map, ct_law_even_map, sl_law_even_map, rfl, l_law_even_map, cd_law_even_map, .inl ⟨rfl, rfl⟩, .inl rfl⟩, kp_law_even_map⟩
  have B_law_even_map : Binds K _ ["pen", "most"] [] := F_law_even_map.bindsN (ps := ["pen", "most"]) fun _ _ _ _ _ _ us hl => match us, hl with | [_, _], _ => rfl
  have O_law_even_map := ok__law_even_map (P := P) (w := w) (mg := mg) (base := base) F_law_even_map h__law_draw h__law_great h__law_pick b_range
  have n__law_even_map := PySem.W.mg_of X G a_law_even_map
  have h__law_even_map : DFn P w K mg base CX0 3 "_law_even_map" 2 (m__law_even_map) [] := ⟨_, _, _, [], O_law_even_map, n__law_even_map, kp_law_even_map, B_law_even_map, .nil⟩
  have F_law_regular_map : FD K "_law_regular_map" "_law_regular_map" s__law_regular_map [] p__law_regular_map _ := ⟨⟨o_law_regular_map, d_law_regular_map, .none, kw_law_regular_map, e_law_regular_map, pm_law_regular_map, n_law_regular_map, cv_law_regular_map, ct_law_regular_map, sl_law_regular_map, rfl, l_law_regular_map, cd_law_regular_map, .inl ⟨rfl, rfl⟩, .inl rfl⟩, kp_law_regular_map⟩
  have B_law_regular_map : Binds K _ ["pen"] [] := F_law_regular_map.bindsN (ps := ["pen"]) fun _ _ _ _ _ _ us hl => match us, hl with | [_], _ => rfl
  have O_law_regular_map := ok__law_regular_map (P := P) (w := w) (mg := mg) (base := base) F_law_regular_map h__law_even_map h__law_pick
  have n__law_regular_map := PySem.W.mg_of X G a_law_regular_map
  have t__law_regular_map_4 : DAt P w K mg base CX0 4 p__law_regular_map 1 (m__law_regular_map) := ⟨_, _, O_law_regular_map.mono (by decide), kp_law_regular_map, B_law_regular_map⟩
  have F_law_far_map : FD K "_law_far_map" "_law_far_map" s__law_far_map [] p__law_far_map _ := ⟨⟨o_law_far_map, d_law_far_map, .none, kw_law_far_map, e_law_far_map, pm_law_far_map, n_law_far_map, cv_law_far_map, ct_law_far_map, sl_law_far_map, rfl, l_law_far_map, cd_law_far_map, .inl ⟨rfl, rfl⟩, .inl rfl⟩, kp_law_far_map⟩
  have B_law_far_map : Binds K _ ["pen"] [] := F_law_far_map.bindsN (ps := ["pen"]) fun _ _ _ _ _ _ us hl => match us, hl with | [_], _ => rfl
  have O_law_far_map := ok__law_far_map (P := P) (w := w) (mg := mg) (base := base) F_law_far_map h__law_draw b_range h__law_great h__law_pick b_tuple
  have n__law_far_map := PySem.W.mg_of X G a_law_far_map
  have t__law_far_map_4 : DAt P w K mg base CX0 4 p__law_far_map 1 (m__law_far_map) := ⟨_, _, O_law_far_map.mono (by decide), kp_law_far_map, B_law_far_map⟩
  have F_law_wide_map : FD K "_law_wide_map" "_law_wide_map" s__law_wide_map [] p__law_wide_map _ := ⟨⟨o_law_wide_map, d_law_wide_map, .none, kw_law_wide_map, e_law_wide_map, pm_law_wide_map, n_law_wide_map, cv_law_wide_map, ct_law_wide_map, sl_law_wide_map, rfl, l_law_wide_map, cd_law_wide_map, .inl ⟨rfl, rfl⟩, .inl rfl⟩, kp_law_wide_map⟩
  have B_law_wide_map : Binds K _ ["pen"] [] := F_law_wide_map.bindsN (ps := ["pen"]) fun _ _ _ _ _ _ us hl => match us, hl with | [_], _ => rfl
  have O_law_wide_map := ok__law_wide_map (P := P) (w := w) (mg := mg) (base := base) F_law_wide_map h__law_great h__law_pick h__law_close_services
  have n__law_wide_map := PySem.W.mg_of X G a_law_wide_map
  have t__law_wide_map_4 : DAt P w K mg base CX0 4 p__law_wide_map 1 (m__law_wide_map) := ⟨_, _, O_law_wide_map.mono (by decide), kp_law_wide_map, B_law_wide_map⟩
  have F_law_orbit_map : FD K "_law_orbit_map" "_law_orbit_map" s__law_orbit_map [] p__law_orbit_map _ := ⟨⟨o_law_orbit_map, d_law_orbit_map, .none, kw_law_orbit_map, e_law_orbit_map, pm_law_orbit_map, n_law_orbit_map, cv_law_orbit_map, ct_law_orbit_map, sl_law_orbit_map, rfl, l_law_orbit_map, cd_law_orbit_map, .inl ⟨rfl, rfl⟩, .inl rfl⟩, kp_law_orbit_map⟩
  have B_law_orbit_map : Binds K _ ["pen"] [] := F_law_orbit_map.bindsN (ps := ["pen"]) fun _ _ _ _ _ _ us hl => match us, hl with | [_], _ => rfl
  have O_law_orbit_map := ok__law_orbit_map (P := P) (w := w) (mg := mg) (base := base) (a__law_far_map := p__law_far_map) (a__law_great_map := p__law_great_map) (a__law_regular_map := p__law_regular_map) (a__law_small := p__law_small) (a__law_wide_map := p__law_wide_map) F_law_orbit_map n__law_small n__law_great_map n__law_regular_map h__law_pick n__law_wide_map n__law_far_map t__law_wide_map_4 t__law_far_map_4 t__law_small_4 t__law_great_map_4 t__law_regular_map_4
  have n__law_orbit_map := PySem.W.mg_of X G a_law_orbit_map
  have h__law_orbit_map : DFn P w K mg base CX0 5 "_law_orbit_map" 1 (m__law_orbit_map_k25 p__law_far_map p__law_great_map p__law_regular_map p__law_small p__law_wide_map) [] := ⟨_, _, _, [], O_law_orbit_map, n__law_orbit_map, kp_law_orbit_map, B_law_orbit_map, .nil⟩
  have F_law_shuffled : FD K "_law_shuffled" "_law_shuffled" s__law_shuffled [] p__law_shuffled _ := ⟨⟨o_law_shuffled, d_law_shuffled, .none, kw_law_shuffled, e_law_shuffled, pm_law_shuffled, n_law_shuffled, cv_law_shuffled, ct_law_shuffled, sl_law_shuffled, rfl, l_law_shuffled, cd_law_shuffled, .inl ⟨rfl, rfl⟩, .inl rfl⟩, kp_law_shuffled⟩
  have B_law_shuffled : Binds K _ ["pen", "items"] [] := F_law_shuffled.bindsN (ps := ["pen", "items"]) fun _ _ _ _ _ _ us hl => match us, hl with | [_, _], _ => rfl
  have O_law_shuffled := ok__law_shuffled (P := P) (w := w) (mg := mg) (base := base) F_law_shuffled b_list b_len b_range h__law_draw
  have n__law_shuffled := PySem.W.mg_of X G a_law_shuffled
  have h__law_shuffled : DFn P w K mg base CX0 2 "_law_shuffled" 2 (m__law_shuffled) [] := ⟨_, _, _, [], O_law_shuffled, n__law_shuffled, kp_law_shuffled, B_law_shuffled, .nil⟩
  have F_law_moved : FD K "_law_moved" "_law_moved" s__law_moved [] p__law_moved _ := ⟨⟨o_law_moved, d_law_moved, .none, kw_law_moved, e_law_moved, pm_law_moved, n_law_moved, cv_law_moved, ct_law_moved, sl_law_moved, rfl, l_law_moved, cd_law_moved, .inl ⟨rfl, rfl⟩, .inl rfl⟩, kp_law_moved⟩
  have B_law_moved : Binds K _ ["pen", "n", "services"] [] := F_law_moved.bindsN (ps := ["pen", "n", "services"]) fun _ _ _ _ _ _ us hl => match us, hl with | [_, _, _], _ => rfl
  have O_law_moved := ok__law_moved (P := P) (w := w) (mg := mg) (base := base) F_law_moved h__law_shuffled h__law_draw b_abs b_max
  have n__law_moved := PySem.W.mg_of X G a_law_moved
  have h__law_moved : DFn P w K mg base CX0 3 "_law_moved" 3 (m__law_moved) [] := ⟨_, _, _, [], O_law_moved, n__law_moved, kp_law_moved, B_law_moved, .nil⟩
  have Flaw : FD K "law" "law" s_law [] fa _ := ⟨⟨olaw, dlaw, .none, kwlaw, elaw, pmlaw, nlaw, cvlaw, ctlaw, sllaw, rfl, llaw, cdlaw, .inl ⟨rfl, rfl⟩, .inl rfl⟩, kplaw⟩
  have Blaw : Binds K _ ["script"] [] := Flaw.bindsN (ps := ["script"]) fun _ _ _ _ _ _ us hl => match us, hl with | [_], _ => rfl
  have Olaw := ok_law (P := P) (w := w) (mg := mg) (base := base) (a__law_far_map := p__law_far_map) (a__law_great_map := p__law_great_map) (a__law_regular_map := p__law_regular_map) (a__law_small := p__law_small) (a__law_wide_map := p__law_wide_map) (c_StepMap := c_StepMap) (c_Track := c_Track) Flaw h__law_pen b_range h__law_orbit_map h__law_close_services h__law_rotation h_rotation k_StepMap b_repr h__law_moved
  exact Olaw.imp (spLaw_of (fun ns hl => law_true_k27 p__law_far_map p__law_great_map p__law_regular_map p__law_small p__law_wide_map c_StepMap c_Track ns hl))
end DL
open PySem PySem.W PyProof.Rows
set_option maxRecDepth 100000 in
set_option maxHeartbeats 0 in
theorem PySem.Challenge.cw_stepmaps_k27_rotations_of_maps_holds : PySem.Challenge.rw_stepmaps_k27_rotations_of_maps.Holds := by
  w_on; o_law; k_head; (case hw => w_witness2)
  k_fill
  refine DL.walkX (l := PySem.Challenge.rw_stepmaps_k27_rotations_of_maps) (k := 7) rfl rfl ⟨rfl, by decide, by decide⟩ (fun w h Y => PySem.W.kIn_of Y) ?F
  case F =>
    intro w mg fa h hX KX G hmg
    refine' DL.all_mk_k27 KX G hmg ?x_StepMap ?pg_StepMap ?hd_StepMap ?po_StepMap ?sa_StepMap ?x_Track ?pg_Track ?hd_Track ?po_Track ?sa_Track ?nf_StepMap_length ?nf_StepMap_rows ?nf_Track_gain ?nf_Track_start ?nf_Track_times ?z_abs ?z_all ?z_bool ?z_int ?z_isinstance ?z_len ?z_list ?z_max ?z_min ?z_range ?z_repr ?z_sorted ?z_tuple ?ais_int ?lis_int ?cdis_int ?kpis_int ?ais_int_in ?lis_int_in ?cdis_int_in ?kpis_int_in ?ais_service ?lis_service ?cdis_service ?kpis_service ?aare_services ?lare_services ?tlare_services ?cdare_services ?kpare_services ?ain_first_period ?lin_first_period ?cdin_first_period ?kpin_first_period ?aneeded_steps ?lneeded_steps ?cdneeded_steps ?kpneeded_steps ?aStepMap_init ?iStepMap_init ?lStepMap_init ?cdStepMap_init ?kpStepMap_init ?mkStepMap ?kcStepMap ?agcd ?lgcd ?cdgcd ?kpgcd ?areduced ?lreduced ?cdreduced ?kpreduced ?aStepMap_step_index ?iStepMap_step_index ?lStepMap_step_index ?cdStepMap_step_index ?kpStepMap_step_index ?aStepMap_apply ?iStepMap_apply ?lStepMap_apply ?cdStepMap_apply ?kpStepMap_apply ?aTrack_init ?iTrack_init ?lTrack_init ?cdTrack_init ?kpTrack_init ?mkTrack ?kcTrack ?aTrack_turn ?iTrack_turn ?lTrack_turn ?cdTrack_turn ?kpTrack_turn ?arotation ?lrotation ?cdrotation ?kprotation ?a_law_pen ?l_law_pen ?cd_law_pen ?kp_law_pen ?a_law_gcd ?l_law_gcd ?cd_law_gcd ?kp_law_gcd ?a_law_fraction ?l_law_fraction ?cd_law_fraction ?kp_law_fraction ?a_law_value ?l_law_value ?cd_law_value ?kp_law_value ?a_law_turn ?l_law_turn ?cd_law_turn ?kp_law_turn ?a_law_rotation ?l_law_rotation ?cd_law_rotation ?kp_law_rotation ?a_law_draw ?l_law_draw ?cd_law_draw ?kp_law_draw ?a_law_close_services ?l_law_close_services ?cd_law_close_services ?kp_law_close_services ?a_law_pick ?l_law_pick ?cd_law_pick ?kp_law_pick ?a_law_small_services ?l_law_small_services ?cd_law_small_services ?kp_law_small_services ?a_law_small ?l_law_small ?cd_law_small ?kp_law_small ?a_law_great ?l_law_great ?cd_law_great ?kp_law_great ?a_law_great_map ?l_law_great_map ?cd_law_great_map ?kp_law_great_map ?a_law_even_map ?l_law_even_map ?cd_law_even_map ?kp_law_even_map ?a_law_regular_map ?l_law_regular_map ?cd_law_regular_map ?kp_law_regular_map ?a_law_far_map ?l_law_far_map ?cd_law_far_map ?kp_law_far_map ?a_law_wide_map ?l_law_wide_map ?cd_law_wide_map ?kp_law_wide_map ?a_law_orbit_map ?l_law_orbit_map ?cd_law_orbit_map ?kp_law_orbit_map ?a_law_shuffled ?l_law_shuffled ?cd_law_shuffled ?kp_law_shuffled ?a_law_moved ?l_law_moved ?cd_law_moved ?kp_law_moved ?alaw ?llaw ?cdlaw ?kplaw ?zc_MAX_SERVICES ?g_MAX_PERIOD ?g_MAX_SERVICE_TIME
    (case x_StepMap => k_is)
    (case pg_StepMap => k_is)
    (case hd_StepMap => k_is)
    (case po_StepMap => k_is)
    (case sa_StepMap => k_is)
    (case x_Track => k_is)
    (case pg_Track => k_is)
    (case hd_Track => k_is)
    (case po_Track => k_is)
    (case sa_Track => k_is)
    (case nf_StepMap_length => k_is)
    (case nf_StepMap_rows => k_is)
    (case nf_Track_gain => k_is)
    (case nf_Track_start => k_is)
    (case nf_Track_times => k_is)
    (case z_abs => k_is)
    (case z_all => k_is)
    (case z_bool => k_is)
    (case z_int => k_is)
    (case z_isinstance => k_is)
    (case z_len => k_is)
    (case z_list => k_is)
    (case z_max => k_is)
    (case z_min => k_is)
    (case z_range => k_is)
    (case z_repr => k_is)
    (case z_sorted => k_is)
    (case z_tuple => k_is)
    (case ais_int => k_is)
    (case lis_int => k_is)
    (case cdis_int => k_is)
    (case kpis_int => k_is)
    (case ais_int_in => k_is)
    (case lis_int_in => k_is)
    (case cdis_int_in => k_is)
    (case kpis_int_in => k_is)
    (case ais_service => k_is)
    (case lis_service => k_is)
    (case cdis_service => k_is)
    (case kpis_service => k_is)
    (case aare_services => k_is)
    (case lare_services => k_is)
    (case tlare_services => k_is)
    (case cdare_services => k_is)
    (case kpare_services => k_is)
    (case ain_first_period => k_is)
    (case lin_first_period => k_is)
    (case cdin_first_period => k_is)
    (case kpin_first_period => k_is)
    (case aneeded_steps => k_is)
    (case lneeded_steps => k_is)
    (case cdneeded_steps => k_is)
    (case kpneeded_steps => k_is)
    (case aStepMap_init => k_is)
    (case iStepMap_init => k_is)
    (case lStepMap_init => k_is)
    (case cdStepMap_init => k_is)
    (case kpStepMap_init => k_is)
    (case mkStepMap => k_is)
    (case kcStepMap => k_is)
    (case agcd => k_is)
    (case lgcd => k_is)
    (case cdgcd => k_is)
    (case kpgcd => k_is)
    (case areduced => k_is)
    (case lreduced => k_is)
    (case cdreduced => k_is)
    (case kpreduced => k_is)
    (case aStepMap_step_index => k_is)
    (case iStepMap_step_index => k_is)
    (case lStepMap_step_index => k_is)
    (case cdStepMap_step_index => k_is)
    (case kpStepMap_step_index => k_is)
    (case aStepMap_apply => k_is)
    (case iStepMap_apply => k_is)
    (case lStepMap_apply => k_is)
    (case cdStepMap_apply => k_is)
    (case kpStepMap_apply => k_is)
    (case aTrack_init => k_is)
    (case iTrack_init => k_is)
    (case lTrack_init => k_is)
    (case cdTrack_init => k_is)
    (case kpTrack_init => k_is)
    (case mkTrack => k_is)
    (case kcTrack => k_is)
    (case aTrack_turn => k_is)
    (case iTrack_turn => k_is)
    (case lTrack_turn => k_is)
    (case cdTrack_turn => k_is)
    (case kpTrack_turn => k_is)
    (case arotation => k_is)
    (case lrotation => k_is)
    (case cdrotation => k_is)
    (case kprotation => k_is)
    (case a_law_pen => k_is)
    (case l_law_pen => k_is)
    (case cd_law_pen => k_is)
    (case kp_law_pen => k_is)
    (case a_law_gcd => k_is)
    (case l_law_gcd => k_is)
    (case cd_law_gcd => k_is)
    (case kp_law_gcd => k_is)
    (case a_law_fraction => k_is)
    (case l_law_fraction => k_is)
    (case cd_law_fraction => k_is)
    (case kp_law_fraction => k_is)
    (case a_law_value => k_is)
    (case l_law_value => k_is)
    (case cd_law_value => k_is)
    (case kp_law_value => k_is)
    (case a_law_turn => k_is)
    (case l_law_turn => k_is)
    (case cd_law_turn => k_is)
    (case kp_law_turn => k_is)
    (case a_law_rotation => k_is)
    (case l_law_rotation => k_is)
    (case cd_law_rotation => k_is)
    (case kp_law_rotation => k_is)
    (case a_law_draw => k_is)
    (case l_law_draw => k_is)
    (case cd_law_draw => k_is)
    (case kp_law_draw => k_is)
    (case a_law_close_services => k_is)
    (case l_law_close_services => k_is)
    (case cd_law_close_services => k_is)
    (case kp_law_close_services => k_is)
    (case a_law_pick => k_is)
    (case l_law_pick => k_is)
    (case cd_law_pick => k_is)
    (case kp_law_pick => k_is)
    (case a_law_small_services => k_is)
    (case l_law_small_services => k_is)
    (case cd_law_small_services => k_is)
    (case kp_law_small_services => k_is)
    (case a_law_small => k_is)
    (case l_law_small => k_is)
    (case cd_law_small => k_is)
    (case kp_law_small => k_is)
    (case a_law_great => k_is)
    (case l_law_great => k_is)
    (case cd_law_great => k_is)
    (case kp_law_great => k_is)
    (case a_law_great_map => k_is)
    (case l_law_great_map => k_is)
    (case cd_law_great_map => k_is)
    (case kp_law_great_map => k_is)
    (case a_law_even_map => k_is)
    (case l_law_even_map => k_is)
    (case cd_law_even_map => k_is)
    (case kp_law_even_map => k_is)
    (case a_law_regular_map => k_is)
    (case l_law_regular_map => k_is)
    (case cd_law_regular_map => k_is)
    (case kp_law_regular_map => k_is)
    (case a_law_far_map => k_is)
    (case l_law_far_map => k_is)
    (case cd_law_far_map => k_is)
    (case kp_law_far_map => k_is)
    (case a_law_wide_map => k_is)
    (case l_law_wide_map => k_is)
    (case cd_law_wide_map => k_is)
    (case kp_law_wide_map => k_is)
    (case a_law_orbit_map => k_is)
    (case l_law_orbit_map => k_is)
    (case cd_law_orbit_map => k_is)
    (case kp_law_orbit_map => k_is)
    (case a_law_shuffled => k_is)
    (case l_law_shuffled => k_is)
    (case cd_law_shuffled => k_is)
    (case kp_law_shuffled => k_is)
    (case a_law_moved => k_is)
    (case l_law_moved => k_is)
    (case cd_law_moved => k_is)
    (case kp_law_moved => k_is)
    (case alaw => k_is)
    (case llaw => k_is)
    (case cdlaw => k_is)
    (case kplaw => k_is)
    (case zc_MAX_SERVICES => k_is)
    (case g_MAX_PERIOD => exact DL.loose_int hX (by simp))
    (case g_MAX_SERVICE_TIME => exact DL.loose_int hX (by simp))

