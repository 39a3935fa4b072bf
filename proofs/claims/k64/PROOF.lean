import PyProof.Rows.All
import Wide.All
import OpenK.AllK
import Wide.FinOn
import HandS.ForMost
import HandS.Wide
import HandS.EndBits
import HandS.ForExc
import HandS.NoneIn
import KE.KDictKeyed
import KE.KDictWalk
import HandS.Dict
import HandS.TupLen
import PyProof.Rows.SeqItemCall
import KE.DataEq
import HandS.Deep
import HandS.Style
import HandS.TupAny
import HandS.Defaults
import PyProof.ReprRoads
import PyProof.ReprLen
import HandS.TupMul
import HandS.SortInts
import KE.SortData
import HandS.AnyAll
import HandS.IsInst
import HandS.Iter
import HandS.Zip
import KE.DataFind
import HandS.Conv
import HandS.ExcOwn
import HandS.TryOnly
import PyProof.ExcBaseAll.ZeroDivisionError
import HandS.Flow
import KE.KDictCopyH
import HandS.DictComp
import KE.DataMinMax
import KE.GoesEnum
import HandS.TupLe
import HandS.Sort
import HandS.TupSets
import PyProof.WalksMore
import PyProof.SeqIndex
import PySem.Challenge.RW_crossmarks_k64_best_orders_told
set_option Elab.async false
set_option linter.all false
set_option maxRecDepth 100000
namespace Xm
open PySem PySem.Spec PyProof.Rows L2
abbrev D := PyData
structure Kx where
  K : PySem.W.Frag
  P : Program
  w : World
  mg : Str → Option Value
abbrev kxOf (X : Cx) : Kx := ⟨X.K, X.prog, X.w, X.mg⟩
structure Ex where
  cls : Str
  fs : List (Str × D)
inductive Ob where
  | nkd (ps : List (Option Key × D))
  | exc (x : Ex)
inductive Slot where
  | no
  | dat (d : D)
  | own (xs : List D)
  | pen (xs : List D)
  | dct (kvs : List (D × D))
  | pdc (kvs : List (D × D))
  | obj (o : Ob)
abbrev AS := List Slot
abbrev EF := AS → Option (D × AS)
abbrev BF := AS → Option (Bool × AS)
abbrev LF := AS → Option (List D × AS)
structure Ct where
  H0 : Hp
  F0 : Hp
  pen : Option Addr
  W : WX
theorem same_rd {F G : Hp} {a : Addr} {u : HO} (e : Same F G) (h : Rd F a u) : Rd G a u := by
  rcases h with h | ⟨o, h⟩
  · exact .inl (e _ _ h)
  · exact .inr ⟨o, e _ _ h⟩
theorem sqt_up {K : Kx} {F G : Hp} {a : Addr} {xs : List V} (e : Same F G) (h : SqT K.K F a xs) : SqT K.K G a xs := by
  rcases h with h | h
  · exact .inl (same_rd e h)
  · exact .inr h
theorem sql_up {K : Kx} {F G : Hp} {a : Addr} {xs : List V} (e : Same F G) (h : SqL K.K F a xs) : SqL K.K G a xs := by
  rcases h with h | h
  · exact .inl (same_rd e h)
  · exact .inr h
mutual
def keyOf : D → Option NestedKey
  | .none => some .none
  | .bool b => some (.num (if b = true then 1 else 0))
  | .int i => some (.num i)
  | .str x => some (.text x)
  | .tuple ds => (keysOf ds).map .tup
  | .list _ => none
  | .dict _ => none
def keysOf : List D → Option (List NestedKey)
  | [] => some []
  | d :: ds => (keyOf d).bind fun k => (keysOf ds).map (k :: ·)
end
def keyD : Key → D
  | .inl i => .int i
  | .inr x => .str x
abbrev Row := NestedKey × Addr × V
def dtO (K : Kx) (a : Addr) (rows : List Row) : HO := .ext fun h => (a == sysModules) = false ∧ (rows.map (·.1)).Nodup ∧ ∃ (o : Obj) (es : Array DictEntry) (ep : Nat) (xs : List (NestedKey × Addr × Value)),
  h.get? a = some o ∧ o.ExactDict ∧ o.data = .dict es ep ∧ es.toList = xs.map (entryOfKey (nestedKind K.P K.w)) ∧ Paired (fun (r : Row) (x : NestedKey × Addr × Value) => r.1 = x.1 ∧ r.2.1 = x.2.1 ∧ RelV r.2.2 x.2.2) rows xs
mutual
inductive Dp (K : Kx) (H : Hp) : V → D → Prop
  | non : Dp K H .non .none
  | bl (b : Bool) : Dp K H (.bl b) (.bool b)
  | int (i : Int) : Dp K H (.int i) (.int i)
  | str (x : Str) : Dp K H (.str x) (.str x)
  | lst {a : Addr} {xs : List V} {ds : List D} : SqL K.K H a xs → DpAll K H xs ds → Dp K H (.ref a) (.list ds)
  | tup {a : Addr} {xs : List V} {ds : List D} : SqT K.K H a xs → DpAll K H xs ds → Dp K H (.ref a) (.tuple ds)
  | dtp {a : Addr} {od : Obj} {rows : List Row} {kvs : List (D × D)} {ks vs : List D} {ws : List V} : H a = some (.frz od (dtO K a rows)) → ks = kvs.map (·.1) → vs = kvs.map (·.2) → rows.length ≤ sizeLine → keysOf ks = some (rows.map (·.1)) → (∀ r ∈ rows, r.1.depth ≤ 8) →
      ws = rows.map (fun r => V.ref r.2.1) → DpAll K H ws ks → DpAll K H (rows.map (·.2.2)) vs → Dp K H (.ref a) (.dict kvs)
  | dky {a : Addr} {od : Obj} {ps : List (Key × V)} {kvs : List (D × D)} {vs : List D} : H a = some (.frz od (.dK ps)) → kvs.map (·.1) = ps.map (fun p => keyD p.1) → vs = kvs.map (·.2) → ps.length ≤ sizeLine → DpAll K H (ps.map (·.2)) vs → Dp K H (.ref a) (.dict kvs)
inductive DpAll (K : Kx) (H : Hp) : List V → List D → Prop
  | nil : DpAll K H [] []
  | cons {v : V} {vs : List V} {d : D} {ds : List D} : Dp K H v d → DpAll K H vs ds → DpAll K H (v :: vs) (d :: ds)
end
mutual
theorem Dp_up {K : Kx} {F G : Hp} {d : D} {v : V} (h : Dp K F v d) (e : Same F G) : Dp K G v d := match h with
  | .non => .non
  | .bl b => .bl b
  | .int i => .int i
  | .str x => .str x
  | .lst hs ha => .lst (sql_up e hs) (DpAll_up ha e)
  | .tup hs ha => .tup (sqt_up e hs) (DpAll_up ha e)
  | .dtp ha e1 e2 hl hk hd e3 h1 h2 => .dtp (e _ _ ha) e1 e2 hl hk hd e3 (DpAll_up h1 e) (DpAll_up h2 e)
  | .dky ha e1 e2 hl h2 => .dky (e _ _ ha) e1 e2 hl (DpAll_up h2 e)
theorem DpAll_up {K : Kx} {F G : Hp} {ds : List D} {vs : List V} (h : DpAll K F vs ds) (e : Same F G) : DpAll K G vs ds := match h with
  | .nil => .nil
  | .cons h1 h2 => .cons (Dp_up h1 e) (DpAll_up h2 e)
end
theorem DpAll_len {K : Kx} {F : Hp} : ∀ {vs : List V} {ds : List D}, DpAll K F vs ds → vs.length = ds.length
  | _, _, .nil => rfl
  | _, _, .cons _ h => by simp [DpAll_len h]
theorem DpAll_get {K : Kx} {F : Hp} : ∀ {vs : List V} {ds : List D} {i : Nat} {d : D}, DpAll K F vs ds → ds[i]? = some d → ∃ v, vs[i]? = some v ∧ Dp K F v d
  | _, _, _, _, .nil, e => by simp at e
  | _, _, 0, _, .cons h _, e => by simp at e; subst e; exact ⟨_, rfl, h⟩
  | _, _, i + 1, _, .cons _ h, e => by
    obtain ⟨v, h1, h2⟩ := DpAll_get (i := i) h (by simpa using e)
    exact ⟨v, by simpa using h1, h2⟩
theorem DpAll_app {K : Kx} {F : Hp} : ∀ {vs us : List V} {ds es : List D}, DpAll K F vs ds → DpAll K F us es → DpAll K F (vs ++ us) (ds ++ es)
  | _, _, _, _, .nil, h => h
  | _, _, _, _, .cons h1 h2, h => .cons h1 (DpAll_app h2 h)
theorem DpAll_set {K : Kx} {F : Hp} : ∀ {vs : List V} {ds : List D} {v : V} {d : D} (i : Nat), DpAll K F vs ds → Dp K F v d → DpAll K F (vs.set i v) (ds.set i d)
  | _, _, _, _, _, .nil, _ => .nil
  | _, _, _, _, 0, .cons _ h2, h => .cons h h2
  | _, _, _, _, i + 1, .cons h1 h2, h => .cons h1 (DpAll_set i h2 h)
theorem DpAll_take {K : Kx} {F : Hp} : ∀ {vs : List V} {ds : List D} (n : Nat), DpAll K F vs ds → DpAll K F (vs.take n) (ds.take n)
  | _, _, 0, _ => .nil
  | _, _, _ + 1, .nil => .nil
  | _, _, n + 1, .cons h1 h2 => .cons h1 (DpAll_take n h2)
theorem DpAll_drop {K : Kx} {F : Hp} : ∀ {vs : List V} {ds : List D} (n : Nat), DpAll K F vs ds → DpAll K F (vs.drop n) (ds.drop n)
  | _, _, 0, h => h
  | _, _, _ + 1, .nil => .nil
  | _, _, n + 1, .cons h1 h2 => DpAll_drop n h2
theorem DpAll_erase {K : Kx} {F : Hp} : ∀ {vs : List V} {ds : List D} (n : Nat), DpAll K F vs ds → DpAll K F (vs.eraseIdx n) (ds.eraseIdx n)
  | _, _, _, .nil => .nil
  | _, _, 0, .cons _ h2 => h2
  | _, _, n + 1, .cons h1 h2 => .cons h1 (DpAll_erase n h2)
theorem DpAll_rev {K : Kx} {F : Hp} : ∀ {vs : List V} {ds : List D}, DpAll K F vs ds → DpAll K F vs.reverse ds.reverse
  | _, _, .nil => .nil
  | _, _, .cons h1 h2 => by
    rw [List.reverse_cons, List.reverse_cons]
    exact DpAll_app (DpAll_rev h2) (.cons h1 .nil)
structure Gr (F H F' H' : Hp) : Prop where
  ff : Same F F'
  fh : Same F' H'
  hh : Same H H'
  nw : ∀ a, F' a ≠ none → F a ≠ none ∨ H a = none
theorem Gr.refl {F H : Hp} (e : Same F H) : Gr F H F H := ⟨Same.refl _, e, Same.refl _, fun _ h => .inl h⟩
theorem Gr.trans {F H F1 H1 F2 H2 : Hp} (a : Gr F H F1 H1) (b : Gr F1 H1 F2 H2) : Gr F H F2 H2 :=
  ⟨a.ff.trans b.ff, b.fh, a.hh.trans b.hh, fun x h => (b.nw x h).elim (a.nw x) fun e => .inr (a.hh.free e)⟩
theorem same_upd {H : Hp} {p : Addr} {o : HO} (h : H p = none) : Same H (upd H p o) := fun b x e => by
  rw [upd_ne (ne_of_none e h)]
  exact e
theorem upd_mono {F H : Hp} {p : Addr} {o : HO} (e : Same F H) (h : H p = none) : Same (upd F p o) (upd H p o) := fun b x q => by
  by_cases hb : b = p
  · subst hb
    rw [upd_same] at q ⊢
    exact q
  · rw [upd_ne hb] at q ⊢
    exact e b x q
theorem Gr.new {F H : Hp} {p : Addr} {o : HO} (e : Same F H) (h : H p = none) : Gr F H (upd F p o) (upd H p o) :=
  ⟨same_upd (e.free h), upd_mono e h, same_upd h, fun a q => by
    by_cases ha : a = p
    · subst ha; exact .inr h
    · rw [upd_ne ha] at q; exact .inl q⟩
def Lst (K : Kx) (F H : Hp) (a : Addr) (xs : List D) : Prop := F a = none ∧ ∃ vs, H a = some (.lst vs) ∧ DpAll K F vs xs
def DR (K : Kx) (F : Hp) (a : Addr) (u : HO) (kvs : List (D × D)) : Prop :=
  (∃ rows : List Row, u = dtO K a rows ∧ rows.length ≤ sizeLine ∧ keysOf (kvs.map (·.1)) = some (rows.map (·.1)) ∧ (∀ r ∈ rows, r.1.depth ≤ 8) ∧ DpAll K F (rows.map fun r => V.ref r.2.1) (kvs.map (·.1)) ∧ DpAll K F (rows.map (·.2.2)) (kvs.map (·.2))) ∨
  ∃ ps : List (Key × V), u = .dK ps ∧ kvs.map (·.1) = ps.map (fun p => keyD p.1) ∧ ps.length ≤ sizeLine ∧ DpAll K F (ps.map (·.2)) (kvs.map (·.2))
def Dct (K : Kx) (F H : Hp) (a : Addr) (kvs : List (D × D)) : Prop := F a = none ∧ ∃ u, H a = some u ∧ DR K F a u kvs
theorem DR.up {K : Kx} {F G : Hp} {a : Addr} {u : HO} {kvs : List (D × D)} (h : DR K F a u kvs) (e : Same F G) : DR K G a u kvs := by
  rcases h with ⟨rows, h1, h2, h3, h4, h5, h6⟩ | ⟨ps, h1, h2, h3, h4⟩
  · exact .inl ⟨rows, h1, h2, h3, h4, DpAll_up h5 e, DpAll_up h6 e⟩
  · exact .inr ⟨ps, h1, h2, h3, DpAll_up h4 e⟩
theorem DR.dp {K : Kx} {F G : Hp} {a : Addr} {u : HO} {od : Obj} {kvs : List (D × D)} (h : DR K F a u kvs) (e : Same F G) (ha : G a = some (.frz od u)) : Dp K G (.ref a) (.dict kvs) := by
  rcases h with ⟨rows, rfl, h2, h3, h4, h5, h6⟩ | ⟨ps, rfl, h2, h3, h4⟩
  · exact .dtp ha rfl rfl h2 h3 h4 rfl (DpAll_up h5 e) (DpAll_up h6 e)
  · exact .dky ha h2 rfl h3 (DpAll_up h4 e)
def ExOk (K : Kx) (F : Hp) (x : Ex) (cls : Value) (d : Option Addr) : Prop :=
  K.mg x.cls = some cls ∧ ((x.fs = [] ∧ d = none) ∨ ∃ (dd : Addr) (fs : List (Str × V)), d = some dd ∧ F dd = some (.xd fs) ∧ fs.map (·.1) = x.fs.map (·.1) ∧ DpAll K F (fs.map (·.2)) (x.fs.map (·.2)))
theorem ExOk.up {K : Kx} {F G : Hp} {x : Ex} {cls : Value} {d : Option Addr} (h : ExOk K F x cls d) (e : Same F G) : ExOk K G x cls d := by
  obtain ⟨h1, h2 | ⟨dd, fs, e1, e2, e3, e4⟩⟩ := h
  · exact ⟨h1, .inl h2⟩
  · exact ⟨h1, .inr ⟨dd, fs, e1, e _ _ e2, e3, DpAll_up e4 e⟩⟩
def keptO (cls : Value) (d : Option Addr) (a : Addr) : HO := .ext fun h => ∃ (oe : Obj) (vs : Array Value), h.get? a = some oe ∧ Zc cls d oe ∧ oe.data = .fields vs
def nkO (K : Kx) (a : Addr) (rows : List (Option Key × V)) : HO := .ext fun h => (a == sysModules) = false ∧ ∃ vs : List (Option Key × Value), Paired (fun (r : Option Key × V) (v : Option Key × Value) => r.1 = v.1 ∧ RelV r.2 v.2) rows vs ∧ h.DictOf (noneKind K.P K.w) a vs
def ObOk (K : Kx) (F : Hp) (a : Addr) : Ob → Prop
  | .nkd ps => ∃ (od : Obj) (rows : List (Option Key × V)), F a = some (.frz od (nkO K a rows)) ∧ rows.map (·.1) = ps.map (·.1) ∧ DpAll K F (rows.map (·.2)) (ps.map (·.2))
  | .exc x => ∃ (cls : Value) (d : Option Addr), F a = some (keptO cls d a) ∧ ExOk K F x cls d
theorem ObOk.up {K : Kx} {F G : Hp} {a : Addr} : ∀ {o : Ob}, ObOk K F a o → Same F G → ObOk K G a o
  | .nkd ps, ⟨od, rows, h1, h2, h3⟩, e => ⟨od, rows, e _ _ h1, h2, DpAll_up h3 e⟩
  | .exc x, ⟨cls, d, h1, h2⟩, e => ⟨cls, d, e _ _ h1, h2.up e⟩
def SlotOk (K : Kx) (C : Ct) (F H : Hp) : Slot → Option (Option V) → Prop
  | .no, _ => True
  | .dat d, x => ∃ v, x = some (some v) ∧ Dp K F v d
  | .own xs, x => ∃ a, x = some (some (.ref a)) ∧ C.H0 a = none ∧ Lst K F H a xs
  | .pen xs, x => ∃ a, x = some (some (.ref a)) ∧ C.pen = some a ∧ Lst K F H a xs
  | .dct kvs, x => ∃ a, x = some (some (.ref a)) ∧ C.H0 a = none ∧ Dct K F H a kvs
  | .pdc kvs, x => ∃ a, x = some (some (.ref a)) ∧ C.pen = some a ∧ Dct K F H a kvs
  | .obj o, x => ∃ a, x = some (some (.ref a)) ∧ ObOk K F a o
def Slot.mu : Slot → Bool
  | .no => false
  | .dat _ => false
  | .own _ => true
  | .pen _ => true
  | .dct _ => true
  | .pdc _ => true
  | .obj _ => false
def Mu (st : AS) (i : Nat) : Prop := ∃ s : Slot, st[i]? = some s ∧ s.mu = true
structure Rel (K : Kx) (C : Ct) (F : Hp) (st : AS) (σ : L2.St) (H : Hp) : Prop where
  len : st.length = σ.length
  f0 : Same C.F0 F
  fh : Same F H
  old : ∀ a o, C.H0 a = some o → C.pen ≠ some a → H a = some o
  new : ∀ a, C.F0 a = none → C.H0 a ≠ none → F a = none
  slot : ∀ (i : Nat) (s : Slot), st[i]? = some s → SlotOk K C F H s σ[i]?
  apart : ∀ (i j : Nat) (a : Addr), Mu st i → Mu st j → σ[i]? = some (some (.ref a)) → σ[j]? = some (some (.ref a)) → i = j
  penh : ∀ p, C.pen = some p → C.H0 p ≠ none
  pent : ∀ p, C.pen = some p → H p ≠ none
section
variable {K : Kx} {C : Ct} {F F' H H' : Hp} {st : AS} {σ : L2.St}
theorem Lst.grow {a : Addr} {xs : List D} (h : Lst K F H a xs) (g : Gr F H F' H') : Lst K F' H' a xs := by
  obtain ⟨h1, vs, h2, h3⟩ := h
  refine ⟨?_, vs, g.hh _ _ h2, DpAll_up h3 g.ff⟩
  cases e : F' a with
  | none => rfl
  | some o =>
    rcases g.nw a (by rw [e]; simp) with z | z
    · exact absurd h1 z
    · rw [h2] at z; cases z
theorem Dct.grow {a : Addr} {kvs : List (D × D)} (h : Dct K F H a kvs) (g : Gr F H F' H') : Dct K F' H' a kvs := by
  obtain ⟨h1, u, h2, h3⟩ := h
  refine ⟨?_, u, g.hh _ _ h2, h3.up g.ff⟩
  cases e : F' a with
  | none => rfl
  | some o =>
    rcases g.nw a (by rw [e]; simp) with z | z
    · exact absurd h1 z
    · rw [h2] at z; cases z
theorem Rel.grow (R : Rel K C F st σ H) (g : Gr F H F' H') : Rel K C F' st σ H' where
  len := R.len
  f0 := R.f0.trans g.ff
  fh := g.fh
  old := fun a o h hp => g.hh _ _ (R.old a o h hp)
  new := fun a h0 h1 => by
    have hF := R.new a h0 h1
    cases e : F' a with
    | none => rfl
    | some o =>
      rcases g.nw a (by rw [e]; simp) with z | z
      · exact absurd hF z
      · by_cases hp : C.pen = some a
        · exfalso
          exact R.pent a hp z
        · cases q : C.H0 a with
          | none => exact absurd q h1
          | some u => rw [R.old a u q hp] at z; cases z
  slot := fun i s h => by
    have q := R.slot i s h
    cases s with
    | no => trivial
    | dat d =>
      obtain ⟨v, h1, h2⟩ := q
      exact ⟨v, h1, Dp_up h2 g.ff⟩
    | own xs =>
      obtain ⟨a, h1, h2, h3⟩ := q
      exact ⟨a, h1, h2, h3.grow g⟩
    | pen xs =>
      obtain ⟨a, h1, h2, h3⟩ := q
      exact ⟨a, h1, h2, h3.grow g⟩
    | dct kvs =>
      obtain ⟨a, h1, h2, h3⟩ := q
      exact ⟨a, h1, h2, h3.grow g⟩
    | pdc kvs =>
      obtain ⟨a, h1, h2, h3⟩ := q
      exact ⟨a, h1, h2, h3.grow g⟩
    | obj o =>
      obtain ⟨a, h1, h2⟩ := q
      exact ⟨a, h1, h2.up g.ff⟩
  apart := R.apart
  penh := R.penh
  pent := fun p hp => by
    cases e : H p with
    | none => exact absurd e (R.pent p hp)
    | some o => rw [g.hh _ _ e]; simp
end
end Xm
set_option Elab.async false
set_option linter.all false
set_option maxRecDepth 100000
set_option maxHeartbeats 2000000
namespace Xm
open PySem PySem.Spec PyProof.Rows L2
section
variable {X : Cx} {pins : List (Addr × Obj)} {σ : L2.St} {H : Hp} {s : Shared}
mutual
theorem Dp.nested (I : Inv X pins σ H s) : ∀ (d : D) (v : V) (u : Value) (k : NestedKey), keyOf d = some k → Dp (kxOf X) H v d → RelV v u → NestedIs s.heap k u
  | .none, _, _, _, e, h, r => by
    cases h
    cases r
    cases e
    exact .none
  | .bool b, _, _, _, e, h, r => by
    cases h
    cases r
    cases e
    exact .bool rfl
  | .int i, _, _, _, e, h, r => by
    cases h
    obtain ⟨t, rfl⟩ := r
    cases e
    exact .int i t
  | .str x, _, _, _, e, h, r => by
    cases h
    obtain ⟨t, rfl⟩ := r
    cases e
    exact .text x t
  | .tuple ds, _, _, k, e, h, r => by
    cases h with
    | tup hs ha =>
      cases r
      obtain ⟨its, rv, ⟨o, ho, hc, n, hd⟩, _⟩ := I.tuple hs
      obtain ⟨ks, ek, rfl⟩ := Option.map_eq_some_iff.mp e
      exact .tup ho hc hd (by simpa using Dp.nestedAll I ds _ its ks ek ha rv)
  | .list _, _, _, _, e, _, _ => by cases e
  | .dict _, _, _, _, e, _, _ => by cases e
theorem Dp.nestedAll (I : Inv X pins σ H s) : ∀ (ds : List D) (vs : List V) (us : List Value) (ks : List NestedKey), keysOf ds = some ks → DpAll (kxOf X) H vs ds → Vals vs us → NestedAll s.heap ks us
  | [], _, _, _, e, h, r => by
    cases h
    cases r
    cases e
    exact .nil
  | d :: ds, _, _, ks, e, h, r => by
    cases h with
    | cons h1 h2 =>
      cases r with
      | cons r1 r2 =>
        simp only [keysOf] at e
        obtain ⟨k, e1, e⟩ := Option.bind_eq_some_iff.mp e
        obtain ⟨ks', e2, rfl⟩ := Option.map_eq_some_iff.mp e
        exact .cons (Dp.nested I d _ _ k e1 h1 r1) (Dp.nestedAll I ds _ _ ks' e2 h2 r2)
end
end
def atomK : D → Bool
  | .int _ => true
  | .str _ => true
  | _ => false
def tupK : D → Bool
  | .tuple ds => match keysOf ds with
    | some ks => decide ((NestedKey.tup ks).depth ≤ 8)
    | none => false
  | _ => false
def keyN : Key → NestedKey
  | .inl i => .num i
  | .inr x => .text x
theorem keyOf_keyD (k : Key) : keyOf (keyD k) = some (keyN k) := by cases k <;> rfl
theorem keyN_inj {a b : Key} (h : keyN a = keyN b) : a = b := by
  cases a <;> cases b <;> simp [keyN] at h <;> rw [h]
theorem atomK_key {d : D} (h : atomK d = true) : ∃ k, d = keyD k := by
  cases d with
  | int i => exact ⟨.inl i, rfl⟩
  | str x => exact ⟨.inr x, rfl⟩
  | _ => cases h
theorem tupK_key {d : D} (h : tupK d = true) : ∃ ds k, d = .tuple ds ∧ keyOf d = some k ∧ k.depth ≤ 8 := by
  cases d with
  | tuple ds =>
    have h : (match keysOf ds with | some ks => decide ((NestedKey.tup ks).depth ≤ 8) | none => false) = true := h
    cases e : keysOf ds with
    | none => rw [e] at h; cases h
    | some ks =>
      rw [e] at h
      exact ⟨ds, .tup ks, rfl, by simp [keyOf, e], of_decide_eq_true h⟩
  | _ => cases h
theorem tup_not_atom {d : D} (h : tupK d = true) : atomK d = false := by
  cases d <;> first | rfl | cases h
def dFind (kvs : List (D × D)) (k : D) : Option D := (kvs.find? fun p => decide (keyOf p.1 = keyOf k)).map (·.2)
def dGet (kvs : List (D × D)) (k : D) : Option (Option D) := if (atomK k && kvs.all fun p => atomK p.1) || (tupK k && kvs.all fun p => tupK p.1) then some (dFind kvs k) else none
def OptR (K : Kx) (F : Hp) : Option D → Option Value → Prop
  | some d, some w => ∃ v, RelV v w ∧ Dp K F v d
  | none, none => True
  | _, _ => False
def PairR {κ : Type} (K : Kx) (F : Hp) (kf : κ → NestedKey) (p : D × D) (q : κ × Value) : Prop := keyOf p.1 = some (kf q.1) ∧ ∃ v, RelV v q.2 ∧ Dp K F v p.2
theorem find_rel {κ : Type} [DecidableEq κ] {K : Kx} {F : Hp} {kf : κ → NestedKey} (inj : ∀ a b, kf a = kf b → a = b) {kvs : List (D × D)} {vs : List (κ × Value)} {kd : D} {k : κ} (r : Paired (PairR K F kf) kvs vs) (ek : keyOf kd = some (kf k)) : OptR K F (dFind kvs kd) (valueAt vs k) := by
  unfold dFind valueAt
  induction r with
  | nil => exact True.intro
  | @cons p q ps qs h t ih =>
    by_cases e : q.1 = k
    · have e2 : decide (keyOf p.1 = keyOf kd) = true := decide_eq_true (by rw [h.1, ek, e])
      rw [List.find?_cons_of_pos (p := fun p : D × D => decide (keyOf p.1 = keyOf kd)) e2, List.find?_cons_of_pos (p := fun kv : κ × Value => decide (kv.1 = k)) (decide_eq_true e)]
      exact h.2
    · have e2 : ¬ decide (keyOf p.1 = keyOf kd) = true := fun z => e (inj _ _ (Option.some.inj (by rw [← h.1, ← ek]; exact of_decide_eq_true z)))
      rw [List.find?_cons_of_neg (p := fun p : D × D => decide (keyOf p.1 = keyOf kd)) e2, List.find?_cons_of_neg (p := fun kv : κ × Value => decide (kv.1 = k)) (by simpa using e)]
      exact ih
structure MixAt (K : Kx) (F : Hp) (h : Heap) (a : Addr) (kvs : List (D × D)) (vs : List (Key × Value)) : Prop where
  sm : (a == sysModules) = false
  len : vs.length ≤ sizeLine
  at_ : h.DictOf (mixKind K.P K.w) a vs
  rel : Paired (PairR K F keyN) kvs vs
structure NestAt (K : Kx) (F : Hp) (h : Heap) (a : Addr) (kvs : List (D × D)) (vs : List (NestedKey × Value)) : Prop where
  sm : (a == sysModules) = false
  len : vs.length ≤ sizeLine
  at_ : h.DictKeyed (nestedKind K.P K.w) a vs
  rel : Paired (PairR K F id) kvs vs
section
variable {X : Cx} {pins : List (Addr × Obj)} {σ : L2.St} {H F : Hp} {s : Shared} {a : Addr} {u : HO} {kvs : List (D × D)}
theorem mix_empty {h : Heap} {P : Program} {w : World} {o : Obj} {es : Array DictEntry} {ep : Nat} (ho : h.get? a = some o) (hx : o.ExactDict) (hd : o.data = .dict es ep) (he : es.toList = []) : h.DictOf (mixKind P w) a [] := by
  have : es = #[] := by cases es; simpa using he
  subst this
  exact ⟨o, #[], ep, ho, hx, hd, fun j hj => by simp at hj, by rw [show (#[] : Array DictEntry).toList = [] from rfl]; exact .nil, List.nodup_nil⟩
theorem pair_keys {ps : List (Key × V)} {vs : List (Key × Value)} {kvs : List (D × D)} (r : KV ps vs) (e : kvs.map (·.1) = ps.map (fun p => keyD p.1)) (h : DpAll (kxOf X) F (ps.map (·.2)) (kvs.map (·.2))) : Paired (PairR (kxOf X) F keyN) kvs vs := by
  induction r generalizing kvs with
  | nil =>
    cases kvs with
    | nil => exact .nil
    | cons p q => cases e
  | @cons p q ps qs hq t ih =>
    cases kvs with
    | nil => cases e
    | cons k ks =>
      simp only [List.map_cons] at e h
      obtain ⟨e1, e2⟩ := List.cons.inj e
      cases h with
      | cons h1 h2 => exact .cons ⟨by rw [e1, keyOf_keyD, hq.1], p.2, hq.2, h1⟩ (ih e2 h2)
theorem rows_pair {rows : List Row} {xs : List (NestedKey × Addr × Value)} {kvs : List (D × D)} (r : Paired (fun (r : Row) (x : NestedKey × Addr × Value) => r.1 = x.1 ∧ r.2.1 = x.2.1 ∧ RelV r.2.2 x.2.2) rows xs) (ek : keysOf (kvs.map (·.1)) = some (rows.map (·.1)))
    (h : DpAll (kxOf X) F (rows.map (·.2.2)) (kvs.map (·.2))) : Paired (PairR (kxOf X) F id) kvs (pairsH xs) := by
  induction r generalizing kvs with
  | nil =>
    cases kvs with
    | nil => exact .nil
    | cons p q => cases h
  | @cons p q ps qs hq t ih =>
    cases kvs with
    | nil => cases h
    | cons k ks =>
      simp only [List.map_cons, keysOf] at ek h
      obtain ⟨k0, e1, e⟩ := Option.bind_eq_some_iff.mp ek
      obtain ⟨ks', e2, e3⟩ := Option.map_eq_some_iff.mp e
      obtain ⟨e4, e5⟩ := List.cons.inj e3
      cases h with
      | cons h1 h2 => exact .cons ⟨by rw [e1, e4, hq.1]; rfl, p.2.2, hq.2.2, h1⟩ (ih (by rw [e2, e5]) h2)
theorem rd_ok (I : Inv X pins σ H s) (hu : Rd H a u) : ObjOk X.prog X.w H s.heap a u := by
  rcases hu with hu | ⟨o, hu⟩
  · exact I.hok a _ hu
  · exact (show ObjOk X.prog X.w H s.heap a (.frz o u) from I.hok a _ hu).2
theorem dr_mix (I : Inv X pins σ H s) (hu : Rd H a u) (dr : DR (kxOf X) F a u kvs) (c : (kvs.all fun p => atomK p.1) = true) : ∃ vs, MixAt (kxOf X) F s.heap a kvs vs := by
  rcases dr with ⟨rows, rfl, h2, h3, h4, h5, h6⟩ | ⟨ps, rfl, h2, h3, h4⟩
  · obtain ⟨⟨sm, nd, o, es, ep, xs, ho, hx, hd, he, pr⟩, _⟩ := rd_ok I hu
    cases kvs with
    | nil =>
      have : rows = [] := by
        cases rows with
        | nil => rfl
        | cons r rs => cases h6
      subst this
      cases pr
      exact ⟨[], sm, Nat.zero_le _, mix_empty ho hx hd he, .nil⟩
    | cons p ps =>
      exfalso
      obtain ⟨k, ek⟩ := atomK_key (by simpa using (List.all_eq_true.mp c) p (.head _))
      cases rows with
      | nil => cases h6
      | cons r rs =>
        simp only [List.map_cons] at h5
        cases h5 with
        | cons h7 h8 =>
          rw [ek] at h7
          cases k <;> cases h7
  · obtain ⟨z, hd, vs, rel, dd⟩ := dk_rd I.hok hu
    exact ⟨vs, hd, by rw [← rel.length]; exact z, dd, pair_keys rel h2 h4⟩
theorem vals_all {rows : List Row} {xs : List (NestedKey × Addr × Value)} {ks : List D} (I : Inv X pins σ H s) (fh : Same F H) (r : Paired (fun (r : Row) (x : NestedKey × Addr × Value) => r.1 = x.1 ∧ r.2.1 = x.2.1 ∧ RelV r.2.2 x.2.2) rows xs) (ek : keysOf ks = some (rows.map (·.1))) (hd : ∀ r ∈ rows, r.1.depth ≤ 8)
    (h : DpAll (kxOf X) F (rows.map fun r => V.ref r.2.1) ks) : ∀ x ∈ xs, (nestedKind X.prog X.w).is s.heap x.1 x.2.1 := by
  induction r generalizing ks with
  | nil => exact fun x hx => nomatch hx
  | @cons p q ps qs hq t ih =>
    cases ks with
    | nil => cases h
    | cons k ks =>
      simp only [List.map_cons, keysOf] at ek h
      obtain ⟨k0, e1, e⟩ := Option.bind_eq_some_iff.mp ek
      obtain ⟨ks', e2, e3⟩ := Option.map_eq_some_iff.mp e
      obtain ⟨e4, e5⟩ := List.cons.inj e3
      cases h with
      | cons h1 h2 =>
        intro x hx
        rcases List.mem_cons.mp hx with z | hx
        · subst z
          refine ⟨?_, by rw [← hq.1]; exact hd p (.head _)⟩
          rw [← hq.1, ← hq.2.1, ← e4]
          exact Dp.nested I k _ _ k0 e1 (Dp_up h1 fh) rfl
        · exact ih (by rw [e2, e5]) (fun r hr => hd r (.tail _ hr)) h2 x hx
theorem rows_keys {rows : List Row} {xs : List (NestedKey × Addr × Value)} (pr : Paired (fun (r : Row) (x : NestedKey × Addr × Value) => r.1 = x.1 ∧ r.2.1 = x.2.1 ∧ RelV r.2.2 x.2.2) rows xs) : rows.map (·.1) = xs.map (·.1) := by
  induction pr with
  | nil => rfl
  | cons h t ih => simp only [List.map_cons, h.1, ih]
theorem dr_nest (I : Inv X pins σ H s) (fh : Same F H) (hu : Rd H a u) (dr : DR (kxOf X) F a u kvs) (c : (kvs.all fun p => tupK p.1) = true) : ∃ vs, NestAt (kxOf X) F s.heap a kvs vs := by
  rcases dr with ⟨rows, rfl, h2, h3, h4, h5, h6⟩ | ⟨ps, rfl, h2, h3, h4⟩
  · obtain ⟨⟨sm, nd, o, es, ep, xs, ho, hx, hd, he, pr⟩, _⟩ := rd_ok I hu
    have hn : (xs.map (·.1)).Nodup := by rw [← rows_keys pr]; exact nd
    exact ⟨pairsH xs, sm, by rw [pairsH_length, ← pr.length]; exact h2, ⟨xs, ⟨o, es, ep, ho, hx, hd, he, vals_all I fh pr h3 h4 h5, hn⟩, rfl⟩, rows_pair pr h3 h6⟩
  · obtain ⟨z, sm, vs, rel, dd⟩ := dk_rd I.hok hu
    cases kvs with
    | nil =>
      have : ps = [] := by
        cases ps with
        | nil => rfl
        | cons r rs => cases h2
      subst this
      cases rel
      obtain ⟨o, es, ep, ho, hx, hd, _, pr, _⟩ := dd
      have he : es.toList = [] := by
        have := pr.length
        simpa using this
      exact ⟨[], sm, Nat.zero_le _, ⟨[], ⟨o, es, ep, ho, hx, hd, by simpa using he, (fun x hx => nomatch hx), List.nodup_nil⟩, rfl⟩, .nil⟩
    | cons p q =>
      exfalso
      have := tup_not_atom (by simpa using (List.all_eq_true.mp c) p (.head _))
      cases ps with
      | nil => cases h2
      | cons r rs =>
        simp only [List.map_cons] at h2
        rw [(List.cons.inj h2).1] at this
        cases hk : r.1 <;> rw [hk] at this <;> cases this
end
theorem dGet_cases {kvs : List (D × D)} {k : D} {o : Option D} (e : dGet kvs k = some o) : o = dFind kvs k ∧ ((atomK k = true ∧ (kvs.all fun p => atomK p.1) = true) ∨ (tupK k = true ∧ (kvs.all fun p => tupK p.1) = true)) := by
  unfold dGet at e
  split at e
  · rename_i h
    cases e
    simp only [Bool.or_eq_true, Bool.and_eq_true] at h
    exact ⟨rfl, h⟩
  · cases e
theorem OptR.isSome {K : Kx} {F : Hp} {o : Option D} {x : Option Value} (h : OptR K F o x) : o.isSome = x.isSome := by
  cases o <;> cases x <;> first | rfl | exact h.elim
theorem room_nested {P : Program} {w : World} {A : Around} (h : A.units + 65 < cLine) : (nestedKind P w).room A.in1 := by
  show A.in1.units + 8 < cLine
  have : A.in1.units = A.units + 1 := rfl
  omega
section
variable {X : Cx} {pins : List (Addr × Obj)} {σ : L2.St} {H F : Hp} {s : Shared} {a : Addr} {u : HO} {kvs : List (D × D)} {A : Around} {E Q : Value → Shared → Prop} {k : D} {yv : V} {y : Value} {o : Option D}
theorem key_mix {d : D} {v : V} {y : Value} {F : Hp} {K : Kx} (h : atomK d = true) (hd : Dp K F v d) (r : RelV v y) : ∃ q : Key, d = keyD q ∧ RelV (kV q) y := by
  obtain ⟨q, rfl⟩ := atomK_key h
  cases q <;> (cases hd; exact ⟨_, rfl, r⟩)
theorem key_nest (I : Inv X pins σ H s) (fh : Same F H) (h : tupK k = true) (hd : Dp (kxOf X) F yv k) (r : RelV yv y) : ∃ (b : Addr) (q : NestedKey), y = .ref b ∧ keyOf k = some q ∧ (nestedKind X.prog X.w).is s.heap q b := by
  obtain ⟨ds, q, rfl, e, hl⟩ := tupK_key h
  have hd2 := Dp_up hd fh
  have n := Dp.nested I _ _ _ q e hd2 r
  cases hd with
  | tup hs ha =>
    cases r
    exact ⟨_, q, rfl, e, n, hl⟩
theorem d_item {d : D} (I : Inv X pins σ H s) (fh : Same F H) (ha : Rd H a u) (dr : DR (kxOf X) F a u kvs) (hk : Dp (kxOf X) F yv k) (ry : RelV yv y) (e : dGet kvs k = some (some d)) :
    ∃ v w, RelV v w ∧ Dp (kxOf X) F v d ∧ ∀ {A : Around} {E Q : Value → Shared → Prop}, A.units + 65 < cLine → (∀ s', Inv X pins σ H s' → Q w s') → wpAny (model X.prog X.w) A (getItem (.ref a) y) Q E s := by
  obtain ⟨eo, ⟨h1, h2⟩ | ⟨h1, h2⟩⟩ := dGet_cases e
  · obtain ⟨vs, m⟩ := dr_mix I ha dr h2
    obtain ⟨q, rfl, rq⟩ := key_mix h1 hk ry
    have fr := find_rel (fun _ _ => keyN_inj) m.rel (keyOf_keyD q)
    rw [← eo] at fr
    cases ew : valueAt vs q with
    | none => rw [ew] at fr; exact fr.elim
    | some w =>
      rw [ew] at fr
      obtain ⟨v, rv, dv⟩ := fr
      exact ⟨v, w, rv, dv, fun hu h => wpAny_getItem_of (kV_is rq) m.at_.mapOf ew (h _ (I.tok _))⟩
  · obtain ⟨vs, m⟩ := dr_nest I fh ha dr h2
    obtain ⟨b, q, rfl, eq, hq⟩ := key_nest I fh h1 hk ry
    have fr := find_rel (kf := id) (fun _ _ z => z) m.rel eq
    rw [← eo] at fr
    cases ew : valueAt vs q with
    | none => rw [ew] at fr; exact fr.elim
    | some w =>
      rw [ew] at fr
      obtain ⟨v, rv, dv⟩ := fr
      exact ⟨v, w, rv, dv, fun hu h => getItem_keyed (room_nested hu) hq m.at_ ew (h _ (I.tok _))⟩
theorem dr_obj (I : Inv X pins σ H s) (ha : Rd H a u) (dr : DR (kxOf X) F a u kvs) : s.TypeIs (.ref a) "dict" ∧ (∃ ob, s.heap.get? a = some ob ∧ ob.dict = none) ∧ (a == sysModules) = false := by
  rcases dr with ⟨rows, rfl, h2, h3, h4, h5, h6⟩ | ⟨ps, rfl, h2, h3, h4⟩
  · obtain ⟨⟨sm, nd, o, es, ep, xs, ho, hx, hd, he, pr⟩, _⟩ := rd_ok I ha
    exact ⟨⟨o, ho, hx.1⟩, ⟨o, ho, hx.2.1⟩, sm⟩
  · obtain ⟨z, hd, vs, rel, dd⟩ := dk_rd I.hok ha
    refine ⟨dd.typeIs, ?_, hd⟩
    obtain ⟨ob, _, _, h1, h2, _⟩ := dd
    exact ⟨ob, h1, h2.2.1⟩
theorem d_len {Q : Value → Shared → Prop} (I : Inv X pins σ H s) (fh : Same F H) (ha : Rd H a u) (dr : DR (kxOf X) F a u kvs) (h : ∀ t s', Inv X pins σ H s' → Q (.int kvs.length t) s') : wpAny (model X.prog X.w) A (call (.builtin "len") [.ref a]) Q E s := by
  rcases dr with ⟨rows, rfl, h2, h3, h4, h5, h6⟩ | ⟨ps, rfl, h2, h3, h4⟩
  · obtain ⟨⟨sm, nd, o, es, ep, xs, ho, hx, hd, he, pr⟩, _⟩ := rd_ok I ha
    have hn : (xs.map (·.1)).Nodup := by rw [← rows_keys pr]; exact nd
    have hl : kvs.length = xs.length := by
      rw [← pr.length]
      have := DpAll_len h6
      simpa using this.symm
    refine call_len_dictH (knd := nestedKind X.prog X.w) sm ⟨o, es, ep, ho, hx, hd, he, vals_all I fh pr h3 h4 h5, hn⟩ (by rw [← pr.length]; rw [sizeLine_eq] at h2; omega) ?_
    rw [← hl]
    exact h _ _ (I.tok _)
  · have hl : kvs.length = ps.length := by
      have := congrArg List.length h2
      simpa using this
    rw [hl] at h
    exact L2.d_len I ha h
theorem OptR.getD {K : Kx} {F : Hp} {o : Option D} {x : Option Value} {d : D} {v : V} {w : Value} (h : OptR K F o x) (r : RelV v w) (hd : Dp K F v d) : ∃ v', RelV v' (x.getD w) ∧ Dp K F v' (o.getD d) := by
  cases o <;> cases x
  · exact ⟨v, r, hd⟩
  · exact h.elim
  · exact h.elim
  · exact h
theorem d_get2 {d : D} {xv : V} {x : Value} (hu : A.units + 65 < cLine) (I : Inv X pins σ H s) (fh : Same F H) (ha : Rd H a u) (dr : DR (kxOf X) F a u kvs) (hk : Dp (kxOf X) F yv k) (ry : RelV yv y) (hx : Dp (kxOf X) F xv d) (rx : RelV xv x) (e : dGet kvs k = some o)
    (h : ∀ v w s', Inv X pins σ H s' → RelV v w → Dp (kxOf X) F v (o.getD d) → Q w s') : wpAny (model X.prog X.w) A (call (.builtin "dict.get") [.ref a, y, x]) Q E s := by
  obtain ⟨eo, ⟨h1, h2⟩ | ⟨h1, h2⟩⟩ := dGet_cases e
  · obtain ⟨vs, m⟩ := dr_mix I ha dr h2
    obtain ⟨q, rfl, rq⟩ := key_mix h1 hk ry
    have fr := find_rel (fun _ _ => keyN_inj) m.rel (keyOf_keyD q)
    rw [← eo] at fr
    obtain ⟨v, rv, dv⟩ := fr.getD rx hx
    exact call_meetsIn PySem.F.slot_dict_get m.at_.typeIs PySem.F.entry_dict_get (PySem.F.args_dict_get_3 _ _ _) (meets_dict_get_default (mixKind X.prog X.w) a (kV_is rq) m.sm x) ⟨_, m.at_.mapOf, h v _ _ (I.tok _) rv dv⟩
  · obtain ⟨vs, m⟩ := dr_nest I fh ha dr h2
    obtain ⟨b, q, rfl, eq, hq⟩ := key_nest I fh h1 hk ry
    have fr := find_rel (kf := id) (fun _ _ z => z) m.rel eq
    rw [← eo] at fr
    obtain ⟨v, rv, dv⟩ := fr.getD rx hx
    exact getOr_keyed (room_nested hu) hq m.sm m.at_ (h v _ _ (I.tok _) rv dv)
end
theorem dp_dr {K : Kx} {F : Hp} {a : Addr} {kvs : List (D × D)} (h : Dp K F (.ref a) (.dict kvs)) : ∃ od u, F a = some (.frz od u) ∧ DR K F a u kvs := by
  cases h with
  | dtp ha e1 e2 hl hk hd e3 h1 h2 =>
    subst e1 e2 e3
    exact ⟨_, _, ha, .inl ⟨_, rfl, hl, hk, hd, h1, h2⟩⟩
  | dky ha e1 e2 hl h2 =>
    subst e2
    exact ⟨_, _, ha, .inr ⟨_, rfl, e1, hl, h2⟩⟩
theorem dp_dict {K : Kx} {F : Hp} {v : V} {kvs : List (D × D)} (h : Dp K F v (.dict kvs)) : ∃ a, v = .ref a := by
  cases h <;> exact ⟨_, rfl⟩
def RDict (K : Kx) (F H : Hp) (x : V) (kvs : List (D × D)) : Prop := ∃ a u, x = .ref a ∧ Rd H a u ∧ DR K F a u kvs ∧ Same F H
theorem rdict_of {K : Kx} {F H : Hp} {v : V} {kvs : List (D × D)} (h : Dp K F v (.dict kvs)) (fh : Same F H) : RDict K F H v kvs := by
  obtain ⟨a, rfl⟩ := dp_dict h
  obtain ⟨od, u, hu, dr⟩ := dp_dr h
  exact ⟨a, u, rfl, .inr ⟨od, fh _ _ hu⟩, dr, fh⟩
def rIxD (K : Kx) : R2 := fun x y H Q => ∃ F kvs k d, RDict K F H x kvs ∧ Dp K F y k ∧ dGet kvs k = some (some d) ∧ ∀ v, Dp K F v d → Q v H
section
variable {X : Cx}
theorem ix_dict (hu : X.A.units + 65 < cLine) : IxR X (rIxD (kxOf X)) := by
  intro value slice pins s σ H x y v u Q I rx ry h hs
  obtain ⟨F, kvs, k, d, ⟨a, o, rfl, ha, dr, fh⟩, hk, e, q⟩ := h
  cases rx
  obtain ⟨v, w, rv, dv, go⟩ := d_item I fh ha dr hk ry e
  exact subscriptTail_builtinR (x := w) (dr_obj I ha dr).1 PySem.F.slot_dict_getitem.lookup (go hu fun s' I' => ⟨rfl, v, H, I', rv, q v dv⟩) hs
theorem call_lenD : CallR X (.builtin "len") (fun xs H Q => ∃ x F kvs, xs = [x] ∧ RDict (kxOf X) F H x kvs ∧ Q (.int kvs.length) H) := by
  intro pins s σ H xs us Q I r h
  obtain ⟨x, F, kvs, rfl, ⟨a, ob, rfl, ha, dr, fh⟩, q⟩ := h
  obtain ⟨u, rfl, rx⟩ := vals1 r
  cases rx
  exact Xm.d_len I fh ha dr fun t s' I' => ⟨.int kvs.length, H, I', ⟨t, rfl⟩, q⟩
end
end Xm
set_option Elab.async false
set_option linter.all false
set_option maxRecDepth 100000
namespace Xm
open PySem PySem.Spec PyProof.Rows L2
section
variable (K : Kx) (C : Ct)
def dOf (f : EF) : TE := fun σ H Q => ∃ F st r, Rel K C F st σ H ∧ f st = some r ∧ ∀ v H' F', Same F F' → Rel K C F' r.2 σ H' → Dp K F' v r.1 → Q v H'
def nOf (f : LF) : TE := fun σ H Q => ∃ F st r, Rel K C F st σ H ∧ f st = some r ∧ ∀ (a : Addr) (vs : List V) H' F', Same F F' → Rel K C F' r.2 σ H' → C.H0 a = none → F' a = none → H' a = some (.lst vs) →
  (∀ j, Mu r.2 j → σ[j]? ≠ some (some (.ref a))) → DpAll K F' vs r.1 → Q (.ref a) H'
def bOf (f : BF) : TT := fun σ H Q => ∃ F st r, Rel K C F st σ H ∧ f st = some r ∧ ∀ H' F', Same F F' → Rel K C F' r.2 σ H' → Q r.1 H'
def aOf (f : LF) : TA := fun σ H Q => ∃ F st r, Rel K C F st σ H ∧ f st = some r ∧ ∀ vs H' F', Same F F' → Rel K C F' r.2 σ H' → DpAll K F' vs r.1 → Q vs H'
end
section
variable {X : Cx} {e : Expr} {es : List Expr}
theorem pe_wk {t t' : TE} (h : PE X e t) (w : ∀ σ H Q, t' σ H Q → t σ H Q) : PE X e t' := ⟨fun pins s σ H Q I q => h.run pins s σ H Q I (w σ H Q q)⟩
theorem pt_wk {t t' : TT} (h : PT X e t) (w : ∀ σ H Q, t' σ H Q → t σ H Q) : PT X e t' := ⟨fun pins s σ H Q I q => h.run pins s σ H Q I (w σ H Q q)⟩
theorem pw_wk {t t' : TT} (h : PW X e t) (w : ∀ σ H Q, t' σ H Q → t σ H Q) : PW X e t' := ⟨fun wh pins s σ H Q I q => h.run wh pins s σ H Q I (w σ H Q q)⟩
theorem pa_wk {t t' : TA} (h : PA X es t) (w : ∀ σ H Q, t' σ H Q → t σ H Q) : PA X es t' := ⟨fun pos pins s σ H Q I q => h.run pos pins s σ H Q I (w σ H Q q)⟩
theorem ps_wk {st : Stmt} {t t' : TS} (h : PS X st t) (w : ∀ D σ H, t' D σ H → t D σ H) : PS X st t' := ⟨fun pins s σ H D I q => h.run pins s σ H D I (w D σ H q)⟩
theorem pss_wk {st : List Stmt} {t t' : TS} (h : PSs X st t) (w : ∀ D σ H, t' D σ H → t D σ H) : PSs X st t' := ⟨fun pins s σ H D I q => h.run pins s σ H D I (w D σ H q)⟩
theorem pg_wk {t t' : TG} (h : PG X e t) (w : ∀ v σ H Q, t' v σ H Q → t v σ H Q) : PG X e t' := ⟨fun pins s σ H v u Q I r q => h.run pins s σ H v u Q I r (w v σ H Q q)⟩
theorem pi_wk {tg : Expr} {t t' : TI} (h : PI X tg e t) (w : ∀ σ H Q, t' σ H Q → t σ H Q) : PI X tg e t' := ⟨fun pins s σ H Q I q => h.run pins s σ H Q I (w σ H Q q)⟩
end
def cst (d : D) : EF := fun st => some (d, st)
def rd (i : Nat) : EF := fun st => match st[i]? with
  | some (.dat d) => some (d, st)
  | some (.own xs) => some (.list xs, st.set i (.dat (.list xs)))
  | _ => none
section
variable {K : Kx} {C : Ct} {F F' H H' : Hp} {st : AS} {σ : L2.St}
theorem mu_set_dat {i j : Nat} {d : D} (h : Mu (st.set i (.dat d)) j) : Mu st j ∧ j ≠ i := by
  obtain ⟨s, h, hm⟩ := h
  by_cases e : j = i
  · subst e
    exfalso
    rw [List.getElem?_set_self'] at h
    cases q : st[j]? with
    | none => rw [q] at h; simp at h
    | some u => rw [q] at h; simp at h; subst h; cases hm
  · rw [List.getElem?_set_ne (Ne.symm e)] at h
    exact ⟨⟨s, h, hm⟩, e⟩
theorem Rel.freeze {i : Nat} {xs : List D} (R : Rel K C F st σ H) (h : st[i]? = some (.own xs)) :
    ∃ v F', σ[i]? = some (some v) ∧ Same F F' ∧ Rel K C F' (st.set i (.dat (.list xs))) σ H ∧ Dp K F' v (.list xs) := by
  obtain ⟨a, ha, h0, hF, vs, hH, hv⟩ := R.slot i _ h
  have hff : Same F (upd F a (.lst vs)) := same_upd hF
  have hd : Dp K (upd F a (.lst vs)) (.ref a) (.list xs) := .lst (.inl (.inl upd_same)) (DpAll_up hv hff)
  have hi : i < st.length := (List.getElem?_eq_some_iff.mp h).1
  refine ⟨.ref a, upd F a (.lst vs), ha, hff, ⟨?_, R.f0.trans hff, ?_, R.old, ?_, ?_, ?_, R.penh, R.pent⟩, hd⟩
  · rw [List.length_set]; exact R.len
  · intro b o e
    by_cases hb : b = a
    · subst hb; rw [upd_same] at e; cases e; exact hH
    · rw [upd_ne hb] at e; exact R.fh _ _ e
  · intro b hb0 hb1
    have hb : b ≠ a := fun z => by subst z; exact hb1 h0
    rw [upd_ne hb]
    exact R.new b hb0 hb1
  · intro j s hj
    by_cases e : j = i
    · subst e
      rw [List.getElem?_set_self hi] at hj
      cases hj
      exact ⟨_, ha, hd⟩
    · rw [List.getElem?_set_ne (Ne.symm e)] at hj
      have q := R.slot j s hj
      cases s with
      | no => trivial
      | dat d => obtain ⟨v, q1, q2⟩ := q; exact ⟨v, q1, Dp_up q2 hff⟩
      | own ys =>
        obtain ⟨b, q1, q2, q3, us, q4, q5⟩ := q
        have hb : b ≠ a := fun z => by
          subst z
          exact e (R.apart j i b ⟨_, hj, rfl⟩ ⟨_, h, rfl⟩ q1 ha)
        exact ⟨b, q1, q2, by rw [upd_ne hb]; exact q3, us, q4, DpAll_up q5 hff⟩
      | pen ys =>
        obtain ⟨b, q1, q2, q3, us, q4, q5⟩ := q
        have hb : b ≠ a := fun z => by
          subst z
          exact R.penh b q2 h0
        exact ⟨b, q1, q2, by rw [upd_ne hb]; exact q3, us, q4, DpAll_up q5 hff⟩
      | dct kvs =>
        obtain ⟨b, q1, q2, q3, u, q4, q5⟩ := q
        have hb : b ≠ a := fun z => by
          subst z
          exact e (R.apart j i b ⟨_, hj, rfl⟩ ⟨_, h, rfl⟩ q1 ha)
        exact ⟨b, q1, q2, by rw [upd_ne hb]; exact q3, u, q4, q5.up hff⟩
      | pdc kvs =>
        obtain ⟨b, q1, q2, q3, u, q4, q5⟩ := q
        have hb : b ≠ a := fun z => by
          subst z
          exact R.penh b q2 h0
        exact ⟨b, q1, q2, by rw [upd_ne hb]; exact q3, u, q4, q5.up hff⟩
      | obj o =>
        obtain ⟨b, q1, q2⟩ := q
        exact ⟨b, q1, q2.up hff⟩
  · intro j k b hj hk
    exact R.apart j k b (mu_set_dat hj).1 (mu_set_dat hk).1
theorem rel_mono_slots {st' : AS} (R : Rel K C F st σ H) (hl : st'.length = st.length) (h : ∀ (i : Nat) (s : Slot), st'[i]? = some s → s = .no ∨ st[i]? = some s) : Rel K C F st' σ H where
  len := hl.trans R.len
  f0 := R.f0
  fh := R.fh
  old := R.old
  new := R.new
  slot := fun i s e => by
    rcases h i s e with z | z
    · subst z; trivial
    · exact R.slot i s z
  apart := fun i j a hi hj => R.apart i j a (by
      obtain ⟨s, e, m⟩ := hi
      rcases h i _ e with z | z
      · subst z; cases m
      · exact ⟨s, z, m⟩) (by
      obtain ⟨s, e, m⟩ := hj
      rcases h j _ e with z | z
      · subst z; cases m
      · exact ⟨s, z, m⟩)
  penh := R.penh
  pent := R.pent
end
section
variable {X : Cx} {C : Ct} {pos : Pos}
theorem xd_c {e : Expr} {v : V} {d : D} (h : PE X e (tC v)) (hd : ∀ F, Dp (kxOf X) F v d) : PE X e (dOf (kxOf X) C (cst d)) := pe_wk h fun σ H Q q => by
  obtain ⟨F, st, r, R, e, k⟩ := q
  cases e
  exact k v H F (Same.refl _) R (hd F)
theorem xd_int {i j} : PE X (.Constant (.int i) j pos) (dOf (kxOf X) C (cst (.int i))) := xd_c pe_int fun _ => .int i
theorem xd_bl {b j} : PE X (.Constant (.bool b) j pos) (dOf (kxOf X) C (cst (.bool b))) := xd_c pe_bl fun _ => .bl b
theorem xd_non {j} : PE X (.Constant .none j pos) (dOf (kxOf X) C (cst .none)) := xd_c pe_non fun _ => .non
theorem xd_rd {i : Nat} {e : Expr} (h : PE X e (tVar i)) : PE X e (dOf (kxOf X) C (rd i)) := pe_wk h fun σ H Q q => by
  obtain ⟨F, st, r, R, e, k⟩ := q
  unfold rd at e
  split at e
  · rename_i d hd
    cases e
    obtain ⟨v, h1, h2⟩ := R.slot i _ hd
    exact ⟨v, h1, k v H F (Same.refl _) R h2⟩
  · rename_i xs hx
    cases e
    obtain ⟨v, F', h1, h2, h3, h4⟩ := R.freeze hx
    exact ⟨v, h1, k v H F' h2 h3 h4⟩
  · cases e
end
def bin2 (k : D → D → Option D) (f g : EF) : EF := fun st => (f st).bind fun a => (g a.2).bind fun b => (k a.1 b.1).map fun z => (z, b.2)
def Ok2 (K : Kx) (r : R2) (k : D → D → Option D) : Prop :=
  ∀ (F H : Hp) (x y : V) (a b z : D) (Q : VK), Same F H → Dp K F x a → Dp K F y b → k a b = some z → (∀ v F' H', Gr F H F' H' → Dp K F' v z → Q v H') → r x y H Q
theorem bin2_ok {K : Kx} {C : Ct} {r : R2} {k : D → D → Option D} {f g : EF} (ok : Ok2 K r k) {σ : L2.St} {H : Hp} {Q : VK} (q : dOf K C (bin2 k f g) σ H Q) : tOp r (dOf K C f) (dOf K C g) σ H Q := by
  obtain ⟨F, st, w, R, e, q⟩ := q
  unfold bin2 at e
  obtain ⟨a, ea, e⟩ := Option.bind_eq_some_iff.mp e
  obtain ⟨b, eb, e⟩ := Option.bind_eq_some_iff.mp e
  obtain ⟨z, ez, e⟩ := Option.map_eq_some_iff.mp e
  cases e
  refine ⟨F, st, a, R, ea, fun v H1 F1 s1 R1 d1 => ?_⟩
  refine ⟨F1, a.2, b, R1, eb, fun u H2 F2 s2 R2 d2 => ?_⟩
  exact ok F2 H2 v u a.1 b.1 z Q R2.fh (Dp_up d1 s2) d2 ez fun y F3 H3 g d3 => q y H3 F3 ((s1.trans s2).trans g.ff) (R2.grow g) d3
section
variable {X : Cx} {C : Ct} {pos : Pos} {a b : Expr} {f g : EF} {r : R2} {k : D → D → Option D}
theorem xd_op {op : Operator} (ho : OpR X (binaryOp op) r) (ok : Ok2 (kxOf X) r k) (ha : PE X a (dOf (kxOf X) C f)) (hb : PE X b (dOf (kxOf X) C g)) : PE X (.BinOp a op b pos) (dOf (kxOf X) C (bin2 k f g)) :=
  pe_wk (pe_op ho ha hb) fun _ _ _ q => bin2_ok ok q
theorem xd_cmp {op : CmpOp} (ho : OpR X (compareOp op) r) (ok : Ok2 (kxOf X) r k) (ha : PE X a (dOf (kxOf X) C f)) (hb : PE X b (dOf (kxOf X) C g)) (hm : behindInMarks op b = false) : PE X (.Compare a [op] [b] pos) (dOf (kxOf X) C (bin2 k f g)) :=
  pe_wk (pe_cmpR ho ha hb hm) fun _ _ _ q => bin2_ok ok q
theorem xd_ix (hr : IxR X r) (ok : Ok2 (kxOf X) r k) (ha : PE X a (dOf (kxOf X) C f)) (hb : PE X b (dOf (kxOf X) C g)) (hs : PlainIx b) : PE X (.Subscript a b pos) (dOf (kxOf X) C (bin2 k f g)) :=
  pe_wk (pe_ix hr ha hb hs) fun _ _ _ q => bin2_ok ok q
end
section
variable {X : Cx} {pins : List (Addr × Obj)} {σ : L2.St} {H : Hp} {s : Shared}
mutual
theorem Dp.reads (I : Inv X pins σ H s) : ∀ (d : D) (v : V) (u : Value), d.plain = true → Dp (kxOf X) H v d → RelV v u → ∃ as, Reads s.heap u d as
  | .none, _, _, _, h, r => by
    cases h
    cases r
    exact ⟨_, Reads.none⟩
  | .bool b, _, _, _, h, r => by
    cases h
    cases r
    exact ⟨_, Reads.bool b⟩
  | .int i, _, _, _, h, r => by
    cases h
    obtain ⟨t, rfl⟩ := r
    exact ⟨_, Reads.int i t⟩
  | .str x, _, _, _, h, r => by
    cases h
    obtain ⟨t, rfl⟩ := r
    exact ⟨_, Reads.str x t⟩
  | .list ds, _, _, c, h, r => by
    cases h with
    | lst hs ha =>
      cases r
      obtain ⟨its, rv, ⟨o, n, ho, hc, _, hd⟩, _⟩ := I.list hs
      obtain ⟨as, hr⟩ := Dp.readsAll I ds _ its (by simpa [PyData.plain] using c) ha rv
      exact ⟨_, Reads.list ho hc hd hr⟩
  | .tuple ds, _, _, c, h, r => by
    cases h with
    | tup hs ha =>
      cases r
      obtain ⟨its, rv, ⟨o, ho, hc, n, hd⟩, _⟩ := I.tuple hs
      obtain ⟨as, hr⟩ := Dp.readsAll I ds _ its (by simpa [PyData.plain] using c) ha rv
      exact ⟨_, Reads.tuple ho hc hd hr⟩
  | .dict _, _, _, c, _, _ => by simp [PyData.plain] at c
theorem Dp.readsAll (I : Inv X pins σ H s) : ∀ (ds : List D) (vs : List V) (us : List Value), PyData.plainAll ds = true → DpAll (kxOf X) H vs ds → Vals vs us → ∃ as, ReadsAll s.heap us ds as
  | [], _, _, _, h, r => by
    cases h
    cases r
    exact ⟨_, ReadsAll.nil⟩
  | d :: ds, _, _, c, h, r => by
    have c2 : d.plain = true ∧ PyData.plainAll ds = true := by simpa [PyData.plainAll] using c
    cases h with
    | cons h1 h2 =>
      cases r with
      | cons r1 r2 =>
        obtain ⟨as, q1⟩ := Dp.reads I d _ _ c2.1 h1 r1
        obtain ⟨bs, q2⟩ := Dp.readsAll I ds _ _ c2.2 h2 r2
        exact ⟨_, ReadsAll.cons q1 q2⟩
end
theorem canLay_sh {d : D} (h : SeqAt.shaped d = true) : d.plain = true := PyData.plain_of_canLay0 d (SeqAt.canLay_of_shaped h)
def rEqD (K : Kx) : R2 := fun x y H Q => ∃ d e, Dp K H x d ∧ Dp K H y e ∧ SeqAt.shaped d = true ∧ SeqAt.shaped e = true ∧ Q (.bl (PyData.eqv d e)) H
def rNeD (K : Kx) : R2 := fun x y H Q => ∃ d e, Dp K H x d ∧ Dp K H y e ∧ SeqAt.shaped d = true ∧ SeqAt.shaped e = true ∧ Q (.bl (!PyData.eqv d e)) H
theorem op_eqD (hu : X.A.units + 64 < cLine) : OpR X (compareOp .Eq) (rEqD (kxOf X)) := by
  intro pins s σ H x y v u Q I rx ry h
  obtain ⟨d, e, hd, he, sd, se, q⟩ := h
  obtain ⟨as, r1⟩ := Dp.reads I d x v (canLay_sh sd) hd rx
  obtain ⟨bs, r2⟩ := Dp.reads I e y u (canLay_sh se) he ry
  exact SeqAt.compareEq_shaped r1 r2 sd se hu ⟨.bl _, H, I, rfl, q⟩
theorem op_neD (hu : X.A.units + 64 < cLine) : OpR X (compareOp .NotEq) (rNeD (kxOf X)) := by
  intro pins s σ H x y v u Q I rx ry h
  obtain ⟨d, e, hd, he, sd, se, q⟩ := h
  obtain ⟨as, r1⟩ := Dp.reads I d x v (canLay_sh sd) hd rx
  obtain ⟨bs, r2⟩ := Dp.reads I e y u (canLay_sh se) he ry
  exact SeqAt.compareNe_shaped r1 r2 sd se hu ⟨.bl _, H, I, rfl, q⟩
end
def kAdd : D → D → Option D
  | .int i, .int j => some (.int (i + j))
  | _, _ => none
def kSub : D → D → Option D
  | .int i, .int j => some (.int (i - j))
  | _, _ => none
def kMul : D → D → Option D
  | .int i, .int j => if i.natAbs.log2 + j.natAbs.log2 < 1000000 then some (.int (i * j)) else none
  | _, _ => none
def kDiv : D → D → Option D
  | .int i, .int j => if j ≠ 0 ∧ j.natAbs.log2 < 9000 then some (.int (i.fdiv j)) else none
  | _, _ => none
def kMod : D → D → Option D
  | .int i, .int j => if j ≠ 0 then some (.int (i.fmod j)) else none
  | _, _ => none
def kPow : D → D → Option D
  | .int i, .int j => if 0 ≤ j ∧ j ≤ 1000000 ∧ i.natAbs < 2 ^ 64 then some (.int (i ^ j.toNat)) else none
  | _, _ => none
def kLt : D → D → Option D
  | .int i, .int j => some (.bool (decide (i < j)))
  | _, _ => none
def kLe : D → D → Option D
  | .int i, .int j => some (.bool (decide (i ≤ j)))
  | _, _ => none
def kGt : D → D → Option D
  | .int i, .int j => some (.bool (decide (j < i)))
  | _, _ => none
def kGe : D → D → Option D
  | .int i, .int j => some (.bool (decide (j ≤ i)))
  | _, _ => none
def kEqD : D → D → Option D := fun a b => if SeqAt.shaped a = true ∧ SeqAt.shaped b = true then some (.bool (PyData.eqv a b)) else none
def kNeD : D → D → Option D := fun a b => if SeqAt.shaped a = true ∧ SeqAt.shaped b = true then some (.bool (!PyData.eqv a b)) else none
def kEq : D → D → Option D
  | .str x, .str y => some (.bool (decide (x = y)))
  | a, b => kEqD a b
def kNe : D → D → Option D
  | .str x, .str y => some (.bool (!decide (x = y)))
  | a, b => kNeD a b
def kIsNot : D → D → Option D
  | .none, .none => some (.bool false)
  | _, .none => some (.bool true)
  | _, _ => none
theorem dp_int {K : Kx} {F : Hp} {v : V} {i : Int} (h : Dp K F v (.int i)) : v = .int i := by cases h; rfl
theorem dp_bl {K : Kx} {F : Hp} {v : V} {i : Bool} (h : Dp K F v (.bool i)) : v = .bl i := by cases h; rfl
theorem dp_str {K : Kx} {F : Hp} {v : V} {i : Str} (h : Dp K F v (.str i)) : v = .str i := by cases h; rfl
section
variable {K : Kx}
theorem okI0 {k : D → D → Option D} {g : Int → Int → V} {gd : Int → Int → D} (hk : ∀ a b z, k a b = some z → ∃ i j, a = .int i ∧ b = .int j ∧ z = gd i j) (hg : ∀ F i j, Dp K F (g i j) (gd i j)) : Ok2 K (rI0 g) k := by
  intro F H x y a b z Q fh ha hb e q
  obtain ⟨i, j, rfl, rfl, rfl⟩ := hk a b z e
  exact ⟨i, j, dp_int ha, dp_int hb, q _ F H (Gr.refl fh) (hg F i j)⟩
theorem okI {k : D → D → Option D} {c : Int → Int → Prop} {g : Int → Int → V} {gd : Int → Int → D} (hk : ∀ a b z, k a b = some z → ∃ i j, a = .int i ∧ b = .int j ∧ z = gd i j ∧ c i j) (hg : ∀ F i j, Dp K F (g i j) (gd i j)) : Ok2 K (rI c g) k := by
  intro F H x y a b z Q fh ha hb e q
  obtain ⟨i, j, rfl, rfl, rfl, hc⟩ := hk a b z e
  exact ⟨i, j, dp_int ha, dp_int hb, hc, q _ F H (Gr.refl fh) (hg F i j)⟩
theorem ok_sub : Ok2 K (rI0 fun i j => .int (i - j)) kSub := okI0 (gd := fun i j => .int (i - j)) (fun a b z e => by unfold kSub at e; split at e <;> cases e; exact ⟨_, _, rfl, rfl, rfl⟩) fun _ _ _ => .int _
theorem ok_lt : Ok2 K (rI0 fun i j => .bl (decide (i < j))) kLt := okI0 (gd := fun i j => .bool (decide (i < j))) (fun a b z e => by unfold kLt at e; split at e <;> cases e; exact ⟨_, _, rfl, rfl, rfl⟩) fun _ _ _ => .bl _
theorem ok_gt : Ok2 K (rI0 fun i j => .bl (decide (j < i))) kGt := okI0 (gd := fun i j => .bool (decide (j < i))) (fun a b z e => by unfold kGt at e; split at e <;> cases e; exact ⟨_, _, rfl, rfl, rfl⟩) fun _ _ _ => .bl _
theorem ok_ge : Ok2 K (rI0 fun i j => .bl (decide (j ≤ i))) kGe := okI0 (gd := fun i j => .bool (decide (j ≤ i))) (fun a b z e => by unfold kGe at e; split at e <;> cases e; exact ⟨_, _, rfl, rfl, rfl⟩) fun _ _ _ => .bl _
theorem ok_mul : Ok2 K (rI CMulW fun i j => .int (i * j)) kMul := okI (gd := fun i j => .int (i * j)) (fun a b z e => by
  unfold kMul at e; split at e
  · split at e <;> cases e
    rename_i h
    exact ⟨_, _, rfl, rfl, rfl, h⟩
  · cases e) fun _ _ _ => .int _
theorem ok_pow : Ok2 K (rI CPow fun i j => .int (i ^ j.toNat)) kPow := okI (gd := fun i j => .int (i ^ j.toNat)) (fun a b z e => by
  unfold kPow at e; split at e
  · split at e <;> cases e
    rename_i h
    exact ⟨_, _, rfl, rfl, rfl, h⟩
  · cases e) fun _ _ _ => .int _
def CDivG (_ j : Int) : Prop := j ≠ 0 ∧ j.natAbs.log2 < 9000
theorem op_fdivG {X : Cx} : OpR X (binaryOp .FloorDiv) (rI CDivG fun i j => .int (i.fdiv j)) := opI fun i j _ _ _ _ _ hc q => floordiv_int hc.1 q (.inl (PyProof.noPylong_of_log2 hc.2))
theorem ok_div : Ok2 K (rI CDivG fun i j => .int (i.fdiv j)) kDiv := okI (gd := fun i j => .int (i.fdiv j)) (fun a b z e => by
  unfold kDiv at e; split at e
  · split at e <;> cases e
    rename_i h
    exact ⟨_, _, rfl, rfl, rfl, h⟩
  · cases e) fun _ _ _ => .int _
theorem ok_mod : Ok2 K (rI (fun _ j => j ≠ 0) fun i j => .int (i.fmod j)) kMod := okI (gd := fun i j => .int (i.fmod j)) (fun a b z e => by
  unfold kMod at e; split at e
  · split at e <;> cases e
    rename_i h
    exact ⟨_, _, rfl, rfl, rfl, h⟩
  · cases e) fun _ _ _ => .int _
theorem ok_eqD : Ok2 K (rEqD K) kEqD := by
  intro F H x y a b z Q fh ha hb e q
  unfold kEqD at e
  split at e <;> cases e
  rename_i h
  exact ⟨a, b, Dp_up ha fh, Dp_up hb fh, h.1, h.2, q _ F H (Gr.refl fh) (.bl _)⟩
theorem ok_neD : Ok2 K (rNeD K) kNeD := by
  intro F H x y a b z Q fh ha hb e q
  unfold kNeD at e
  split at e <;> cases e
  rename_i h
  exact ⟨a, b, Dp_up ha fh, Dp_up hb fh, h.1, h.2, q _ F H (Gr.refl fh) (.bl _)⟩
theorem dec_strV (x y : Str) : decide (V.str x = V.str y) = decide (x = y) := by
  by_cases h : x = y
  · subst h; simp
  · rw [decide_eq_false h, decide_eq_false fun z => h (V.str.inj z)]
theorem ok_eq : Ok2 K (fun x y H Q => rEq x y H Q ∨ rEqD K x y H Q) kEq := by
  intro F H x y a b z Q fh ha hb e q
  unfold kEq at e
  split at e
  · cases e
    cases dp_str ha
    cases dp_str hb
    exact .inl ⟨rfl, by rw [dec_strV]; exact q _ F H (Gr.refl fh) (.bl _)⟩
  · exact .inr (ok_eqD F H x y a b z Q fh ha hb e q)
theorem ok_ne : Ok2 K (fun x y H Q => rNe x y H Q ∨ rNeD K x y H Q) kNe := by
  intro F H x y a b z Q fh ha hb e q
  unfold kNe at e
  split at e
  · cases e
    cases dp_str ha
    cases dp_str hb
    exact .inl ⟨rfl, by rw [dec_strV]; exact q _ F H (Gr.refl fh) (.bl _)⟩
  · exact .inr (ok_neD F H x y a b z Q fh ha hb e q)
theorem dp_non_iff {F : Hp} {v : V} {d : D} (h : Dp K F v d) : v = .non ↔ d = .none := by
  cases h <;> simp
theorem ok_isnot : Ok2 K (fun x y H Q => y = .non ∧ Q (.bl (!decide (x = .non))) H) kIsNot := by
  intro F H x y a b z Q fh ha hb e q
  unfold kIsNot at e
  split at e
  · cases e
    cases ha
    cases hb
    exact ⟨rfl, q _ F H (Gr.refl fh) (.bl false)⟩
  · rename_i hne
    cases e
    cases hb
    have hx : x ≠ .non := fun z => hne (dp_non_iff ha |>.mp z)
    rw [decide_eq_false hx]
    exact ⟨rfl, q _ F H (Gr.refl fh) (.bl true)⟩
  · cases e
end
section
variable {X : Cx} {C : Ct} {pos : Pos} {a b : Expr} {f g : EF}
theorem xd_sub (ha : PE X a (dOf (kxOf X) C f)) (hb : PE X b (dOf (kxOf X) C g)) : PE X (.BinOp a .Sub b pos) (dOf (kxOf X) C (bin2 kSub f g)) := xd_op op_sub ok_sub ha hb
theorem xd_mul (ha : PE X a (dOf (kxOf X) C f)) (hb : PE X b (dOf (kxOf X) C g)) : PE X (.BinOp a .Mult b pos) (dOf (kxOf X) C (bin2 kMul f g)) := xd_op op_mulW ok_mul ha hb
theorem xd_div (ha : PE X a (dOf (kxOf X) C f)) (hb : PE X b (dOf (kxOf X) C g)) : PE X (.BinOp a .FloorDiv b pos) (dOf (kxOf X) C (bin2 kDiv f g)) := xd_op op_fdivG ok_div ha hb
theorem xd_mod (ha : PE X a (dOf (kxOf X) C f)) (hb : PE X b (dOf (kxOf X) C g)) : PE X (.BinOp a .Mod b pos) (dOf (kxOf X) C (bin2 kMod f g)) := xd_op op_modN ok_mod ha hb
theorem xd_pow (ha : PE X a (dOf (kxOf X) C f)) (hb : PE X b (dOf (kxOf X) C g)) : PE X (.BinOp a .Pow b pos) (dOf (kxOf X) C (bin2 kPow f g)) := xd_op op_pow ok_pow ha hb
theorem xd_lt (ha : PE X a (dOf (kxOf X) C f)) (hb : PE X b (dOf (kxOf X) C g)) : PE X (.Compare a [.Lt] [b] pos) (dOf (kxOf X) C (bin2 kLt f g)) := xd_cmp op_lt ok_lt ha hb (nomark _)
theorem xd_ge (ha : PE X a (dOf (kxOf X) C f)) (hb : PE X b (dOf (kxOf X) C g)) : PE X (.Compare a [.GtE] [b] pos) (dOf (kxOf X) C (bin2 kGe f g)) := xd_cmp op_ge ok_ge ha hb (nomark _)
theorem xd_ne (hu : X.A.units + 64 < cLine) (ha : PE X a (dOf (kxOf X) C f)) (hb : PE X b (dOf (kxOf X) C g)) : PE X (.Compare a [.NotEq] [b] pos) (dOf (kxOf X) C (bin2 kNe f g)) := xd_cmp (op_ne.or (op_neD hu)) ok_ne ha hb (nomark _)
theorem xd_isnot (ha : PE X a (dOf (kxOf X) C f)) (hb : PE X b (dOf (kxOf X) C g)) : PE X (.Compare a [.IsNot] [b] pos) (dOf (kxOf X) C (bin2 kIsNot f g)) := xd_cmp op_notN ok_isnot ha hb (nomark _)
end
def un1 (k : D → Option D) (f : EF) : EF := fun st => (f st).bind fun a => (k a.1).map fun z => (z, a.2)
def Ok1 (K : Kx) (r : V → Hp → VK → Prop) (k : D → Option D) : Prop :=
  ∀ (F H : Hp) (x : V) (a z : D) (Q : VK), Same F H → Dp K F x a → k a = some z → (∀ v F' H', Gr F H F' H' → Dp K F' v z → Q v H') → r x H Q
theorem un1_ok {K : Kx} {C : Ct} {r : V → Hp → VK → Prop} {k : D → Option D} {f : EF} (ok : Ok1 K r k) {σ : L2.St} {H : Hp} {Q : VK} (q : dOf K C (un1 k f) σ H Q) : dOf K C f σ H fun x H1 => r x H1 Q := by
  obtain ⟨F, st, w, R, e, q⟩ := q
  unfold un1 at e
  obtain ⟨a, ea, e⟩ := Option.bind_eq_some_iff.mp e
  obtain ⟨z, ez, e⟩ := Option.map_eq_some_iff.mp e
  cases e
  refine ⟨F, st, a, R, ea, fun v H1 F1 s1 R1 d1 => ?_⟩
  exact ok F1 H1 v a.1 z Q R1.fh d1 ez fun y F3 H3 g d3 => q y H3 F3 (s1.trans g.ff) (R1.grow g) d3
def kNeg : D → Option D
  | .int i => some (.int (-i))
  | _ => none
section
variable {X : Cx} {C : Ct} {pos : Pos} {a b : Expr} {f g : EF}
theorem xd_neg (ha : PE X a (dOf (kxOf X) C f)) : PE X (.UnaryOp .USub a pos) (dOf (kxOf X) C (un1 kNeg f)) := pe_wk (pe_un un_neg ha) fun σ H Q q => un1_ok (k := kNeg) (fun F H x a z Q fh ha e q => by
  unfold kNeg at e; split at e <;> cases e
  exact ⟨_, dp_int ha, q _ F H (Gr.refl fh) (.int _)⟩) q
theorem xd_b1 {id : String} {x : Str} {p : Pos} {r : List V → Hp → VK → Prop} {k : D → Option D} (hc : CallR X (.builtin id) r) (ok : Ok1 (kxOf X) (fun v => r [v]) k) (hm : X.mg x = none) (hv : bootBuiltins x = some (.builtin id)) (ha : PE X a (dOf (kxOf X) C f))
    (hg : Gl X x) (hn : x ≠ "__name__" := by decide) (hdb : (x == ("__debug__" : Str)) = false := by decide)
    (he : starEach [a] X.env = (false, eval a X.env) :: starEach [] X.env := by rfl) (hpl : (backTo pos (starEach [] X.env)).any (·.1) = false := by rfl) : PE X (.Call (.Name x p) [a] [] pos) (dOf (kxOf X) C (un1 k f)) :=
  pe_wk (pe_callB hc hg hm hv (pa_cons ha pa_nil he) hn hdb he hpl) fun σ H Q q => un1_ok ok q
theorem xd_t1 {T : String} {x : Str} {p : Pos} {r : List V → Hp → VK → Prop} {k : D → Option D} (hc : CallR X (.type T) r) (ok : Ok1 (kxOf X) (fun v => r [v]) k) (hm : X.mg x = none) (hv : bootBuiltins x = some (.type T)) (ha : PE X a (dOf (kxOf X) C f))
    (hg : Gl X x) (hn : x ≠ "__name__" := by decide) (hdb : (x == ("__debug__" : Str)) = false := by decide)
    (he : starEach [a] X.env = (false, eval a X.env) :: starEach [] X.env := by rfl) (hpl : (backTo pos (starEach [] X.env)).any (·.1) = false := by rfl) : PE X (.Call (.Name x p) [a] [] pos) (dOf (kxOf X) C (un1 k f)) :=
  pe_wk (pe_callTy hc hg hm hv (pa_cons ha pa_nil he) hn hdb he hpl) fun σ H Q q => un1_ok ok q
end
def kAbs : D → Option D
  | .int i => some (.int (if i < 0 then -i else i))
  | _ => none
theorem cr_or {X : Cx} {id : String} {r r' : List V → Hp → VK → Prop} (h : CallR X (.builtin id) r) (h' : CallR X (.builtin id) r') : CallR X (.builtin id) (fun xs H Q => r xs H Q ∨ r' xs H Q) := fun pins s σ H xs us Q I rv q => q.elim (fun q => h pins s σ H xs us Q I rv q) fun q => h' pins s σ H xs us Q I rv q
def kLen : D → Option D
  | .list xs => some (.int xs.length)
  | .tuple xs => some (.int xs.length)
  | .dict kvs => some (.int kvs.length)
  | _ => none
def kInt : D → Option D
  | .int i => some (.int i)
  | .bool b => some (.int (if b then 1 else 0))
  | _ => none
def kList : D → Option D
  | .list xs => some (.list xs)
  | .tuple xs => some (.list xs)
  | _ => none
def kTuple : D → Option D
  | .list xs => some (.tuple xs)
  | .tuple xs => some (.tuple xs)
  | _ => none
section
variable {X : Cx} {C : Ct} {pos p : Pos} {a b : Expr} {f g : EF}
theorem xd_abs (hm : X.mg "abs" = none) (ha : PE X a (dOf (kxOf X) C f)) (hg : Gl X "abs" := by rfl) (he : starEach [a] X.env = (false, eval a X.env) :: starEach [] X.env := by rfl) : PE X (.Call (.Name "abs" p) [a] [] pos) (dOf (kxOf X) C (un1 kAbs f)) :=
  xd_b1 call_abs (fun F H x a z Q fh ha e q => by
    unfold kAbs at e; split at e <;> cases e
    exact ⟨_, by rw [dp_int ha], q _ F H (Gr.refl fh) (.int _)⟩) hm (by decide +kernel) ha hg (he := he)
theorem xd_len (hm : X.mg "len" = none) (ha : PE X a (dOf (kxOf X) C f)) (hg : Gl X "len" := by rfl) (he : starEach [a] X.env = (false, eval a X.env) :: starEach [] X.env := by rfl) : PE X (.Call (.Name "len" p) [a] [] pos) (dOf (kxOf X) C (un1 kLen f)) :=
  xd_b1 (cr_or call_len_seq call_lenD) (fun F H x a z Q fh ha e q => by
    unfold kLen at e; split at e <;> cases e
    · cases ha with
      | lst hs hv => exact .inl ⟨_, _, rfl, .inl (sql_up fh hs), by rw [DpAll_len hv]; exact q _ F H (Gr.refl fh) (.int _)⟩
    · cases ha with
      | tup hs hv => exact .inl ⟨_, _, rfl, .inr (sqt_up fh hs), by rw [DpAll_len hv]; exact q _ F H (Gr.refl fh) (.int _)⟩
    · exact .inr ⟨_, F, _, rfl, rdict_of ha fh, q _ F H (Gr.refl fh) (.int _)⟩) hm (by decide +kernel) ha hg (he := he)
theorem xd_toint (hm : X.mg "int" = none) (ha : PE X a (dOf (kxOf X) C f)) (hg : Gl X "int" := by rfl) (he : starEach [a] X.env = (false, eval a X.env) :: starEach [] X.env := by rfl) : PE X (.Call (.Name "int" p) [a] [] pos) (dOf (kxOf X) C (un1 kInt f)) :=
  xd_t1 call_int1 (fun F H x a z Q fh ha e q => by
    unfold kInt at e; split at e <;> cases e
    · exact .inl ⟨_, by rw [dp_int ha], q _ F H (Gr.refl fh) (.int _)⟩
    · exact .inr ⟨_, by rw [dp_bl ha], q _ F H (Gr.refl fh) (.int _)⟩) hm (by decide +kernel) ha hg (he := he)
theorem xd_tolist (hm : X.mg "list" = none) (ha : PE X a (dOf (kxOf X) C f)) (hg : Gl X "list" := by rfl) (he : starEach [a] X.env = (false, eval a X.env) :: starEach [] X.env := by rfl) : PE X (.Call (.Name "list" p) [a] [] pos) (dOf (kxOf X) C (un1 kList f)) :=
  xd_t1 call_list_of (fun F H x a z Q fh ha e q => by
    unfold kList at e; split at e <;> cases e
    · cases ha with
      | lst hs hv => exact ⟨_, _, rfl, .inl (sql_up fh hs), fun l hl => q _ _ _ (Gr.new fh hl) (.lst (.inl (.inl upd_same)) (DpAll_up hv (same_upd (fh.free hl))))⟩
    · cases ha with
      | tup hs hv => exact ⟨_, _, rfl, .inr (sqt_up fh hs), fun l hl => q _ _ _ (Gr.new fh hl) (.lst (.inl (.inl upd_same)) (DpAll_up hv (same_upd (fh.free hl))))⟩) hm (by decide +kernel) ha hg (he := he)
theorem xd_totuple (hm : X.mg "tuple" = none) (ha : PE X a (dOf (kxOf X) C f)) (hg : Gl X "tuple" := by rfl) (he : starEach [a] X.env = (false, eval a X.env) :: starEach [] X.env := by rfl) : PE X (.Call (.Name "tuple" p) [a] [] pos) (dOf (kxOf X) C (un1 kTuple f)) :=
  xd_t1 call_tuple_of (fun F H x a z Q fh ha e q => by
    unfold kTuple at e; split at e <;> cases e
    · cases ha with
      | lst hs hv => exact ⟨_, _, rfl, .inl ⟨sql_up fh hs, fun l hl => q _ _ _ (Gr.new fh hl) (.tup (.inl (.inl upd_same)) (DpAll_up hv (same_upd (fh.free hl))))⟩⟩
    · cases ha with
      | tup hs hv => exact ⟨_, _, rfl, .inr ⟨sqt_up fh hs, q _ F H (Gr.refl fh) (.tup hs hv)⟩⟩) hm (by decide +kernel) ha hg (he := he)
end
def nilA : LF := fun st => some ([], st)
def consA (f : EF) (g : LF) : LF := fun st => (f st).bind fun a => (g a.2).map fun b => (a.1 :: b.1, b.2)
def tupF (g : LF) : EF := fun st => (g st).bind fun b => if b.1.length ≤ sizeLine then some (.tuple b.1, b.2) else none
def lstF (g : LF) : EF := fun st => (g st).bind fun b => if b.1.length ≤ sizeLine then some (.list b.1, b.2) else none
def newF (g : LF) : LF := fun st => (g st).bind fun b => if b.1.length ≤ sizeLine then some b else none
section
variable {X : Cx} {C : Ct} {pos : Pos} {e : Expr} {es : List Expr} {f : EF} {g : LF}
theorem xa_nil : PA X [] (aOf (kxOf X) C nilA) := pa_wk pa_nil fun σ H Q q => by
  obtain ⟨F, st, w, R, e, q⟩ := q
  cases e
  exact q [] H F (Same.refl _) R .nil
theorem xa_cons (ha : PE X e (dOf (kxOf X) C f)) (hr : PA X es (aOf (kxOf X) C g)) (hs : starEach (e :: es) X.env = (false, eval e X.env) :: starEach es X.env := by rfl) : PA X (e :: es) (aOf (kxOf X) C (consA f g)) :=
  pa_wk (pa_cons ha hr hs) fun σ H Q q => by
    obtain ⟨F, st, w, R, e, q⟩ := q
    obtain ⟨a, ea, e⟩ := Option.bind_eq_some_iff.mp e
    obtain ⟨b, eb, e⟩ := Option.map_eq_some_iff.mp e
    cases e
    refine ⟨F, st, a, R, ea, fun v H1 F1 s1 R1 d1 => ?_⟩
    exact ⟨F1, a.2, b, R1, eb, fun vs H2 F2 s2 R2 d2 => q (v :: vs) H2 F2 (s1.trans s2) R2 (.cons (Dp_up d1 s2) d2)⟩
theorem xd_tup {x1} (h : PA X es (aOf (kxOf X) C g)) : PE X (.Tuple es x1 pos) (dOf (kxOf X) C (tupF g)) := pe_wk (pe_tup h) fun σ H Q q => by
  obtain ⟨F, st, w, R, e, q⟩ := q
  obtain ⟨b, eb, e⟩ := Option.bind_eq_some_iff.mp e
  split at e <;> cases e
  rename_i hl
  refine ⟨F, st, b, R, eb, fun vs H1 F1 s1 R1 d1 => ⟨by rw [DpAll_len d1]; exact hl, fun p hp => ?_⟩⟩
  have gr := Gr.new (o := .tup vs) R1.fh hp
  exact q _ _ _ (s1.trans gr.ff) (R1.grow gr) (.tup (.inl (.inl upd_same)) (DpAll_up d1 gr.ff))
theorem xd_lst (h : PA X es (aOf (kxOf X) C g)) : PE X (.List es pos) (dOf (kxOf X) C (lstF g)) := pe_wk (pe_lst h) fun σ H Q q => by
  obtain ⟨F, st, w, R, e, q⟩ := q
  obtain ⟨b, eb, e⟩ := Option.bind_eq_some_iff.mp e
  split at e <;> cases e
  rename_i hl
  refine ⟨F, st, b, R, eb, fun vs H1 F1 s1 R1 d1 => ⟨by rw [DpAll_len d1]; exact hl, fun p hp => ?_⟩⟩
  have gr := Gr.new (o := .lst vs) R1.fh hp
  exact q _ _ _ (s1.trans gr.ff) (R1.grow gr) (.lst (.inl (.inl upd_same)) (DpAll_up d1 gr.ff))
end
def kIx : D → D → Option D
  | .list xs, .int i => atI xs i
  | .tuple xs, .int i => atI xs i
  | .dict kvs, k => (dGet kvs k).bind id
  | _, _ => none
theorem atI_dp {K : Kx} {F : Hp} {vs : List V} {ds : List D} {i : Int} {d : D} (h : DpAll K F vs ds) (e : atI ds i = some d) : ∃ v, atI vs i = some v ∧ Dp K F v d := by
  unfold atI at e ⊢
  rw [DpAll_len h]
  obtain ⟨j, ej, e⟩ := Option.bind_eq_some_iff.mp e
  obtain ⟨v, h1, h2⟩ := DpAll_get h e
  exact ⟨v, by rw [ej]; exact h1, h2⟩
theorem ok_ix {K : Kx} : Ok2 K (fun x y H Q => (rIxL K.K x y H Q ∨ rIxT K.K x y H Q) ∨ rIxD K x y H Q) kIx := by
  intro F H x y a b z Q fh ha hb e q
  unfold kIx at e
  split at e
  · cases ha with
    | lst hs hv =>
      obtain ⟨v, h1, h2⟩ := atI_dp hv e
      exact .inl (.inl ⟨_, _, _, v, rfl, dp_int hb, sql_up fh hs, h1, q v F H (Gr.refl fh) h2⟩)
  · cases ha with
    | tup hs hv =>
      obtain ⟨v, h1, h2⟩ := atI_dp hv e
      exact .inl (.inr ⟨_, _, _, v, rfl, dp_int hb, sqt_up fh hs, h1, q v F H (Gr.refl fh) h2⟩)
  · obtain ⟨o, eo, e⟩ := Option.bind_eq_some_iff.mp e
    obtain rfl : o = some z := e
    exact .inr ⟨F, _, _, z, rdict_of ha fh, hb, eo, fun v dv => q v F H (Gr.refl fh) dv⟩
  · cases e
theorem ix_or {X : Cx} {r r' : R2} (h : IxR X r) (h' : IxR X r') : IxR X (fun x y H Q => r x y H Q ∨ r' x y H Q) := fun value slice pins s σ H x y v u Q I rx ry q hs =>
  q.elim (fun q => h value slice pins s σ H x y v u Q I rx ry q hs) fun q => h' value slice pins s σ H x y v u Q I rx ry q hs
section
variable {X : Cx} {C : Ct} {pos : Pos} {a b : Expr} {f g : EF}
theorem xd_item (hu : X.A.units + 65 < cLine) (ha : PE X a (dOf (kxOf X) C f)) (hb : PE X b (dOf (kxOf X) C g)) (hs : PlainIx b := by exact fun _ _ => rfl) : PE X (.Subscript a b pos) (dOf (kxOf X) C (bin2 kIx f g)) := xd_ix (ix_or (ix_or ix_list ix_tup) (ix_dict hu)) ok_ix ha hb hs
end
def muC (st : AS) (i : Nat) : Option (List D) := match st[i]? with
  | some (.own xs) => some xs
  | some (.pen xs) => some xs
  | _ => none
def putM (st : AS) (i : Nat) (xs : List D) : AS := match st[i]? with
  | some (.own _) => st.set i (.own xs)
  | some (.pen _) => st.set i (.pen xs)
  | _ => st
section
variable {K : Kx} {C : Ct} {F F' H H' : Hp} {st : AS} {σ : L2.St}
theorem mu_of {i : Nat} {xs : List D} (h : muC st i = some xs) : st[i]? = some (.own xs) ∨ st[i]? = some (.pen xs) := by
  unfold muC at h
  split at h <;> cases h
  · exact .inl (by assumption)
  · exact .inr (by assumption)
theorem mu_Mu {i : Nat} {xs : List D} (h : muC st i = some xs) : Mu st i := (mu_of h).elim (fun e => ⟨_, e, rfl⟩) fun e => ⟨_, e, rfl⟩
theorem Rel.mu {i : Nat} {xs : List D} (R : Rel K C F st σ H) (h : muC st i = some xs) : ∃ a, σ[i]? = some (some (.ref a)) ∧ Lst K F H a xs ∧ (C.H0 a = none ∨ C.pen = some a) := by
  rcases mu_of h with e | e
  · obtain ⟨a, h1, h2, h3⟩ := R.slot i _ e
    exact ⟨a, h1, h3, .inl h2⟩
  · obtain ⟨a, h1, h2, h3⟩ := R.slot i _ e
    exact ⟨a, h1, h3, .inr h2⟩
theorem putM_len (i : Nat) (xs : List D) : (putM st i xs).length = st.length := by
  unfold putM
  split <;> simp
theorem Rel.put {i : Nat} {xs ys : List D} {a : Addr} {us : List V} (R : Rel K C F st σ H) (h : muC st i = some xs) (ha : σ[i]? = some (some (.ref a))) (hu : DpAll K F us ys) : Rel K C F (putM st i ys) σ (upd H a (.lst us)) := by
  obtain ⟨b, h1, ⟨hF, vs, hH, hv⟩, h3⟩ := R.mu h
  rw [ha] at h1
  cases h1
  have hm : Mu st i := mu_Mu h
  have hi : i < st.length := by
    rcases mu_of h with e | e <;> exact (List.getElem?_eq_some_iff.mp e).1
  have put_ne : ∀ j, j ≠ i → (putM st i ys)[j]? = st[j]? := fun j e => by
    unfold putM
    split <;> first | rfl | rw [List.getElem?_set_ne (Ne.symm e)]
  have put_eq : (st[i]? = some (.own xs) ∧ (putM st i ys)[i]? = some (.own ys)) ∨ (st[i]? = some (.pen xs) ∧ (putM st i ys)[i]? = some (.pen ys)) := by
    rcases mu_of h with e | e
    · refine .inl ⟨e, ?_⟩
      unfold putM
      rw [e]
      exact List.getElem?_set_self hi
    · refine .inr ⟨e, ?_⟩
      unfold putM
      rw [e]
      exact List.getElem?_set_self hi
  have mu_back : ∀ j, Mu (putM st i ys) j → Mu st j := fun j hj => by
    by_cases e : j = i
    · subst e; exact hm
    · unfold Mu at hj ⊢
      rw [put_ne j e] at hj
      exact hj
  refine ⟨(putM_len i ys).trans R.len, R.f0, fun b o e => ?_, fun b o e hp => ?_, R.new, fun j s hj => ?_, fun j k b hj hk => R.apart j k b (mu_back j hj) (mu_back k hk), R.penh, fun p hp => ?_⟩
  · rw [upd_ne (fun z => by subst z; rw [hF] at e; cases e)]
    exact R.fh b o e
  · have hb : b ≠ a := fun z => by
      subst z
      rcases h3 with q | q
      · rw [q] at e; cases e
      · exact hp q
    rw [upd_ne hb]
    exact R.old b o e hp
  · by_cases e : j = i
    · subst e
      rcases put_eq with ⟨e1, e2⟩ | ⟨e1, e2⟩
      · rw [e2] at hj
        cases hj
        obtain ⟨b, q1, q2, q3⟩ := R.slot j _ e1
        rw [ha] at q1
        cases q1
        exact ⟨a, ha, q2, hF, us, upd_same, hu⟩
      · rw [e2] at hj
        cases hj
        obtain ⟨b, q1, q2, q3⟩ := R.slot j _ e1
        rw [ha] at q1
        cases q1
        exact ⟨a, ha, q2, hF, us, upd_same, hu⟩
    · rw [put_ne j e] at hj
      have q := R.slot j s hj
      cases s with
      | no => trivial
      | dat d => exact q
      | own zs =>
        obtain ⟨b, q1, q2, q3, ws, q4, q5⟩ := q
        have hb : b ≠ a := fun z => by
          subst z
          exact e (R.apart j i b ⟨_, hj, rfl⟩ hm q1 ha)
        exact ⟨b, q1, q2, q3, ws, by rw [upd_ne hb]; exact q4, q5⟩
      | pen zs =>
        obtain ⟨b, q1, q2, q3, ws, q4, q5⟩ := q
        have hb : b ≠ a := fun z => by
          subst z
          exact e (R.apart j i b ⟨_, hj, rfl⟩ hm q1 ha)
        exact ⟨b, q1, q2, q3, ws, by rw [upd_ne hb]; exact q4, q5⟩
      | dct kvs =>
        obtain ⟨b, q1, q2, q3, w, q4, q5⟩ := q
        have hb : b ≠ a := fun z => by
          subst z
          exact e (R.apart j i b ⟨_, hj, rfl⟩ hm q1 ha)
        exact ⟨b, q1, q2, q3, w, by rw [upd_ne hb]; exact q4, q5⟩
      | pdc kvs =>
        obtain ⟨b, q1, q2, q3, w, q4, q5⟩ := q
        have hb : b ≠ a := fun z => by
          subst z
          exact e (R.apart j i b ⟨_, hj, rfl⟩ hm q1 ha)
        exact ⟨b, q1, q2, q3, w, by rw [upd_ne hb]; exact q4, q5⟩
      | obj o => exact q
  · by_cases e : p = a
    · subst e; rw [upd_same]; simp
    · rw [upd_ne e]; exact R.pent p hp
end
def ixM (i : Nat) (g : EF) : EF := fun st => (muC st i).bind fun _ => (g st).bind fun b => (muC b.2 i).bind fun xs => (kIx (.list xs) b.1).map fun z => (z, b.2)
def lenM (i : Nat) : EF := fun st => (muC st i).map fun xs => (.int xs.length, st)
def appM (i : Nat) (g : EF) : EF := fun st => (muC st i).bind fun _ => (g st).bind fun b => (muC b.2 i).bind fun xs => if xs.length < sizeLine then some (.none, putM b.2 i (xs ++ [b.1])) else none
def popM (i : Nat) (g : EF) : EF := fun st => (muC st i).bind fun _ => (g st).bind fun b => (muC b.2 i).bind fun xs => match b.1 with
  | .int k => if 0 ≤ k ∧ k < 2 ^ 63 then (xs[k.toNat]?).map fun z => (z, putM b.2 i (xs.eraseIdx k.toNat)) else none
  | _ => none
def extM (i : Nat) (g : EF) : EF := fun st => (muC st i).bind fun _ => (g st).bind fun b => (muC b.2 i).bind fun xs => match b.1 with
  | .list ys => if xs.length + ys.length ≤ sizeLine then some (.none, putM b.2 i (xs ++ ys)) else none
  | _ => none
section
variable {X : Cx} {C : Ct} {pos p apos : Pos} {a b : Expr} {f g : EF}
theorem xd_itemM {i : Nat} (ha : PE X a (tVar i)) (hb : PE X b (dOf (kxOf X) C g)) (hs : PlainIx b := by exact fun _ _ => rfl) : PE X (.Subscript a b pos) (dOf (kxOf X) C (ixM i g)) :=
  pe_wk (pe_ix ix_list ha hb hs) fun σ H Q q => by
    obtain ⟨F, st, w, R, e, q⟩ := q
    obtain ⟨x0, e0, e⟩ := Option.bind_eq_some_iff.mp e
    obtain ⟨b, eb, e⟩ := Option.bind_eq_some_iff.mp e
    obtain ⟨xs, ex, e⟩ := Option.bind_eq_some_iff.mp e
    obtain ⟨z, ez, e⟩ := Option.map_eq_some_iff.mp e
    cases e
    obtain ⟨p, h1, _, _⟩ := R.mu e0
    refine ⟨.ref p, h1, F, st, b, R, eb, fun y H1 F1 s1 R1 d1 => ?_⟩
    obtain ⟨p', h1', ⟨hF, vs, hH, hv⟩, _⟩ := R1.mu ex
    rw [h1] at h1'
    cases h1'
    unfold kIx at ez
    split at ez
    · rename_i e1 e2
      cases e1
      obtain ⟨v, h2, h3⟩ := atI_dp hv ez
      exact ⟨p, vs, _, v, rfl, dp_int (e2 ▸ d1), .inl (.inl hH), h2, q v H1 F1 s1 R1 h3⟩
    · rename_i e1 _
      cases e1
    · rename_i e1
      cases e1
    · cases ez
theorem xd_lenM {i : Nat} (hm : X.mg "len" = none) (ha : PE X a (tVar i)) (hg : Gl X "len" := by rfl) (he : starEach [a] X.env = (false, eval a X.env) :: starEach [] X.env := by rfl) : PE X (.Call (.Name "len" p) [a] [] pos) (dOf (kxOf X) C (lenM i)) :=
  pe_wk (pe_callB call_len_seq hg hm (by decide +kernel) (pa_cons ha pa_nil he) (he := he)) fun σ H Q q => by
    obtain ⟨F, st, w, R, e, q⟩ := q
    obtain ⟨xs, e0, e⟩ := Option.map_eq_some_iff.mp e
    cases e
    obtain ⟨p, h1, ⟨hF, vs, hH, hv⟩, _⟩ := R.mu e0
    exact ⟨.ref p, h1, p, vs, rfl, .inl (.inl (.inl hH)), by rw [DpAll_len hv]; exact q _ H F (Same.refl _) R (.int _)⟩
end
end Xm
set_option Elab.async false
set_option linter.all false
set_option maxRecDepth 100000
namespace Xm
open PySem PySem.Spec PyProof.Rows L2
def valB (f : EF) : BF := fun st => (f st).bind fun a => match a.1 with
  | .bool b => some (b, a.2)
  | _ => none
def andB (f g : BF) : BF := fun st => (f st).bind fun a => if a.1 = true then g a.2 else some (false, a.2)
def orB (f g : BF) : BF := fun st => (f st).bind fun a => if a.1 = true then some (true, a.2) else g a.2
def notB (f : BF) : BF := fun st => (f st).map fun a => (!a.1, a.2)
def boolE (f : BF) : EF := fun st => (f st).map fun a => (.bool a.1, a.2)
def ifE (c : BF) (f g : EF) : EF := fun st => (c st).bind fun a => if a.1 = true then f a.2 else g a.2
section
variable {X : Cx} {C : Ct} {pos : Pos} {a b c e : Expr} {rest : List Expr} {f g : EF} {u v : BF}
theorem xt_cmp {op : CmpOp} {r : R2} {k : D → D → Option D} (ho : OpR X (compareOp op) r) (ok : Ok2 (kxOf X) r k) (ha : PE X a (dOf (kxOf X) C f)) (hb : PE X b (dOf (kxOf X) C g)) (hm : behindInMarks op b = false) : PT X (.Compare a [op] [b] pos) (bOf (kxOf X) C (valB (bin2 k f g))) :=
  pt_wk (pt_cmpR ho ha hb hm) fun σ H Q q => by
    obtain ⟨F, st, w, R, e, q⟩ := q
    obtain ⟨a, ea, e⟩ := Option.bind_eq_some_iff.mp e
    split at e
    · rename_i b hb
      cases e
      refine bin2_ok (C := C) ok ⟨F, st, a, R, ea, fun v H1 F1 s1 R1 d1 => ⟨b, dp_bl (hb ▸ d1), q H1 F1 s1 R1⟩⟩
    · cases e
theorem xt_lt (ha : PE X a (dOf (kxOf X) C f)) (hb : PE X b (dOf (kxOf X) C g)) : PT X (.Compare a [.Lt] [b] pos) (bOf (kxOf X) C (valB (bin2 kLt f g))) := xt_cmp op_lt ok_lt ha hb (nomark _)
theorem xt_gt (ha : PE X a (dOf (kxOf X) C f)) (hb : PE X b (dOf (kxOf X) C g)) : PT X (.Compare a [.Gt] [b] pos) (bOf (kxOf X) C (valB (bin2 kGt f g))) := xt_cmp op_gt ok_gt ha hb (nomark _)
theorem xt_ge (ha : PE X a (dOf (kxOf X) C f)) (hb : PE X b (dOf (kxOf X) C g)) : PT X (.Compare a [.GtE] [b] pos) (bOf (kxOf X) C (valB (bin2 kGe f g))) := xt_cmp op_ge ok_ge ha hb (nomark _)
theorem xt_eq (hu : X.A.units + 64 < cLine) (ha : PE X a (dOf (kxOf X) C f)) (hb : PE X b (dOf (kxOf X) C g)) : PT X (.Compare a [.Eq] [b] pos) (bOf (kxOf X) C (valB (bin2 kEq f g))) := xt_cmp (op_eq.or (op_eqD hu)) ok_eq ha hb (nomark _)
theorem xt_ne (hu : X.A.units + 64 < cLine) (ha : PE X a (dOf (kxOf X) C f)) (hb : PE X b (dOf (kxOf X) C g)) : PT X (.Compare a [.NotEq] [b] pos) (bOf (kxOf X) C (valB (bin2 kNe f g))) := xt_cmp (op_ne.or (op_neD hu)) ok_ne ha hb (nomark _)
theorem xt_isnot (ha : PE X a (dOf (kxOf X) C f)) (hb : PE X b (dOf (kxOf X) C g)) : PT X (.Compare a [.IsNot] [b] pos) (bOf (kxOf X) C (valB (bin2 kIsNot f g))) := xt_cmp op_notN ok_isnot ha hb (nomark _)
theorem andB_ok {K : Kx} {σ : L2.St} {H : Hp} {Q : Bool → Hp → Prop} (q : bOf K C (andB u v) σ H Q) : tAnd (bOf K C u) (bOf K C v) σ H Q := by
  obtain ⟨F, st, w, R, e, q⟩ := q
  obtain ⟨a, ea, e⟩ := Option.bind_eq_some_iff.mp e
  refine ⟨F, st, a, R, ea, fun H1 F1 s1 R1 => ?_⟩
  dsimp only
  split
  · rename_i h
    rw [if_pos h] at e
    exact ⟨F1, a.2, w, R1, e, fun H2 F2 s2 R2 => q H2 F2 (s1.trans s2) R2⟩
  · rename_i h
    rw [if_neg h] at e
    cases e
    exact q H1 F1 s1 R1
theorem orB_ok {K : Kx} {σ : L2.St} {H : Hp} {Q : Bool → Hp → Prop} (q : bOf K C (orB u v) σ H Q) : tOr (bOf K C u) (bOf K C v) σ H Q := by
  obtain ⟨F, st, w, R, e, q⟩ := q
  obtain ⟨a, ea, e⟩ := Option.bind_eq_some_iff.mp e
  refine ⟨F, st, a, R, ea, fun H1 F1 s1 R1 => ?_⟩
  dsimp only
  split
  · rename_i h
    rw [if_pos h] at e
    cases e
    exact q H1 F1 s1 R1
  · rename_i h
    rw [if_neg h] at e
    exact ⟨F1, a.2, w, R1, e, fun H2 F2 s2 R2 => q H2 F2 (s1.trans s2) R2⟩
theorem xw_and1 (ha : PT X a (bOf (kxOf X) C u)) : PW X (.BoolOp .And [a] pos) (bOf (kxOf X) C u) := pw_and1 ha
theorem xw_or1 (ha : PT X a (bOf (kxOf X) C u)) : PW X (.BoolOp .Or [a] pos) (bOf (kxOf X) C u) := pw_or1 ha
theorem xw_and (ha : PT X a (bOf (kxOf X) C u)) (hb : PW X (.BoolOp .And (b :: rest) pos) (bOf (kxOf X) C v)) : PW X (.BoolOp .And (a :: b :: rest) pos) (bOf (kxOf X) C (andB u v)) := pw_wk (pw_and ha hb) fun _ _ _ q => andB_ok q
theorem xw_or (ha : PT X a (bOf (kxOf X) C u)) (hb : PW X (.BoolOp .Or (b :: rest) pos) (bOf (kxOf X) C v)) : PW X (.BoolOp .Or (a :: b :: rest) pos) (bOf (kxOf X) C (orB u v)) := pw_wk (pw_or ha hb) fun _ _ _ q => orB_ok q
theorem xt_w (h : PW X e (bOf (kxOf X) C u)) : PT X e (bOf (kxOf X) C u) := h.pt
theorem valB_ok {K : Kx} {σ : L2.St} {H : Hp} {Q : VK} {st : AS} {F : Hp} {w : Bool × AS} (R : Rel K C F st σ H) (e : valB f st = some w) (q : ∀ H' F', Same F F' → Rel K C F' w.2 σ H' → Q (.bl w.1) H') : dOf K C f σ H Q := by
  obtain ⟨a, ea, e⟩ := Option.bind_eq_some_iff.mp e
  split at e
  · rename_i b hb
    cases e
    exact ⟨F, st, a, R, ea, fun v H1 F1 s1 R1 d1 => by
      have hv := dp_bl (hb ▸ d1)
      subst hv
      exact q H1 F1 s1 R1⟩
  · cases e
theorem xd_one {op} (h : PE X a (dOf (kxOf X) C f)) : PE X (.BoolOp op [a] pos) (dOf (kxOf X) C (boolE (valB f))) := pe_wk (pe_one h) fun σ H Q q => by
  obtain ⟨F, st, w, R, e, q⟩ := q
  obtain ⟨a, ea, e⟩ := Option.map_eq_some_iff.mp e
  cases e
  exact valB_ok R ea fun H1 F1 s1 R1 => q _ H1 F1 s1 R1 (.bl _)
theorem xd_and (ha : PE X a (dOf (kxOf X) C f)) (hb : PE X (.BoolOp .And (b :: rest) pos) (dOf (kxOf X) C (boolE v))) : PE X (.BoolOp .And (a :: b :: rest) pos) (dOf (kxOf X) C (boolE (andB (valB f) v))) := pe_wk (pe_and ha hb) fun σ H Q q => by
  obtain ⟨F, st, w, R, e, q⟩ := q
  obtain ⟨a, ea, e⟩ := Option.map_eq_some_iff.mp e
  cases e
  obtain ⟨b, eb, e⟩ := Option.bind_eq_some_iff.mp ea
  refine valB_ok R eb fun H1 F1 s1 R1 => ⟨b.1, rfl, ?_⟩
  split
  · rename_i h
    rw [if_pos h] at e
    refine ⟨F1, b.2, (.bool a.1, a.2), R1, by unfold boolE; rw [e]; rfl, fun v H2 F2 s2 R2 d2 => q v H2 F2 (s1.trans s2) R2 d2⟩
  · rename_i h
    rw [if_neg h] at e
    cases e
    exact q _ H1 F1 s1 R1 (.bl _)
theorem xd_if (hc : PT X c (bOf (kxOf X) C u)) (ha : PE X a (dOf (kxOf X) C f)) (hb : PE X b (dOf (kxOf X) C g)) : PE X (.IfExp c a b pos) (dOf (kxOf X) C (ifE u f g)) := pe_wk (pe_ifExp hc ha hb) fun σ H Q q => by
  obtain ⟨F, st, w, R, e, q⟩ := q
  obtain ⟨b, eb, e⟩ := Option.bind_eq_some_iff.mp e
  refine ⟨F, st, b, R, eb, fun H1 F1 s1 R1 => ?_⟩
  dsimp only
  split
  · rename_i h
    rw [if_pos h] at e
    exact ⟨F1, b.2, w, R1, e, fun v H2 F2 s2 R2 d2 => q v H2 F2 (s1.trans s2) R2 d2⟩
  · rename_i h
    rw [if_neg h] at e
    exact ⟨F1, b.2, w, R1, e, fun v H2 F2 s2 R2 d2 => q v H2 F2 (s1.trans s2) R2 d2⟩
end
inductive RV where
  | val (d : D)
  | new (xs : List D)
  | dct (kvs : List (D × D))
  | exc (x : Ex)
inductive Fl where
  | nx
  | ret (r : RV)
  | brk
  | cont
abbrev SF := AS → Option (Fl × AS)
def ROk (K : Kx) (C : Ct) (F H : Hp) (v : V) : RV → Prop
  | .val d => Dp K F v d
  | .new xs => ∃ a, v = .ref a ∧ C.H0 a = none ∧ Lst K F H a xs
  | .dct kvs => ∃ a, v = .ref a ∧ C.H0 a = none ∧ Dct K F H a kvs
  | .exc _ => False
def RetQ (K : Kx) (C : Ct) (Z : Ends) (F : Hp) (st : AS) : RV → Prop
  | .exc x => ∀ cls d σ' H' F', Same F F' → Rel K C F' st σ' H' → ExOk K F' x cls d → C.W cls d σ' H'
  | .val d => ∀ v σ' H' F', Same F F' → Rel K C F' st σ' H' → ROk K C F' H' v (.val d) → Z.rt v H'
  | .new xs => ∀ v σ' H' F', Same F F' → Rel K C F' st σ' H' → ROk K C F' H' v (.new xs) → Z.rt v H'
  | .dct kvs => ∀ v σ' H' F', Same F F' → Rel K C F' st σ' H' → ROk K C F' H' v (.dct kvs) → Z.rt v H'
theorem RetQ.up {K : Kx} {C : Ct} {Z : Ends} {F F' : Hp} {st : AS} {r : RV} (q : RetQ K C Z F st r) (e : Same F F') : RetQ K C Z F' st r := by
  cases r with
  | exc x => exact fun cls d σ' H' F2 s2 => q cls d σ' H' F2 (e.trans s2)
  | val d => exact fun v σ' H' F2 s2 => q v σ' H' F2 (e.trans s2)
  | new d => exact fun v σ' H' F2 s2 => q v σ' H' F2 (e.trans s2)
  | dct d => exact fun v σ' H' F2 s2 => q v σ' H' F2 (e.trans s2)
section
variable (K : Kx) (C : Ct)
def sOf (g : SF) : TS := fun Z σ H => ∃ F st w, Rel K C F st σ H ∧ g st = some w ∧ match w.1 with
  | .nx => ∀ σ' H' F', Same F F' → Rel K C F' w.2 σ' H' → Z.nx σ' H'
  | .brk => ∀ σ' H' F', Same F F' → Rel K C F' w.2 σ' H' → Z.bk σ' H'
  | .cont => ∀ σ' H' F', Same F F' → Rel K C F' w.2 σ' H' → Z.ct σ' H'
  | .ret r => RetQ K C Z F w.2 r
def gOf (u : D → AS → Option AS) (ts : List Nat) : TG := fun v σ H Q => ∃ F st d st', Rel K C F st σ H ∧ Dp K F v d ∧ u d st = some st' ∧ ∀ σ' H' F', Same F F' → Rel K C F' st' σ' H' → σ'.length = σ.length → (∀ j, j ∉ ts → σ'[j]? = σ[j]?) → Q σ' H'
end
def seqS (f g : SF) : SF := fun st => (f st).bind fun w => match w.1 with
  | .nx => g w.2
  | _ => some w
def skipS : SF := fun st => some (.nx, st)
def retS (f : EF) : SF := fun st => (f st).map fun a => (.ret (.val a.1), a.2)
def retN (g : LF) : SF := fun st => (g st).map fun a => (.ret (.new a.1), a.2)
def retM (i : Nat) : SF := fun st => match st[i]? with
  | some (.own xs) => some (.ret (.new xs), st)
  | some (.dat d) => some (.ret (.val d), st)
  | _ => none
def dropS (f : EF) : SF := fun st => (f st).map fun a => (.nx, a.2)
def ifS (c : BF) (f g : SF) : SF := fun st => (c st).bind fun a => if a.1 = true then f a.2 else g a.2
def setD (i : Nat) (d : D) (st : AS) : Option AS := match st[i]? with
  | some (.pen _) => none
  | some _ => some (st.set i (.dat d))
  | none => none
def setO (i : Nat) (xs : List D) (st : AS) : Option AS := match st[i]? with
  | some (.pen _) => none
  | some _ => some (st.set i (.own xs))
  | none => none
def asgS (i : Nat) (f : EF) : SF := fun st => (f st).bind fun a => (setD i a.1 a.2).map fun st' => (.nx, st')
def asgN (i : Nat) (g : LF) : SF := fun st => (g st).bind fun a => (setO i a.1 a.2).map fun st' => (.nx, st')
section
variable {K : Kx} {C : Ct} {F F' H H' : Hp} {st : AS} {σ : L2.St}
theorem Rel.setD {i : Nat} {d : D} {v : V} {st' : AS} (R : Rel K C F st σ H) (h : setD i d st = some st') (hv : Dp K F v d) : Rel K C F st' (σ.set i (some v)) H := by
  have e : st' = st.set i (.dat d) ∧ i < st.length := by
    unfold Xm.setD at h
    split at h <;> cases h
    exact ⟨rfl, (List.getElem?_eq_some_iff.mp ‹_›).1⟩
  obtain ⟨rfl, hi⟩ := e
  have hiσ : i < σ.length := by rw [← R.len]; exact hi
  refine ⟨by rw [List.length_set, List.length_set]; exact R.len, R.f0, R.fh, R.old, R.new, fun j s hj => ?_, fun j k b hj hk e1 e2 => ?_, R.penh, R.pent⟩
  · by_cases e : j = i
    · subst e
      rw [List.getElem?_set_self hi] at hj
      cases hj
      exact ⟨v, List.getElem?_set_self hiσ, hv⟩
    · rw [List.getElem?_set_ne (Ne.symm e)] at hj
      rw [List.getElem?_set_ne (Ne.symm e)]
      exact R.slot j s hj
  · obtain ⟨m1, n1⟩ := mu_set_dat hj
    obtain ⟨m2, n2⟩ := mu_set_dat hk
    rw [List.getElem?_set_ne (Ne.symm n1)] at e1
    rw [List.getElem?_set_ne (Ne.symm n2)] at e2
    exact R.apart j k b m1 m2 e1 e2
theorem Rel.setO {i : Nat} {xs : List D} {a : Addr} {st' : AS} (R : Rel K C F st σ H) (h : setO i xs st = some st') (h0 : C.H0 a = none) (hl : Lst K F H a xs) (hap : ∀ j, Mu st j → σ[j]? ≠ some (some (.ref a))) :
    Rel K C F st' (σ.set i (some (.ref a))) H := by
  have e : st' = st.set i (.own xs) ∧ i < st.length := by
    unfold Xm.setO at h
    split at h <;> cases h
    exact ⟨rfl, (List.getElem?_eq_some_iff.mp ‹_›).1⟩
  obtain ⟨rfl, hi⟩ := e
  have hiσ : i < σ.length := by rw [← R.len]; exact hi
  have back : ∀ j, j ≠ i → Mu (st.set i (.own xs)) j → Mu st j := fun j e h => by
    unfold Mu at h ⊢
    rw [List.getElem?_set_ne (Ne.symm e)] at h
    exact h
  refine ⟨by rw [List.length_set, List.length_set]; exact R.len, R.f0, R.fh, R.old, R.new, fun j s hj => ?_, fun j k b hj hk e1 e2 => ?_, R.penh, R.pent⟩
  · by_cases e : j = i
    · subst e
      rw [List.getElem?_set_self hi] at hj
      cases hj
      exact ⟨a, List.getElem?_set_self hiσ, h0, hl⟩
    · rw [List.getElem?_set_ne (Ne.symm e)] at hj
      rw [List.getElem?_set_ne (Ne.symm e)]
      exact R.slot j s hj
  · by_cases ej : j = i
    · subst ej
      by_cases ek : k = j
      · exact ek.symm
      · rw [List.getElem?_set_self hiσ] at e1
        rw [List.getElem?_set_ne (Ne.symm ek)] at e2
        cases e1
        exact absurd e2 (hap k (back k ek hk))
    · by_cases ek : k = i
      · subst ek
        rw [List.getElem?_set_self hiσ] at e2
        rw [List.getElem?_set_ne (Ne.symm ej)] at e1
        cases e2
        exact absurd e1 (hap j (back j ej hj))
      · rw [List.getElem?_set_ne (Ne.symm ej)] at e1
        rw [List.getElem?_set_ne (Ne.symm ek)] at e2
        exact R.apart j k b (back j ej hj) (back k ek hk) e1 e2
end
section
variable {X : Cx} {C : Ct} {pos : Pos} {e : Expr} {st : Stmt} {sts : List Stmt} {f : EF} {g : LF} {s u : SF} {c : BF}
theorem xs_nil : PSs X [] (sOf (kxOf X) C skipS) := pss_wk pss_nil fun Z σ H q => by
  obtain ⟨F, st, w, R, e, q⟩ := q
  cases e
  exact q σ H F (Same.refl _) R
theorem seqS_ok {K : Kx} {Z : Ends} {σ : L2.St} {H : Hp} (q : sOf K C (seqS s u) Z σ H) : tSeq (sOf K C s) (sOf K C u) Z σ H := by
  obtain ⟨F, st, w, R, e, q⟩ := q
  obtain ⟨a, ea, e⟩ := Option.bind_eq_some_iff.mp e
  refine ⟨F, st, a, R, ea, ?_⟩
  obtain ⟨fl, st1⟩ := a
  cases fl with
  | nx =>
    intro σ1 H1 F1 s1 R1
    refine ⟨F1, st1, w, R1, e, ?_⟩
    obtain ⟨fl2, st2⟩ := w
    cases fl2 with
    | nx => exact fun σ2 H2 F2 s2 R2 => q σ2 H2 F2 (s1.trans s2) R2
    | brk => exact fun σ2 H2 F2 s2 R2 => q σ2 H2 F2 (s1.trans s2) R2
    | cont => exact fun σ2 H2 F2 s2 R2 => q σ2 H2 F2 (s1.trans s2) R2
    | ret r => exact RetQ.up q s1
  | brk => cases e; exact q
  | cont => cases e; exact q
  | ret r => cases e; exact q
theorem xs_cons (h1 : PS X st (sOf (kxOf X) C s)) (h2 : PSs X sts (sOf (kxOf X) C u)) : PSs X (st :: sts) (sOf (kxOf X) C (seqS s u)) := pss_wk (pss_cons h1 h2) fun _ _ _ q => seqS_ok q
theorem xs_one (h1 : PS X st (sOf (kxOf X) C s)) : PSs X [st] (sOf (kxOf X) C s) := pss_one h1
theorem xs_ret (he : PE X e (dOf (kxOf X) C f)) : PS X (.Return (some e) pos) (sOf (kxOf X) C (retS f)) := ps_wk (ps_ret he) fun Z σ H q => by
  obtain ⟨F, st, w, R, e, q⟩ := q
  obtain ⟨a, ea, e⟩ := Option.map_eq_some_iff.mp e
  cases e
  exact ⟨F, st, a, R, ea, fun v H1 F1 s1 R1 d1 => q v σ H1 F1 s1 R1 d1⟩
theorem xs_retN (he : PE X e (nOf (kxOf X) C g)) : PS X (.Return (some e) pos) (sOf (kxOf X) C (retN g)) := ps_wk (ps_ret he) fun Z σ H q => by
  obtain ⟨F, st, w, R, e, q⟩ := q
  obtain ⟨a, ea, e⟩ := Option.map_eq_some_iff.mp e
  cases e
  exact ⟨F, st, a, R, ea, fun p vs H1 F1 s1 R1 h0 h1 h2 _ d1 => q _ σ H1 F1 s1 R1 ⟨p, rfl, h0, h1, vs, h2, d1⟩⟩
theorem xs_retM {i : Nat} (he : PE X e (tVar i)) : PS X (.Return (some e) pos) (sOf (kxOf X) C (retM i)) := ps_wk (ps_ret he) fun Z σ H q => by
  obtain ⟨F, st, w, R, e, q⟩ := q
  unfold retM at e
  split at e
  · rename_i xs hx
    cases e
    obtain ⟨a, h1, h2, h3⟩ := R.slot i _ hx
    exact ⟨.ref a, h1, q _ σ H F (Same.refl _) R ⟨a, rfl, h2, h3⟩⟩
  · rename_i d hd
    cases e
    obtain ⟨v, h1, h2⟩ := R.slot i _ hd
    exact ⟨v, h1, q _ σ H F (Same.refl _) R h2⟩
  · cases e
theorem xs_drop (he : PE X e (dOf (kxOf X) C f)) (hs : swapsWith e none pos.line X.env = pure false := by rfl) : PS X (.Expr e pos) (sOf (kxOf X) C (dropS f)) := ps_wk (ps_expr he hs) fun Z σ H q => by
  obtain ⟨F, st, w, R, e, q⟩ := q
  obtain ⟨a, ea, e⟩ := Option.map_eq_some_iff.mp e
  cases e
  exact ⟨F, st, a, R, ea, fun v H1 F1 s1 R1 d1 => q σ H1 F1 s1 R1⟩
theorem xs_if {t : Expr} {a b : List Stmt} (hc : PT X t (bOf (kxOf X) C c)) (ha : PSs X a (sOf (kxOf X) C s)) (hb : PSs X b (sOf (kxOf X) C u)) : PS X (.If t a b pos) (sOf (kxOf X) C (ifS c s u)) := ps_wk (ps_if hc ha hb) fun Z σ H q => by
  obtain ⟨F, st, w, R, e, q⟩ := q
  obtain ⟨a, ea, e⟩ := Option.bind_eq_some_iff.mp e
  refine ⟨F, st, a, R, ea, fun H1 F1 s1 R1 => ?_⟩
  have fin : ∀ g : SF, g a.2 = some w → sOf (kxOf X) C g Z σ H1 := fun g eg => by
    refine ⟨F1, a.2, w, R1, eg, ?_⟩
    obtain ⟨fl2, st2⟩ := w
    cases fl2 with
    | nx => exact fun σ2 H2 F2 s2 R2 => q σ2 H2 F2 (s1.trans s2) R2
    | brk => exact fun σ2 H2 F2 s2 R2 => q σ2 H2 F2 (s1.trans s2) R2
    | cont => exact fun σ2 H2 F2 s2 R2 => q σ2 H2 F2 (s1.trans s2) R2
    | ret r => exact RetQ.up q s1
  dsimp only
  split
  · rename_i h
    rw [if_pos h] at e
    exact fin s e
  · rename_i h
    rw [if_neg h] at e
    exact fin u e
theorem xs_set {i : Nat} {x : Str} {pos' : Pos} (hN : X.N.Nodup) (he : PE X e (dOf (kxOf X) C f)) (hi : X.N[i]? = some x) (hx : Loc X.env.scope x) (hs : swapsWith e (some (.Name x pos')) pos.line X.env = pure false := by rfl) (hf : X.fn x = true ∨ X.env.scope.names.lookup x = some .local := by first | exact .inl rfl | exact .inr rfl | assumption) :
    PS X (.Assign [.Name x pos'] e pos) (sOf (kxOf X) C (asgS i f)) := ps_wk (ps_set hN hi hx he hs hf) fun Z σ H q => by
  obtain ⟨F, st, w, R, e, q⟩ := q
  obtain ⟨a, ea, e⟩ := Option.bind_eq_some_iff.mp e
  obtain ⟨st', es, e⟩ := Option.map_eq_some_iff.mp e
  cases e
  exact ⟨F, st, a, R, ea, fun v H1 F1 s1 R1 d1 => q _ H1 F1 s1 (R1.setD es d1)⟩
theorem xs_setN {i : Nat} {x : Str} {pos' : Pos} (hN : X.N.Nodup) (he : PE X e (nOf (kxOf X) C g)) (hi : X.N[i]? = some x) (hx : Loc X.env.scope x) (hs : swapsWith e (some (.Name x pos')) pos.line X.env = pure false := by rfl) (hf : X.fn x = true ∨ X.env.scope.names.lookup x = some .local := by first | exact .inl rfl | exact .inr rfl | assumption) :
    PS X (.Assign [.Name x pos'] e pos) (sOf (kxOf X) C (asgN i g)) := ps_wk (ps_set hN hi hx he hs hf) fun Z σ H q => by
  obtain ⟨F, st, w, R, e, q⟩ := q
  obtain ⟨a, ea, e⟩ := Option.bind_eq_some_iff.mp e
  obtain ⟨st', es, e⟩ := Option.map_eq_some_iff.mp e
  cases e
  exact ⟨F, st, a, R, ea, fun p vs H1 F1 s1 R1 h0 h1 h2 h3 d1 => q _ H1 F1 s1 (R1.setO es h0 ⟨h1, vs, h2, d1⟩ h3)⟩
end
end Xm
set_option Elab.async false
set_option linter.all false
set_option maxRecDepth 100000
namespace Xm
open PySem PySem.Spec PyProof.Rows L2
structure ItOk (K : Kx) (F : Hp) (J : It) (ds : List D) : Prop where
  go : ∀ i H, i < ds.length → Same F H → J.go i H
  stop : ∀ H, Same F H → J.stop ds.length H
  yld : ∀ i H x H' d, ds[i]? = some d → Same F H → J.yld i H x H' → ∃ G : Hp, (∀ a o, G a = some o → H' a = some o ∧ H a = none) ∧ Same H H' ∧ ∀ F1, Same F F1 → Same G F1 → Dp K F1 x d
def over (G F : Hp) : Hp := fun a => match F a with
  | some o => some o
  | none => G a
theorem over_gr {G F H H' : Hp} (fh : Same F H) (hg : ∀ a o, G a = some o → H' a = some o ∧ H a = none) (hh : Same H H') : Gr F H (over G F) H' ∧ Same G (over G F) := by
  refine ⟨⟨fun a o e => ?_, fun a o e => ?_, hh, fun a e => ?_⟩, fun a o e => ?_⟩
  · unfold over; rw [e]
  · unfold over at e
    split at e
    · rename_i u hu
      cases e
      exact hh _ _ (fh _ _ hu)
    · exact (hg a o e).1
  · unfold over at e
    split at e
    · rename_i u hu
      exact .inl (by rw [hu]; simp)
    · cases q : G a with
      | none => exact absurd q e
      | some o => exact .inr (hg a o q).2
  · unfold over
    have := (hg a o e).2
    rw [fh.free this]
    exact e
def iOf (K : Kx) (C : Ct) (f : LF) : TI := fun σ H R => ∃ F st r, Rel K C F st σ H ∧ f st = some r ∧ ∀ J H' F', Same F F' → Rel K C F' r.2 σ H' → ItOk K F' J r.1 → R J H'
def itD (f : EF) : LF := fun st => (f st).bind fun a => match a.1 with
  | .list xs => some (xs, a.2)
  | .tuple xs => some (xs, a.2)
  | _ => none
theorem itl_ok {K : Kx} {F : Hp} {a : Addr} {vs : List V} {ds : List D} (hs : SqL K.K F a vs) (hv : DpAll K F vs ds) : ItOk K F (Itl K.K a) ds where
  go := fun i H hi e => ⟨vs, vs[i]'(by rw [DpAll_len hv]; exact hi), sql_up e hs, by simp⟩
  stop := fun H e => ⟨vs, sql_up e hs, by rw [DpAll_len hv]; exact Nat.le_refl _⟩
  yld := fun i H x H' d hd e y => by
    obtain ⟨rfl, y⟩ := y
    obtain ⟨v, h1, h2⟩ := DpAll_get hv hd
    have := y vs (sql_up e hs)
    rw [h1] at this
    cases this
    exact ⟨fun _ => none, fun _ _ z => (nomatch z), Same.refl _, fun F1 s1 _ => Dp_up h2 s1⟩
theorem itt_ok {K : Kx} {F : Hp} {a : Addr} {vs : List V} {ds : List D} (hs : SqT K.K F a vs) (hv : DpAll K F vs ds) : ItOk K F (Itt K.K a) ds where
  go := fun i H hi e => ⟨vs, vs[i]'(by rw [DpAll_len hv]; exact hi), sqt_up e hs, by simp⟩
  stop := fun H e => ⟨vs, sqt_up e hs, by rw [DpAll_len hv]; exact Nat.le_refl _⟩
  yld := fun i H x H' d hd e y => by
    obtain ⟨rfl, y⟩ := y
    obtain ⟨v, h1, h2⟩ := DpAll_get hv hd
    have := y vs (sqt_up e hs)
    rw [h1] at this
    cases this
    exact ⟨fun _ => none, fun _ _ z => (nomatch z), Same.refl _, fun F1 s1 _ => Dp_up h2 s1⟩
theorem itr_ok {K : Kx} {F : Hp} {lo : Int} {n : Nat} : ItOk K F (Itr lo n) ((List.range n).map fun (k : Nat) => .int (lo + (k : Int))) where
  go := fun i H hi _ => by
    have : i < n := by simpa using hi
    exact this
  stop := fun H _ => by show n ≤ _; simp
  yld := fun i H x H' d hd _ y => by
    obtain ⟨rfl, rfl⟩ := y
    rw [List.getElem?_map] at hd
    obtain ⟨k, hk, rfl⟩ := Option.map_eq_some_iff.mp hd
    have hk2 : k = i := by
      rw [List.getElem?_range (by
        have := (List.getElem?_eq_some_iff.mp hk).1
        simpa using this)] at hk
      exact (Option.some.inj hk).symm
    subst hk2
    exact ⟨fun _ => none, fun _ _ z => (nomatch z), Same.refl _, fun F1 _ _ => .int _⟩
def rngD (lo hi : Int) : List D := (List.range (hi - lo).toNat).map fun (k : Nat) => .int (lo + (k : Int))
def itR1 (f : EF) : LF := fun st => (f st).bind fun a => match a.1 with
  | .int j => if -(2 ^ 62) ≤ j ∧ j < 2 ^ 62 then some (rngD 0 j, a.2) else none
  | _ => none
section
variable {X : Cx} {C : Ct} {pos p : Pos} {tg e a b : Expr} {f g : EF}
def iSeq (K : Kx) (tl : TE) : TI := fun σ H R => tl σ H fun x H1 => ∃ a, x = .ref a ∧ ((∃ xs, SqL K.K H1 a xs) ∧ R (Itl K.K a) H1 ∨ (∃ xs, SqT K.K H1 a xs) ∧ R (Itt K.K a) H1)
theorem xi_seq0 {l : Expr} {tl : TE} (hl : PE X l tl) : PI X tg l (iSeq (kxOf X) tl) := by
  refine ⟨fun pins s σ H R I h => ?_⟩
  refine thn (hl.run pins s σ H _ I h) fun v s1 ⟨x, H1, I1, r1, a, ex, q1⟩ => ?_
  subst ex
  cases r1
  rcases q1 with ⟨⟨xs, hq⟩, q⟩ | ⟨⟨xs, hq⟩, q⟩
  · obtain ⟨its, rv, pl, hz⟩ := I1.list hq
    refine wpAny_pyIter_list pl.isList ?_
    refine ⟨s1.heap.objs.size, [s1.heap.objs.size], _, _, H1, rfl, I1.kept (t' := s1.toks) fun b o e => Heap.get?_push_of_some _ e, turn_list a _, ⟨_, Heap.get?_push_size _ rfl, rfl, rfl⟩, fun b hb => ?_, q⟩
    obtain rfl : b = s1.heap.objs.size := by simpa using hb
    exact I1.fpOk (Nat.le_refl _) (I1.hok.fresh (Nat.le_refl _))
  · obtain ⟨its, rv, pl, hz⟩ := I1.tuple hq
    refine wpAny_pyIter_tuple (show s1.heap.IsTuple a its.toArray from pl) ?_
    refine ⟨s1.heap.objs.size, [s1.heap.objs.size], _, _, H1, rfl, I1.kept (t' := s1.toks) fun b o e => Heap.get?_push_of_some _ e, turn_tuple a _, ⟨_, Heap.get?_push_size _ rfl, rfl, rfl⟩, fun b hb => ?_, q⟩
    obtain rfl : b = s1.heap.objs.size := by simpa using hb
    exact I1.fpOk (Nat.le_refl _) (I1.hok.fresh (Nat.le_refl _))
theorem xi_seq (h : PE X e (dOf (kxOf X) C f)) : PI X tg e (iOf (kxOf X) C (itD f)) := pi_wk (xi_seq0 h) fun σ H R q => by
  obtain ⟨F, st, w, Rl, ew, q⟩ := q
  obtain ⟨a, ea, ew⟩ := Option.bind_eq_some_iff.mp ew
  refine ⟨F, st, a, Rl, ea, fun v H1 F1 s1 R1 d1 => ?_⟩
  split at ew
  · rename_i xs hx
    cases ew
    rw [hx] at d1
    cases d1 with
    | lst hs hv => exact ⟨_, rfl, .inl ⟨⟨_, sql_up R1.fh hs⟩, q _ H1 F1 s1 R1 (itl_ok hs hv)⟩⟩
  · rename_i xs hx
    cases ew
    rw [hx] at d1
    cases d1 with
    | tup hs hv => exact ⟨_, rfl, .inr ⟨⟨_, sqt_up R1.fh hs⟩, q _ H1 F1 s1 R1 (itt_ok hs hv)⟩⟩
  · cases ew
theorem xi_range1 (hm : X.mg "range" = none) (ha : PE X a (dOf (kxOf X) C f)) (hg : Gl X "range" := by rfl) (hs : starEach [a] X.env = [(false, eval a X.env)] := by rfl) : PI X tg (.Call (.Name "range" p) [a] [] pos) (iOf (kxOf X) C (itR1 f)) :=
  pi_wk (pi_range1 hg hm (pa_cons ha pa_nil hs) hs) fun σ H R q => by
    obtain ⟨F, st, w, Rl, ew, q⟩ := q
    obtain ⟨a, ea, ew⟩ := Option.bind_eq_some_iff.mp ew
    refine ⟨F, st, a, Rl, ea, fun v H1 F1 s1 R1 d1 => ?_⟩
    split at ew
    · rename_i j hj
      split at ew
      · rename_i hb
        cases ew
        rw [hj] at d1
        refine ⟨j, by rw [dp_int d1], hb.1, hb.2, ?_⟩
        have z := q (Itr 0 j.toNat) H1 F1 s1 R1 (by
          unfold rngD
          rw [Int.sub_zero]
          exact itr_ok)
        exact z
      · cases ew
    · cases ew
end
def nilT : List D → AS → Option AS := fun ds st => match ds with
  | [] => some st
  | _ => none
def consT (u : D → AS → Option AS) (w : List D → AS → Option AS) : List D → AS → Option AS := fun ds st => match ds with
  | d :: r => (u d st).bind fun st' => w r st'
  | [] => none
def tupT (n : Nat) (w : List D → AS → Option AS) : D → AS → Option AS := fun d st => match d with
  | .tuple ds => if ds.length = n then w ds st else none
  | _ => none
def gsOf (K : Kx) (C : Ct) (u : List D → AS → Option AS) (ts : List Nat) : TGs := fun vs σ H Q => ∃ F st ds st', Rel K C F st σ H ∧ DpAll K F vs ds ∧ u ds st = some st' ∧ ∀ σ' H' F', Same F F' → Rel K C F' st' σ' H' → σ'.length = σ.length → (∀ j, j ∉ ts → σ'[j]? = σ[j]?) → Q σ' H'
section
variable {X : Cx} {C : Ct} {pos p : Pos} {e : Expr} {es : List Expr}
theorem pgs_wk {t t' : TGs} (h : PGs X es t) (w : ∀ v σ H Q, t' v σ H Q → t v σ H Q) : PGs X es t' := ⟨fun pins s σ H v u Q I r q => h.run pins s σ H v u Q I r (w v σ H Q q)⟩
theorem xg_name {i : Nat} {x : Str} (hN : X.N.Nodup) (hi : X.N[i]? = some x) (hx : Loc X.env.scope x) (hf : X.fn x = true ∨ X.env.scope.names.lookup x = some .local := by first | exact .inl rfl | exact .inr rfl | assumption) : PG X (.Name x pos) (gOf (kxOf X) C (setD i) [i]) :=
  pg_wk (pg_name hN hi hx hf) fun v σ H Q q => by
    obtain ⟨F, st, d, st', R, hd, e, q⟩ := q
    exact q _ H F (Same.refl _) (R.setD e hd) (List.length_set ..) fun j hj => List.getElem?_set_ne fun z => hj (by simp [z])
theorem xg_nil : PGs X [] (gsOf (kxOf X) C nilT []) := pgs_wk pgs_nil fun v σ H Q q => by
  obtain ⟨F, st, ds, st', R, hd, e, q⟩ := q
  unfold nilT at e
  split at e <;> cases e
  cases hd
  exact ⟨rfl, q σ H F (Same.refl _) R rfl fun _ _ => rfl⟩
theorem xg_cons {ts ts' : List Nat} {u : D → AS → Option AS} {w : List D → AS → Option AS} (h1 : PG X e (gOf (kxOf X) C u ts)) (h2 : PGs X es (gsOf (kxOf X) C w ts')) (hs : (assignEach (e :: es) X.env).map (·.2) = assign e X.env :: (assignEach es X.env).map (·.2) := by rfl) : PGs X (e :: es) (gsOf (kxOf X) C (consT u w) (ts ++ ts')) :=
  pgs_wk (pgs_cons h1 h2 hs) fun v σ H Q q => by
    obtain ⟨F, st, ds, st', R, hd, e, q⟩ := q
    unfold consT at e
    split at e
    · rename_i d r
      obtain ⟨st1, e1, e2⟩ := Option.bind_eq_some_iff.mp e
      cases hd with
      | cons hd1 hd2 => exact ⟨_, _, rfl, F, st, d, st1, R, hd1, e1, fun σ1 H1 F1 s1 R1 l1 k1 => ⟨F1, st1, r, st', R1, DpAll_up hd2 s1, e2, fun σ2 H2 F2 s2 R2 l2 k2 => q σ2 H2 F2 (s1.trans s2) R2 (l2.trans l1) fun j hj => by
        rw [List.mem_append] at hj
        rw [k2 j fun z => hj (.inr z), k1 j fun z => hj (.inl z)]⟩⟩
    · cases e
theorem xg_tup {k n : Nat} {ts : List Nat} {w : List D → AS → Option AS} (h : PGs X es (gsOf (kxOf X) C w ts)) (hc : X.calm = true := by rfl)
    (hn : (assignEach es X.env).length = n := by rfl) (hst : (assignEach es X.env).findIdx? (·.1) = none := by rfl) : PG X (.Tuple es k pos) (gOf (kxOf X) C (tupT n w) ts) :=
  pg_wk (pg_tup hc h hn hst) fun v σ H Q q => by
    obtain ⟨F, st, d, st', R, hd, e, q⟩ := q
    unfold tupT at e
    split at e
    · split at e
      · rename_i ds hl
        cases hd with
        | tup hs hv => exact ⟨_, _, rfl, sqt_up R.fh hs, by rw [DpAll_len hv]; exact hl, F, st, ds, st', R, hv, e, q⟩
      · cases e
    · cases e
end
def loopS (u : D → AS → Option AS) (b : SF) : List D → AS → Option (Fl × AS)
  | [], st => some (.nx, st)
  | d :: ds, st => (u d st).bind fun st1 => (b st1).bind fun w => match w.1 with
    | .nx => loopS u b ds w.2
    | .cont => loopS u b ds w.2
    | .brk => some (.nx, w.2)
    | .ret r => some (.ret r, w.2)
def forS (it : LF) (u : D → AS → Option AS) (b : SF) : SF := fun st => (it st).bind fun a => loopS u b a.1 a.2
section
variable {X : Cx} {C : Ct} {pos : Pos}
theorem xs_for {ts : List Nat} {tg iter : Expr} {body : List Stmt} {it : LF} {u : D → AS → Option AS} {b : SF} (hp : PassesOwn (model X.prog X.w) X.A X.env X.xe) (hc : X.calm = true) (hi : PI X tg iter (iOf (kxOf X) C it)) (hg : PG X tg (gOf (kxOf X) C u ts)) (hb : PSs X body (sOf (kxOf X) C b))
    (hs : ∀ x, foldedSetIterable iter X.env x = pure x := by intro _; rfl) : PS X (.For tg iter body [] pos) (sOf (kxOf X) C (forS it u b)) := ps_wk (ps_for hp hc hi hg hb hs) fun Z σ H q => by
  obtain ⟨F, st, w, R, e, q⟩ := q
  obtain ⟨a, ea, e⟩ := Option.bind_eq_some_iff.mp e
  refine ⟨F, st, a, R, ea, fun J H1 F1 s1 R1 J1 => ?_⟩
  refine ⟨fun i m σ H => m = a.1.length - i ∧ i ≤ a.1.length ∧ ∃ F2 st2, Same F1 F2 ∧ Rel (kxOf X) C F2 st2 σ H ∧ loopS u b (a.1.drop i) st2 = some w, ⟨a.1.length, by simp, Nat.zero_le _, F1, a.2, Same.refl _, R1, e⟩, ?_⟩
  rintro i m σ2 H2 ⟨rfl, hi, F2, st2, s2, R2, e2⟩
  by_cases hlt : i < a.1.length
  · refine .inr ⟨J1.go i H2 hlt (s2.trans R2.fh), ?_⟩
    have hd : a.1[i]? = some a.1[i] := List.getElem?_eq_getElem hlt
    rw [List.drop_eq_getElem_cons hlt] at e2
    obtain ⟨st3, e3, e4⟩ := Option.bind_eq_some_iff.mp e2
    obtain ⟨v, ev, e5⟩ := Option.bind_eq_some_iff.mp e4
    refine ⟨fun σ' H' => ∃ F4, Same F2 F4 ∧ Rel (kxOf X) C F4 v.2 σ' H' ∧ loopS u b (a.1.drop (i + 1)) v.2 = some w, fun σ' H' ⟨F4, s4, R4, e6⟩ => ⟨a.1.length - (i + 1), by omega, rfl, hlt, F4, v.2, s2.trans s4, R4, e6⟩, fun x H3 hy => ?_⟩
    obtain ⟨G, hG, hh, hx⟩ := J1.yld i H2 x H3 _ hd (s2.trans R2.fh) hy
    obtain ⟨gr, sg⟩ := over_gr R2.fh hG hh
    refine ⟨over G F2, st2, _, st3, R2.grow gr, hx _ (s2.trans gr.ff) sg, e3, fun σ4 H4 F4 s4 R4 _ _ => ?_⟩
    refine ⟨F4, st3, v, R4, ev, ?_⟩
    have up : Same F1 F4 := (s2.trans gr.ff).trans s4
    obtain ⟨fl, st5⟩ := v
    cases fl with
    | nx => exact fun σ5 H5 F5 s5 R5 => ⟨F5, (gr.ff.trans s4).trans s5, R5, e5⟩
    | cont => exact fun σ5 H5 F5 s5 R5 => ⟨F5, (gr.ff.trans s4).trans s5, R5, e5⟩
    | brk =>
      cases e5
      exact fun σ5 H5 F5 s5 R5 => q σ5 H5 F5 ((s1.trans up).trans s5) R5
    | ret r =>
      cases e5
      exact RetQ.up q (s1.trans up)
  · have e3 : i = a.1.length := by omega
    subst e3
    rw [List.drop_length] at e2
    cases e2
    exact .inl ⟨J1.stop H2 (s2.trans R2.fh), q σ2 H2 F2 (s1.trans s2) R2⟩
end
end Xm
set_option Elab.async false
set_option linter.all false
set_option maxRecDepth 100000
namespace Xm
open PySem PySem.Spec PyProof.Rows L2
section
variable {K : Kx} {C : Ct} {F F' H H' : Hp} {st : AS} {σ τ : L2.St}
theorem Rel.freezeO {a : Addr} {o : HO} (R : Rel K C F st σ H) (h0 : C.H0 a = none) (hF : F a = none) (hH : H a = some o) (hap : ∀ j, Mu st j → σ[j]? ≠ some (some (.ref a))) :
    Same F (upd F a o) ∧ Rel K C (upd F a o) st σ H := by
  have hff : Same F (upd F a o) := same_upd hF
  refine ⟨hff, ⟨R.len, R.f0.trans hff, ?_, R.old, ?_, ?_, R.apart, R.penh, R.pent⟩⟩
  · intro b o e
    by_cases hb : b = a
    · subst hb; rw [upd_same] at e; cases e; exact hH
    · rw [upd_ne hb] at e; exact R.fh _ _ e
  · intro b hb0 hb1
    have hb : b ≠ a := fun z => by subst z; exact hb1 h0
    rw [upd_ne hb]
    exact R.new b hb0 hb1
  · intro j s hj
    have q := R.slot j s hj
    cases s with
    | no => trivial
    | dat d => obtain ⟨v, q1, q2⟩ := q; exact ⟨v, q1, Dp_up q2 hff⟩
    | own ys =>
      obtain ⟨b, q1, q2, q3, us, q4, q5⟩ := q
      have hb : b ≠ a := fun z => by subst z; exact hap j ⟨_, hj, rfl⟩ q1
      exact ⟨b, q1, q2, by rw [upd_ne hb]; exact q3, us, q4, DpAll_up q5 hff⟩
    | pen ys =>
      obtain ⟨b, q1, q2, q3, us, q4, q5⟩ := q
      have hb : b ≠ a := fun z => by subst z; exact hap j ⟨_, hj, rfl⟩ q1
      exact ⟨b, q1, q2, by rw [upd_ne hb]; exact q3, us, q4, DpAll_up q5 hff⟩
    | dct kvs =>
      obtain ⟨b, q1, q2, q3, u, q4, q5⟩ := q
      have hb : b ≠ a := fun z => by subst z; exact hap j ⟨_, hj, rfl⟩ q1
      exact ⟨b, q1, q2, by rw [upd_ne hb]; exact q3, u, q4, q5.up hff⟩
    | pdc kvs =>
      obtain ⟨b, q1, q2, q3, u, q4, q5⟩ := q
      have hb : b ≠ a := fun z => by subst z; exact hap j ⟨_, hj, rfl⟩ q1
      exact ⟨b, q1, q2, by rw [upd_ne hb]; exact q3, u, q4, q5.up hff⟩
    | obj o =>
      obtain ⟨b, q1, q2⟩ := q
      exact ⟨b, q1, q2.up hff⟩
theorem Rel.freezeNew {a : Addr} {vs : List V} {xs : List D} (R : Rel K C F st σ H) (h0 : C.H0 a = none) (hF : F a = none) (hH : H a = some (.lst vs)) (hap : ∀ j, Mu st j → σ[j]? ≠ some (some (.ref a))) (hv : DpAll K F vs xs) :
    Same F (upd F a (.lst vs)) ∧ Rel K C (upd F a (.lst vs)) st σ H ∧ Dp K (upd F a (.lst vs)) (.ref a) (.list xs) := by
  obtain ⟨hff, R2⟩ := R.freezeO h0 hF hH hap
  exact ⟨hff, R2, .lst (.inl (.inl upd_same)) (DpAll_up hv hff)⟩
theorem Rel.slots (R : Rel K C F st σ H) (hl : τ.length = σ.length) (h : ∀ i : Nat, st[i]? ≠ some Slot.no → τ[i]? = σ[i]?) : Rel K C F st τ H where
  len := R.len.trans hl.symm
  f0 := R.f0
  fh := R.fh
  old := R.old
  new := R.new
  slot := fun i s e => by
    cases s with
    | no => trivial
    | dat d => rw [h i (by rw [e]; simp)]; exact R.slot i _ e
    | own xs => rw [h i (by rw [e]; simp)]; exact R.slot i _ e
    | pen xs => rw [h i (by rw [e]; simp)]; exact R.slot i _ e
    | dct xs => rw [h i (by rw [e]; simp)]; exact R.slot i _ e
    | pdc xs => rw [h i (by rw [e]; simp)]; exact R.slot i _ e
    | obj o => rw [h i (by rw [e]; simp)]; exact R.slot i _ e
  apart := fun i j a hi hj e1 e2 => by
    have nn : ∀ k : Nat, Mu st k → st[k]? ≠ some Slot.no := fun k hk z => by
      obtain ⟨s, e, m⟩ := hk
      rw [z] at e
      cases e
      cases m
    rw [h i (nn i hi)] at e1
    rw [h j (nn j hj)] at e2
    exact R.apart i j a hi hj e1 e2
  penh := R.penh
  pent := R.pent
theorem wipe_get {vs : List Nat} {i : Nat} : (wipe σ vs)[i]? = if i ∈ vs ∧ i < σ.length then some none else σ[i]? := by
  induction vs with
  | nil => simp [wipe]
  | cons v vs ih =>
    unfold wipe
    by_cases e : v = i
    · subst e
      by_cases hv : v < σ.length
      · rw [List.getElem?_set_self (by rw [wipe_length]; exact hv), if_pos ⟨by simp, hv⟩]
      · rw [if_neg (fun z => hv z.2), List.getElem?_eq_none_iff.mpr (by rw [List.length_set, wipe_length]; omega), List.getElem?_eq_none_iff.mpr (by omega)]
    · rw [List.getElem?_set_ne e, ih]
      by_cases hm : i ∈ vs
      · by_cases hi : i < σ.length
        · rw [if_pos ⟨hm, hi⟩, if_pos ⟨by simp [hm], hi⟩]
        · rw [if_neg (fun z => hi z.2), if_neg (fun z => hi z.2)]
      · rw [if_neg (fun z => hm z.1), if_neg (fun z => (List.mem_cons.mp z.1).elim (fun q => e q.symm) hm)]
theorem wipe_eq {vs ts : List Nat} (hl : τ.length = (wipe σ vs).length) (h : ∀ j, j ∉ ts → τ[j]? = (wipe σ vs)[j]?) (hts : ∀ j ∈ ts, j ∈ vs) : wipe τ vs = wipe σ vs := by
  refine List.ext_getElem? fun i => ?_
  rw [wipe_length] at hl
  by_cases hi : i ∈ vs
  · by_cases hb : i < σ.length
    · rw [wipe_get, wipe_get, if_pos ⟨hi, by omega⟩, if_pos ⟨hi, hb⟩]
    · rw [List.getElem?_eq_none_iff.mpr (by rw [wipe_length]; omega), List.getElem?_eq_none_iff.mpr (by rw [wipe_length]; omega)]
  · rw [wipe_get, if_neg (fun z => hi z.1), h i fun z => hi (hts i z)]
abbrev Ct.atO (C : Ct) (D : Addr) (o : HO) : Ct := { C with H0 := upd C.H0 D o }
abbrev Ct.at (C : Ct) (D : Addr) (vs : List V) : Ct := C.atO D (.lst vs)
structure Aside (C : Ct) (F : Hp) (st : AS) (σ : L2.St) (a : Addr) : Prop where
  h0 : C.H0 a = none
  f : F a = none
  pn : C.pen ≠ some a
  ap : ∀ j, Mu st j → σ[j]? ≠ some (some (.ref a))
theorem Rel.into {a : Addr} {u : HO} (R : Rel K C F st σ H) (A : Aside C F st σ a) (hH : H a = some u) : Rel K (C.atO a u) F st σ H where
  len := R.len
  f0 := R.f0
  fh := R.fh
  old := fun b o e hp => by
    by_cases hb : b = a
    · subst hb
      have e' : upd C.H0 b u b = some o := e
      rw [upd_same] at e'
      cases e'
      exact hH
    · have e' : upd C.H0 a u b = some o := e
      rw [upd_ne hb] at e'
      exact R.old b o e' hp
  new := fun b h1 h2 => by
    by_cases hb : b = a
    · subst hb; exact A.f
    · have h2' : upd C.H0 a u b ≠ none := h2
      rw [upd_ne hb] at h2'
      exact R.new b h1 h2'
  slot := fun i s e => by
    have q := R.slot i s e
    cases s with
    | no => trivial
    | dat d => exact q
    | own ys =>
      obtain ⟨b, q1, q2, q3⟩ := q
      have hb : b ≠ a := fun z => by subst z; exact A.ap i (⟨_, e, rfl⟩) q1
      exact ⟨b, q1, (upd_ne hb).trans q2, q3⟩
    | pen ys => exact q
    | pdc ys => exact q
    | obj o => exact q
    | dct ys =>
      obtain ⟨b, q1, q2, q3⟩ := q
      have hb : b ≠ a := fun z => by subst z; exact A.ap i ⟨_, e, rfl⟩ q1
      exact ⟨b, q1, (upd_ne hb).trans q2, q3⟩
  apart := R.apart
  penh := fun p hp => by
    by_cases hb : p = a
    · subst hb; exact absurd hp A.pn
    · show upd C.H0 a u p ≠ none
      rw [upd_ne hb]
      exact R.penh p hp
  pent := R.pent
theorem Rel.outof {a : Addr} {u : HO} (R : Rel K (C.atO a u) F st σ H) (h0 : C.H0 a = none) (hf : C.F0 a = none) (hp : C.pen ≠ some a) : Rel K C F st σ H ∧ Aside C F st σ a ∧ H a = some u := by
  have sa : upd C.H0 a u a = some u := upd_same
  have hF : F a = none := R.new a hf (by show upd C.H0 a u a ≠ none; rw [sa]; simp)
  refine ⟨⟨R.len, R.f0, R.fh, fun b o e hp' => ?_, fun b h1 h2 => ?_, fun i s e => ?_, R.apart, fun p hp' => ?_, R.pent⟩, ⟨h0, hF, hp, fun j hj e => ?_⟩, R.old a _ sa hp⟩
  · have hb : b ≠ a := fun z => by subst z; rw [h0] at e; cases e
    exact R.old b o ((upd_ne hb).trans e) hp'
  · have hb : b ≠ a := fun z => by subst z; exact h2 h0
    exact R.new b h1 (by show upd C.H0 a u b ≠ none; rw [upd_ne hb]; exact h2)
  · have q := R.slot i s e
    cases s with
    | no => trivial
    | dat d => exact q
    | own ys =>
      obtain ⟨b, q1, q2, q3⟩ := q
      have hb : b ≠ a := fun z => by
        subst z
        have q2' : upd C.H0 b u b = none := q2
        rw [upd_same] at q2'
        cases q2'
      exact ⟨b, q1, (upd_ne hb).symm.trans q2, q3⟩
    | pen ys => exact q
    | pdc ys => exact q
    | obj o => exact q
    | dct ys =>
      obtain ⟨b, q1, q2, q3⟩ := q
      have hb : b ≠ a := fun z => by
        subst z
        have q2' : upd C.H0 b u b = none := q2
        rw [upd_same] at q2'
        cases q2'
      exact ⟨b, q1, (upd_ne hb).symm.trans q2, q3⟩
  · have hb : p ≠ a := fun z => by subst z; exact hp hp'
    have q := R.penh p hp'
    have q' : upd C.H0 a u p ≠ none := q
    rw [upd_ne hb] at q'
    exact q'
  · obtain ⟨s, hx, hm⟩ := hj
    have q := R.slot j _ hx
    cases s with
    | no => cases hm
    | dat d => cases hm
    | obj o => cases hm
    | pen xs =>
      obtain ⟨b, q1, q2, q3⟩ := q
      rw [e] at q1
      cases q1
      exact hp q2
    | pdc xs =>
      obtain ⟨b, q1, q2, q3⟩ := q
      rw [e] at q1
      cases q1
      exact hp q2
    | own xs =>
      obtain ⟨b, q1, q2, q3⟩ := q
      rw [e] at q1
      cases q1
      have q2' : upd C.H0 a u a = none := q2
      rw [upd_same] at q2'
      cases q2'
    | dct xs =>
      obtain ⟨b, q1, q2, q3⟩ := q
      rw [e] at q1
      cases q1
      have q2' : upd C.H0 a u a = none := q2
      rw [upd_same] at q2'
      cases q2'
theorem Rel.write {a : Addr} {o : HO} (R : Rel K C F st σ H) (A : Aside C F st σ a) : Rel K C F st σ (upd H a o) where
  len := R.len
  f0 := R.f0
  fh := fun b u e => by
    have hb : b ≠ a := fun z => by subst z; rw [A.f] at e; cases e
    rw [upd_ne hb]; exact R.fh b u e
  old := fun b u e hp => by
    have hb : b ≠ a := fun z => by subst z; rw [A.h0] at e; cases e
    rw [upd_ne hb]; exact R.old b u e hp
  new := R.new
  slot := fun i s e => by
    have q := R.slot i s e
    cases s with
    | no => trivial
    | dat d => exact q
    | own ys =>
      obtain ⟨b, q1, q2, q3, us, q4, q5⟩ := q
      have hb : b ≠ a := fun z => by subst z; exact A.ap i (⟨_, e, rfl⟩) q1
      exact ⟨b, q1, q2, q3, us, by rw [upd_ne hb]; exact q4, q5⟩
    | pen ys =>
      obtain ⟨b, q1, q2, q3, us, q4, q5⟩ := q
      have hb : b ≠ a := fun z => by subst z; exact A.ap i (⟨_, e, rfl⟩) q1
      exact ⟨b, q1, q2, q3, us, by rw [upd_ne hb]; exact q4, q5⟩
    | dct ys =>
      obtain ⟨b, q1, q2, q3, us, q4, q5⟩ := q
      have hb : b ≠ a := fun z => by subst z; exact A.ap i ⟨_, e, rfl⟩ q1
      exact ⟨b, q1, q2, q3, us, by rw [upd_ne hb]; exact q4, q5⟩
    | pdc ys =>
      obtain ⟨b, q1, q2, q3, us, q4, q5⟩ := q
      have hb : b ≠ a := fun z => by subst z; exact A.ap i ⟨_, e, rfl⟩ q1
      exact ⟨b, q1, q2, q3, us, by rw [upd_ne hb]; exact q4, q5⟩
    | obj o => exact q
  apart := R.apart
  penh := R.penh
  pent := fun p hp => by
    by_cases hb : p = a
    · subst hb; rw [upd_same]; simp
    · rw [upd_ne hb]; exact R.pent p hp
theorem Rel.aside {a : Addr} (R : Rel K C F st σ H) (h : H a = none) : Aside C F st σ a ∧ C.F0 a = none := by
  have hF : F a = none := R.fh.free h
  have hpn : C.pen ≠ some a := fun z => R.pent a z h
  refine ⟨⟨?_, hF, hpn, fun j hj e => ?_⟩, R.f0.free hF⟩
  · cases q : C.H0 a with
    | none => rfl
    | some o => rw [R.old a o q hpn] at h; cases h
  · obtain ⟨s, hx, hm⟩ := hj
    have q := R.slot j _ hx
    cases s with
    | no => cases hm
    | dat d => cases hm
    | obj o => cases hm
    | own xs =>
      obtain ⟨b, q1, q2, q3, us, q4, q5⟩ := q
      rw [e] at q1
      cases q1
      rw [h] at q4; cases q4
    | pen xs =>
      obtain ⟨b, q1, q2, q3, us, q4, q5⟩ := q
      rw [e] at q1
      cases q1
      rw [h] at q4; cases q4
    | dct xs =>
      obtain ⟨b, q1, q2, q3, us, q4, q5⟩ := q
      rw [e] at q1
      cases q1
      rw [h] at q4; cases q4
    | pdc xs =>
      obtain ⟨b, q1, q2, q3, us, q4, q5⟩ := q
      rw [e] at q1
      cases q1
      rw [h] at q4; cases q4
end
def listE (g : LF) : EF := fun st => (g st).map fun a => (.list a.1, a.2)
section
variable {X : Cx} {C : Ct} {pos : Pos} {e : Expr} {es : List Expr} {g : LF}
theorem xd_new (h : PE X e (nOf (kxOf X) C g)) : PE X e (dOf (kxOf X) C (listE g)) := pe_wk h fun σ H Q q => by
  obtain ⟨F, st, w, R, e, q⟩ := q
  obtain ⟨a, ea, e⟩ := Option.map_eq_some_iff.mp e
  cases e
  refine ⟨F, st, a, R, ea, fun p vs H1 F1 s1 R1 h0 h1 h2 h3 d1 => ?_⟩
  obtain ⟨k1, k2, k3⟩ := R1.freezeNew h0 h1 h2 h3 d1
  exact q _ H1 _ (s1.trans k1) k2 k3
theorem xn_lst (h : PA X es (aOf (kxOf X) C g)) : PE X (.List es pos) (nOf (kxOf X) C (newF g)) := pe_wk (pe_lst h) fun σ H Q q => by
  obtain ⟨F, st, w, R, e, q⟩ := q
  obtain ⟨b, eb, e⟩ := Option.bind_eq_some_iff.mp e
  split at e <;> cases e
  rename_i hl
  refine ⟨F, st, w, R, eb, fun vs H1 F1 s1 R1 d1 => ⟨by rw [DpAll_len d1]; exact hl, fun p hp => ?_⟩⟩
  obtain ⟨A, hf⟩ := R1.aside hp
  exact q p vs _ F1 s1 (R1.write A) A.h0 A.f upd_same A.ap d1
end
def clr (st : AS) : List Nat → AS
  | [] => st
  | v :: vs => (clr st vs).set v .no
theorem clr_len (st : AS) : ∀ vs, (clr st vs).length = st.length
  | [] => rfl
  | v :: vs => by unfold clr; rw [List.length_set, clr_len]
theorem clr_get {st : AS} {vs : List Nat} {i : Nat} : (clr st vs)[i]? = if i ∈ vs ∧ i < st.length then some .no else st[i]? := by
  induction vs with
  | nil => simp [clr]
  | cons v vs ih =>
    unfold clr
    by_cases e : v = i
    · subst e
      by_cases hv : v < st.length
      · rw [List.getElem?_set_self (by rw [clr_len]; exact hv), if_pos ⟨by simp, hv⟩]
      · rw [if_neg (fun z => hv z.2), List.getElem?_eq_none_iff.mpr (by rw [List.length_set, clr_len]; omega), List.getElem?_eq_none_iff.mpr (by omega)]
    · rw [List.getElem?_set_ne e, ih]
      by_cases hm : i ∈ vs
      · by_cases hi : i < st.length
        · rw [if_pos ⟨hm, hi⟩, if_pos ⟨by simp [hm], hi⟩]
        · rw [if_neg (fun z => hi z.2), if_neg (fun z => hi z.2)]
      · rw [if_neg (fun z => hm z.1), if_neg (fun z => (List.mem_cons.mp z.1).elim (fun q => e q.symm) hm)]
def noS : Option Slot → Bool
  | some .no => true
  | _ => false
def allNo (st : AS) (vs : List Nat) : Bool := vs.all fun i => noS st[i]?
theorem allNo_iff {st : AS} {vs : List Nat} (h : allNo st vs = true) : ∀ i ∈ vs, st[i]? = some Slot.no := fun i hi => by
  have q := List.all_eq_true.mp h i hi
  unfold noS at q
  split at q
  · assumption
  · cases q
def yesB : BF := fun st => some (true, st)
def compL (u : D → AS → Option AS) (tt : BF) (te : EF) (vs : List Nat) : List D → AS → Option (List D × AS)
  | [], st => some ([], st)
  | d :: ds, st => (u d st).bind fun st1 => (tt st1).bind fun c => if c.1 = true then (te c.2).bind fun x => (compL u tt te vs ds (clr x.2 vs)).map fun r => (x.1 :: r.1, r.2)
    else compL u tt te vs ds (clr c.2 vs)
def compF (it : LF) (u : D → AS → Option AS) (tt : BF) (te : EF) (vs : List Nat) : LF := fun st => (it st).bind fun a => if allNo a.2 vs = true ∧ a.1.length ≤ sizeLine then compL u tt te vs a.1 a.2 else none
section
variable {X : Cx} {C : Ct} {pos : Pos}
theorem Rel.clr {K : Kx} {C : Ct} {F H : Hp} {st : AS} {σ : L2.St} {vs : List Nat} (R : Rel K C F st σ H) : Rel K C F (Xm.clr st vs) (wipe σ vs) H := by
  have R1 : Rel K C F (Xm.clr st vs) σ H := rel_mono_slots R (clr_len st vs) fun i s e => by
    rw [clr_get] at e
    split at e
    · cases e; exact .inl rfl
    · exact .inr e
  refine R1.slots (wipe_length σ vs) fun i hi => ?_
  rw [wipe_get, if_neg]
  rintro ⟨z1, z2⟩
  exact hi (by rw [clr_get, if_pos ⟨z1, by rw [R.len]; exact z2⟩])
theorem lc_ok {K : Kx} {it : LF} {u : D → AS → Option AS} {ts : List Nat} {tt : BF} {te : EF} {vs : List Nat} {σ : L2.St} {H : Hp} {Q : VK} (hts : ∀ j ∈ ts, j ∈ vs)
    (hg : TG) (ht : TT) (he : TE) (kg : ∀ C v σ H Q, gOf K C u ts v σ H Q → hg v σ H Q) (kt : ∀ C σ H Q, bOf K C tt σ H Q → ht σ H Q) (ke : ∀ C σ H Q, dOf K C te σ H Q → he σ H Q)
    (q : nOf K C (compF it u tt te vs) σ H Q) : tLc (iOf K C it) hg ht he vs σ H Q := by
  obtain ⟨F, st, w, R, e, q⟩ := q
  obtain ⟨a, ea, e⟩ := Option.bind_eq_some_iff.mp e
  split at e
  · rename_i hno
    obtain ⟨hno, hlen⟩ := hno
    have hno' := allNo_iff hno
    refine ⟨F, st, a, R, ea, fun J H1 F1 s1 R1 J1 => fun Dd hD => ?_⟩
    obtain ⟨A1, hF0⟩ := R1.aside hD
    have Rw : ∀ {F2 st2 H2}, Rel K C F2 st2 σ H2 → (∀ i ∈ vs, st2[i]? = some Slot.no) → Rel K C F2 st2 (wipe σ vs) H2 := fun R2 hn => R2.slots (wipe_length σ vs) fun i hi => by
      rw [wipe_get, if_neg]
      rintro ⟨z1, z2⟩
      exact hi (hn i z1)
    have apW : ∀ {st2 : AS}, (∀ j, Mu st2 j → σ[j]? ≠ some (some (.ref Dd))) → ∀ j, Mu st2 j → (wipe σ vs)[j]? ≠ some (some (.ref Dd)) := fun h j hj z => by
      rw [wipe_get] at z
      split at z
      · cases z
      · exact h j hj z
    refine ⟨fun i m H => m = a.1.length - i ∧ i ≤ a.1.length ∧ ∃ F2 st2 vsa dsa rest, Same F1 F2 ∧ Rel K C F2 st2 (wipe σ vs) H ∧ H Dd = some (.lst vsa) ∧ Aside C F2 st2 (wipe σ vs) Dd ∧ DpAll K F2 vsa dsa ∧ dsa.length ≤ i ∧
      (∀ i ∈ vs, st2[i]? = some Slot.no) ∧ compL u tt te vs (a.1.drop i) st2 = some (rest, w.2) ∧ dsa ++ rest = w.1,
      ⟨a.1.length, by simp, Nat.zero_le _, F1, a.2, [], [], w.1, Same.refl _, Rw (R1.write A1) hno', upd_same, ⟨A1.h0, A1.f, A1.pn, apW A1.ap⟩, .nil, Nat.le_refl _, hno', e, rfl⟩, ?_⟩
    rintro i m H2 ⟨rfl, hi, F2, st2, vsa, dsa, rest, s2, R2, h2, A2, d2, hl2, n2, e2, w2⟩
    by_cases hlt : i < a.1.length
    · refine .inr ⟨J1.go i H2 hlt (s2.trans R2.fh), ?_⟩
      have hd : a.1[i]? = some a.1[i] := List.getElem?_eq_getElem hlt
      rw [List.drop_eq_getElem_cons hlt] at e2
      obtain ⟨st3, e3, e4⟩ := Option.bind_eq_some_iff.mp e2
      obtain ⟨c, ec, e5⟩ := Option.bind_eq_some_iff.mp e4
      refine ⟨fun H' => ∃ F4 st4 vsb dsb rest, Same F1 F4 ∧ Rel K C F4 st4 (wipe σ vs) H' ∧ H' Dd = some (.lst vsb) ∧ Aside C F4 st4 (wipe σ vs) Dd ∧ DpAll K F4 vsb dsb ∧ dsb.length ≤ i + 1 ∧
        (∀ i ∈ vs, st4[i]? = some Slot.no) ∧ compL u tt te vs (a.1.drop (i + 1)) st4 = some (rest, w.2) ∧ dsb ++ rest = w.1, fun H' ⟨F4, st4, vsb, dsb, rest, k⟩ => ⟨a.1.length - (i + 1), by omega, rfl, hlt, F4, st4, vsb, dsb, rest, k⟩, fun x H3 hy => ?_⟩
      obtain ⟨G, hG, hh, hx⟩ := J1.yld i H2 x H3 _ hd (s2.trans R2.fh) hy
      obtain ⟨gr, sg⟩ := over_gr R2.fh hG hh
      have R3 := (R2.into A2 h2).grow gr
      refine kg (C.at Dd vsa) x (wipe σ vs) H3 _ ⟨over G F2, st2, _, st3, R3, hx _ (s2.trans gr.ff) sg, e3, fun σ4 H4 F4 s4 R4 l4 k4 => ⟨wipe_eq l4 k4 hts, ?_⟩⟩
      have up4 : Same F1 F4 := (s2.trans gr.ff).trans s4
      have w4 : wipe σ4 vs = wipe σ vs := wipe_eq l4 k4 hts
      have no_of : ∀ (stx : AS), stx.length = σ4.length → ∀ j ∈ vs, (Xm.clr stx vs)[j]? = some Slot.no := fun stx hlx j hj => by
        rw [clr_get, if_pos]
        refine ⟨hj, ?_⟩
        have z := (List.getElem?_eq_some_iff.mp (n2 j hj)).1
        have z2 := R2.len
        rw [hlx, l4]
        omega
      refine kt (C.at Dd vsa) σ4 H4 _ ⟨F4, st3, c, R4, ec, fun H5 F5 s5 R5 => ?_⟩
      have up5 : Same F1 F5 := up4.trans s5
      have u25 : Same F2 F5 := (gr.ff.trans s4).trans s5
      dsimp only
      split
      · rename_i hc
        rw [if_pos hc] at e5
        obtain ⟨y, ey, e6⟩ := Option.bind_eq_some_iff.mp e5
        obtain ⟨r, er, e7⟩ := Option.map_eq_some_iff.mp e6
        obtain ⟨e8, e9⟩ := Prod.mk.inj e7
        subst e8
        have er : compL u tt te vs (a.1.drop (i + 1)) (Xm.clr y.2 vs) = some (r.1, w.2) := by rw [er, ← e9]
        refine ke (C.at Dd vsa) σ4 H5 _ ⟨F5, c.2, y, R5, ey, fun yv H6 F6 s6 R6 dy => ?_⟩
        obtain ⟨R7, A7, h7⟩ := R6.outof A1.h0 hF0 A1.pn
        refine ⟨vsa, h7, by rw [DpAll_len d2]; exact Nat.lt_of_le_of_lt hl2 (Nat.lt_of_lt_of_le hlt hlen), ?_⟩
        have R8 := (R7.write (o := .lst (vsa ++ [yv])) A7).clr (vs := vs)
        rw [w4] at R8
        refine ⟨F6, Xm.clr y.2 vs, vsa ++ [yv], dsa ++ [y.1], r.1, up5.trans s6, R8, upd_same, ⟨A7.h0, A7.f, A7.pn, fun j hj z => ?_⟩, DpAll_app (DpAll_up d2 (u25.trans s6)) (.cons dy .nil), by rw [List.length_append, List.length_singleton]; omega, no_of _ R6.len, er, by rw [List.append_assoc]; exact w2⟩
        rw [← w4, wipe_get] at z
        split at z
        · cases z
        · rename_i hz
          refine A7.ap j ?_ z
          unfold Mu at hj ⊢
          have hlx := R6.len
          rw [clr_get, if_neg (fun q => hz ⟨q.1, by omega⟩)] at hj
          exact hj
      · rename_i hc
        rw [if_neg hc] at e5
        obtain ⟨R7, A7, h7⟩ := R5.outof A1.h0 hF0 A1.pn
        have R8 := R7.clr (vs := vs)
        rw [w4] at R8
        refine ⟨F5, Xm.clr c.2 vs, vsa, dsa, rest, up5, R8, h7, ⟨A7.h0, A7.f, A7.pn, fun j hj z => ?_⟩, DpAll_up d2 u25, by omega, no_of _ R5.len, e5, w2⟩
        rw [← w4, wipe_get] at z
        split at z
        · cases z
        · rename_i hz
          refine A7.ap j ?_ z
          unfold Mu at hj ⊢
          have hlx := R5.len
          rw [clr_get, if_neg (fun q => hz ⟨q.1, by omega⟩)] at hj
          exact hj
    · have e3 : i = a.1.length := by omega
      subst e3
      rw [List.drop_length] at e2
      cases e2
      have w3 : dsa = w.1 := by rw [List.append_nil] at w2; exact w2
      have Rb : Rel K C F2 w.2 σ H2 := R2.slots (wipe_length σ vs).symm fun i hi => by
        rw [wipe_get, if_neg]
        rintro ⟨z1, z2⟩
        exact hi (n2 i z1)
      refine .inl ⟨J1.stop H2 (s2.trans R2.fh), q Dd vsa H2 F2 (s1.trans s2) Rb A2.h0 A2.f h2 (fun j hj z => ?_) (w3 ▸ d2)⟩
      refine A2.ap j hj ?_
      rw [wipe_get, if_neg]
      · exact z
      · rintro ⟨z1, z2⟩
        have z3 := n2 j z1
        obtain ⟨s0, hx, hm⟩ := hj
        rw [z3] at hx
        cases hx
        cases hm
  · cases e
end
section
variable {X : Cx} {C : Ct} {pos : Pos} {elt tg iter : Expr} {ifs : List Expr} {scope : Scope} {own : List (Str × Nat)} {it : LF} {u : D → AS → Option AS} {ts : List Nat} {tt : BF} {te : EF} {vs : List Nat}
theorem xn_lc (hN : X.N.Nodup) (hi : PI X tg iter (iOf (kxOf X) C it)) (ok : BlkOk X.N X.env.scope scope own)
    (hg : ∀ (C : Ct) (s : Shared) (H : Hp) (c : Addr) (cl : List (Str × Addr)) (fp : List Addr), PG (X.blk s H scope (compEnvC scope cl c X.env) fp) tg (gOf (kxOf X) C u ts))
    (ht : ∀ (C : Ct) (s : Shared) (H : Hp) (c : Addr) (cl : List (Str × Addr)) (fp : List Addr), PTs (X.blk s H scope (compEnvC scope cl c X.env) fp) ifs (bOf (kxOf X) C tt))
    (he : ∀ (C : Ct) (s : Shared) (H : Hp) (c : Addr) (cl : List (Str × Addr)) (fp : List Addr), PE (X.blk s H scope (compEnvC scope cl c X.env) fp) elt (dOf (kxOf X) C te))
    (hvs : own.map (·.2) = vs := by rfl) (hts : ∀ j ∈ ts, j ∈ vs := by decide) (hc : X.calm = true := by rfl) (hs : ∀ x, foldedSetIterable iter X.env x = pure x := by intro _; rfl) :
    PE X (.ListComp elt [⟨tg, iter, ifs, 0⟩] scope pos) (nOf (kxOf X) C (compF it u tt te vs)) := by
  subst hvs
  exact pe_wk (pe_lc (g := fun v σ H Q => ∃ C, gOf (kxOf X) C u ts v σ H Q) (tt := fun σ H Q => ∃ C, bOf (kxOf X) C tt σ H Q) (te := fun σ H Q => ∃ C, dOf (kxOf X) C te σ H Q) hc hN hi ok
    (fun s H c cl fp => ⟨fun pins s1 σ H1 v uu Q I r ⟨C1, q⟩ => (hg C1 s H c cl fp).run pins s1 σ H1 v uu Q I r q⟩)
    (fun s H c cl fp => ⟨fun pins s1 σ H1 Q I ⟨C1, q⟩ => (ht C1 s H c cl fp).run pins s1 σ H1 Q I q⟩)
    (fun s H c cl fp => ⟨fun pins s1 σ H1 Q I ⟨C1, q⟩ => (he C1 s H c cl fp).run pins s1 σ H1 Q I q⟩) hs)
    fun σ H Q q => lc_ok hts _ _ _ (fun C _ _ _ _ k => ⟨C, k⟩) (fun C _ _ _ k => ⟨C, k⟩) (fun C _ _ _ k => ⟨C, k⟩) q
theorem xts_nil {Y : Cx} {K : Kx} {C : Ct} : PTs Y [] (bOf K C yesB) := ⟨fun pins s σ H Q I q => pts_nil.run pins s σ H Q I (by
  obtain ⟨F, st, w, R, e, q⟩ := q
  cases e
  exact q H F (Same.refl _) R)⟩
theorem xts_one {Y : Cx} {t : TT} {c : Expr} (h : PT Y c t) : PTs Y [c] t := pts_one h
end
end Xm
set_option Elab.async false
set_option linter.all false
set_option maxRecDepth 100000
namespace Xm
open PySem PySem.Spec PyProof.Rows L2
section
variable {X : Cx} {C : Ct} {pos p apos cpos : Pos} {o e : Expr} {g : EF}
theorem xd_append {i : Nat} (ho : PE X o (tVar i)) (he : PE X e (dOf (kxOf X) C g)) (hs : starEach [e] X.env = (false, eval e X.env) :: starEach [] X.env := by rfl) (hbase : attributeBase o "append" X.env (eval o X.env) = eval o X.env := by rfl)
    (hfew : ((backTo cpos (starEach [e] X.env)).all (fun x => !x.1) && (backToKw cpos (keywordEach [] X.env)).all (fun x => x.1.isSome) && decide ([e].length + ([] : List Keyword).length + (if ([] : List Keyword).isEmpty then 0 else 1) < 30)) = true := by rfl)
    (hline : (apos.endLine == cpos.line) = true := by rfl) (hplain : (backTo cpos (starEach [] X.env)).any (·.1) = false := by rfl) :
    PE X (.Call (.Attribute o "append" apos) [e] [] cpos) (dOf (kxOf X) C (appM i g)) :=
  pe_wk (pe_bm PySem.F.plainAttrs_list PySem.F.slot_list_append PySem.F.type_list_append mt_append ho (pa_cons he pa_nil hs) hbase hfew hline hs hplain) fun σ H Q q => by
    obtain ⟨F, st, w, R, e, q⟩ := q
    obtain ⟨x0, e0, e⟩ := Option.bind_eq_some_iff.mp e
    obtain ⟨b, eb, e⟩ := Option.bind_eq_some_iff.mp e
    obtain ⟨xs, ex, e⟩ := Option.bind_eq_some_iff.mp e
    split at e
    · rename_i hl
      cases e
      obtain ⟨a, h1, ⟨hF0, vs0, hH0, hv0⟩, _⟩ := R.mu e0
      refine ⟨.ref a, h1, .inl ⟨rfl, _, .inl (.inl hH0)⟩, F, st, b, R, eb, fun y H1 F1 s1 R1 d1 => ?_⟩
      obtain ⟨a', h1', ⟨hF, vs, hH, hv⟩, _⟩ := R1.mu ex
      rw [h1] at h1'
      cases h1'
      exact ⟨a, vs, y, rfl, rfl, hH, by rw [DpAll_len hv]; exact hl, q .non _ F1 s1 (R1.put ex h1 (DpAll_app hv (.cons d1 .nil))) .non⟩
    · cases e
theorem xd_popAt {i : Nat} (ho : PE X o (tVar i)) (he : PE X e (dOf (kxOf X) C g)) (hs : starEach [e] X.env = (false, eval e X.env) :: starEach [] X.env := by rfl) (hbase : attributeBase o "pop" X.env (eval o X.env) = eval o X.env := by rfl)
    (hfew : ((backTo cpos (starEach [e] X.env)).all (fun x => !x.1) && (backToKw cpos (keywordEach [] X.env)).all (fun x => x.1.isSome) && decide ([e].length + ([] : List Keyword).length + (if ([] : List Keyword).isEmpty then 0 else 1) < 30)) = true := by rfl)
    (hline : (apos.endLine == cpos.line) = true := by rfl) (hplain : (backTo cpos (starEach [] X.env)).any (·.1) = false := by rfl) :
    PE X (.Call (.Attribute o "pop" apos) [e] [] cpos) (dOf (kxOf X) C (popM i g)) :=
  pe_wk (pe_bm PySem.F.plainAttrs_list PySem.F.slot_list_pop PySem.F.type_list_pop mt_popAt ho (pa_cons he pa_nil hs) hbase hfew hline hs hplain) fun σ H Q q => by
    obtain ⟨F, st, w, R, e, q⟩ := q
    obtain ⟨x0, e0, e⟩ := Option.bind_eq_some_iff.mp e
    obtain ⟨b, eb, e⟩ := Option.bind_eq_some_iff.mp e
    obtain ⟨xs, ex, e⟩ := Option.bind_eq_some_iff.mp e
    split at e
    · rename_i k hk
      split at e
      · rename_i hb
        obtain ⟨z, ez, e⟩ := Option.map_eq_some_iff.mp e
        cases e
        obtain ⟨a, h1, ⟨hF0, vs0, hH0, hv0⟩, _⟩ := R.mu e0
        refine ⟨.ref a, h1, .inl ⟨rfl, _, .inl (.inl hH0)⟩, F, st, b, R, eb, fun y H1 F1 s1 R1 d1 => ?_⟩
        obtain ⟨a', h1', ⟨hF, vs, hH, hv⟩, _⟩ := R1.mu ex
        rw [h1] at h1'
        cases h1'
        obtain ⟨v, hv1, hv2⟩ := DpAll_get hv ez
        have hlt : k.toNat < vs.length := (List.getElem?_eq_some_iff.mp hv1).1
        have hseq : seqIndex? k vs.length = some k.toNat := by
          refine (ixN_seq ?_).1
          unfold ixN
          rw [if_pos hb.1, if_pos (by omega)]
        rw [hk] at d1
        refine ⟨a, vs, k, k.toNat, v, rfl, by rw [dp_int d1], hH, by omega, hb.2, hseq, hv1, q v _ F1 s1 (R1.put ex h1 (DpAll_erase _ hv)) hv2⟩
      · cases e
    · cases e
end
def setM (i : Nat) (f g : EF) : SF := fun st => (muC st i).bind fun _ => (f st).bind fun a => (muC a.2 i).bind fun _ => (g a.2).bind fun b => (muC b.2 i).bind fun xs => match b.1 with
  | .int k => (ixN xs.length k).map fun j => (.nx, putM b.2 i (xs.set j a.1))
  | _ => none
section
variable {X : Cx} {C : Ct} {pos spos : Pos} {o ix e : Expr} {f g : EF}
theorem xs_setItem {i : Nat} (ho : PE X o (tVar i)) (hx : PE X ix (dOf (kxOf X) C g)) (he : PE X e (dOf (kxOf X) C f))
    (ha : ∀ v, assign (.Subscript o ix spos) X.env v = (do
      let ov ← holding [v] (eval o X.env)
      let iv ← holding [v, ov] (eval ix X.env)
      standAt spos
      holding [v, ov, iv] (setItem ov iv v)
      release [v, ov, iv] []) := by intro _; rfl)
    (hs : swapsWithSole [.Subscript o ix spos] e pos.line X.env = pure false := by rfl) (hw : swappedStores [.Subscript o ix spos] e X.env = pure none := by rfl)
    (h1 : (assignEach [.Subscript o ix spos] X.env).map (·.2) = [assign (.Subscript o ix spos) X.env] := by rfl) : PS X (.Assign [.Subscript o ix spos] e pos) (sOf (kxOf X) C (setM i f g)) :=
  ps_wk (ps_asg he (pg_sub ho hx set_list ha) hs hw h1) fun Z σ H q => by
    obtain ⟨F, st, w, R, e, q⟩ := q
    obtain ⟨x0, e0, e⟩ := Option.bind_eq_some_iff.mp e
    obtain ⟨a, ea, e⟩ := Option.bind_eq_some_iff.mp e
    obtain ⟨y0, e1, e⟩ := Option.bind_eq_some_iff.mp e
    obtain ⟨b, eb, e⟩ := Option.bind_eq_some_iff.mp e
    obtain ⟨xs, ex, e⟩ := Option.bind_eq_some_iff.mp e
    split at e
    · rename_i k hk
      obtain ⟨j, ej, e⟩ := Option.map_eq_some_iff.mp e
      cases e
      refine ⟨F, st, a, R, ea, fun v H1 F1 s1 R1 d1 => ?_⟩
      obtain ⟨p, h1, ⟨hF0, vs0, hH0, hv0⟩, _⟩ := R1.mu e1
      refine ⟨.ref p, h1, F1, a.2, b, R1, eb, fun u H2 F2 s2 R2 d2 => ?_⟩
      obtain ⟨p', h1', ⟨hF, vs, hH, hv⟩, _⟩ := R2.mu ex
      rw [h1] at h1'
      cases h1'
      rw [hk] at d2
      exact ⟨p, vs, k, j, rfl, dp_int d2, hH, by rw [DpAll_len hv]; exact ej, q σ _ F2 (s1.trans s2) (R2.put ex h1 (DpAll_set j hv (Dp_up d1 s2)))⟩
    · cases e
end
abbrev CXM (P : Program) (w : World) : CXT := L2.CX P w
structure FnG (P : Program) (w : World) (K : PySem.W.Frag) (mg : Str → Option Value) (base : Heap) (CX : CXT) (k : Nat) (f : Addr) (fd : FuncData) (ps : List Str) (sp : Sp) : Prop where
  arity : ∀ vs H Q E, sp vs H Q E → vs.length = ps.length
  go : ∀ (A : Around) (outer : List Env) (s : Shared) (H : Hp) (args : Args) (us : List Value) (vs : List V) (Q : VK) (E : XK), Room k A → A.guards = some [] → Env0 P w K mg base A outer s H →
    BindsTo s fd args (ps.zip us) → Vals vs us → sp vs H Q E → codeAny (model P w) A (.call (.ref f) args) (CR CX outer P w H s Q E) s
section
variable {P : Program} {w : World} {K : PySem.W.Frag} {mg : Str → Option Value} {base : Heap} {CX : CXT} {k j : Nat} {f : Addr} {fd : FuncData} {ps N : List Str} {sp : Sp}
theorem FnG.mono (h : FnG P w K mg base CX j f fd ps sp) (l : j ≤ k) : FnG P w K mg base CX k f fd ps sp :=
  ⟨h.arity, fun A outer s H args us vs Q E hr hg => h.go A outer s H args us vs Q E (hr.mono l) hg⟩
end
section
variable {X : Cx} {CX : CXT} {k : Nat} {f : Addr} {fd : FuncData} {ps : List Str} {sp : Sp} {dvs : List V} {ds : List Value} {E : XK} {x : Str} {p pos : Pos} {e : Expr} {es : List Expr} {t : TA}
theorem runG {pins : List (Addr × Obj)} {σ : L2.St} {H : Hp} {s : Shared} {Q : VK} {us : List Value} {vs : List V} (G : FnG X.prog X.w X.K X.mg X.base CX k f fd ps sp) (hr : Room k X.A) (gd : X.A.guards = some []) (hb : Binds X.K fd ps ds) (hd : Vals dvs ds)
    (hx : Passes CX X E) (I : Inv X pins σ H s) (r : Vals vs us) (h : sp (vs ++ dvs) H Q E) : wpAny (model X.prog X.w) X.A (call (.ref f) us) (EP X pins σ Q) X.xe s := by
  have r2 : Vals (vs ++ dvs) (us ++ ds) := r.append hd
  have hl : (us ++ ds).length = ps.length := by rw [← r2.length, G.arity _ _ _ _ h]
  refine wpAny_call (codeAny_mono (G.go X.A X.stack s H ⟨us, []⟩ (us ++ ds) (vs ++ dvs) Q E hr gd I.env0 (hb s us I.kIn hl) r2 h) fun res s' hq => ?_)
  match res, hq with
  | .error e, hq => exact hx pins σ H s e s' I hq
  | .ok (.ret u), hq => exact I.after hq
theorem pe_callG (G : FnG X.prog X.w X.K X.mg X.base CX k f fd ps sp) (hr : Room k X.A) (gd : X.A.guards = some []) (hm : X.mg x = some (.ref f)) (hk : PySem.W.keepIn X.K (.ref f) = true) (hb : Binds X.K fd ps ds) (hd : Vals dvs ds) (hx : Passes CX X E)
    (ha : PA X (e :: es) t) (hg : Gl X x) (he : starEach (e :: es) X.env = (false, eval e X.env) :: starEach es X.env) (hpl : (backTo pos (starEach es X.env)).any (·.1) = false) (hdb : (x == ("__debug__" : Str)) = false) :
    PE X (.Call (.Name x p) (e :: es) [] pos) (tCall sp dvs E t) := by
  refine ⟨fun pins s σ H Q I h => wpAny_Call_Name_kw (ld_glob I hg hm ?_ hdb)⟩
  refine PySem.W.callWith_K (h₀ := X.base) I.ok.mod.kin hk (thn (ha.run pos pins s σ H _ I h) fun us s1 ⟨vs, H1, I1, r, q⟩ => ?_) he hpl
  exact ⟨I1.kIn, runG G hr gd hb hd hx I1 r q⟩
end
def RvOk (K : Kx) (H F' H' : Hp) (v : V) : RV → Prop
  | .val d => Dp K F' v d
  | .new xs => ∃ a, v = .ref a ∧ H a = none ∧ Lst K F' H' a xs
  | .dct kvs => ∃ a, v = .ref a ∧ H a = none ∧ Dct K F' H' a kvs
  | .exc _ => False
def spP (K : Kx) (n : Nat) (mf : List D → Option RV) : Sp := fun vs H Q E => vs.length = n ∧ ∃ F ds r, Same F H ∧ DpAll K F vs ds ∧ mf ds = some r ∧ (∀ v F' H', Gr F H F' H' → RvOk K H F' H' v r → Q v H') ∧
  ∀ x, r = .exc x → ∀ cls d F' H', Gr F H F' H' → ExOk K F' x cls d → E cls d H'
structure GrP (p : Addr) (F H F' H' : Hp) : Prop where
  ff : Same F F'
  fh : Same F' H'
  hh : ∀ a o, a ≠ p → H a = some o → H' a = some o
  nw : ∀ a, F' a ≠ none → F a ≠ none ∨ H a = none
def spQ (K : Kx) (n : Nat) (mf : List D → List D → Option (RV × List D)) : Sp := fun vs H Q _ => vs.length = n ∧ ∃ F p vs' us xs ds r, vs = .ref p :: vs' ∧ Same F H ∧ F p = none ∧ H p = some (.lst us) ∧ DpAll K F us xs ∧ DpAll K F vs' ds ∧ mf xs ds = some r ∧ (∀ x, r.1 ≠ .exc x) ∧
  ∀ v F' H' us', GrP p F H F' H' → F' p = none → H' p = some (.lst us') → DpAll K F' us' r.2 → RvOk K H F' H' v r.1 → Q v H'
def st0 (n : Nat) (ds : List D) : AS := ds.map Slot.dat ++ List.replicate (n - ds.length) Slot.no
def st1 (n : Nat) (xs : List D) (ds : List D) : AS := Slot.pen xs :: (ds.map Slot.dat ++ List.replicate (n - ds.length - 1) Slot.no)
def Leaves (g : SF) (st : AS) (r : RV) (last : AS → Prop) : Prop := ∃ st', (g st = some (.ret r, st') ∨ (g st = some (.nx, st') ∧ r = .val .none)) ∧ last st'
section
variable {P : Program} {w : World} {K : Kx} {mg : Str → Option Value} {base : Heap} {CX : CXT} {k : Nat} {f : Addr} {fd : FuncData} {ps N : List Str} {W : WX}
theorem start_get {N : List Str} {vs : List V} (h : vs.length ≤ N.length) {i : Nat} {v : V} (e : vs[i]? = some v) : (L2.start N vs)[i]? = some (some v) := by
  unfold L2.start
  have hi := (List.getElem?_eq_some_iff.mp e).1
  rw [List.getElem?_append_left (by simpa using hi), List.getElem?_map, e]
  rfl
theorem start_len {N : List Str} {vs : List V} (h : vs.length ≤ N.length) : (L2.start N vs).length = N.length := by
  unfold L2.start
  rw [List.length_append, List.length_map, List.length_replicate]
  omega
theorem rel0 {F H : Hp} {vs : List V} {ds : List D} (fh : Same F H) (h : DpAll K F vs ds) (hl : vs.length ≤ N.length) : Rel K ⟨H, F, none, W⟩ F (st0 N.length ds) (L2.start N vs) H where
  len := by
    unfold st0
    rw [start_len hl, List.length_append, List.length_map, List.length_replicate, ← DpAll_len h]
    omega
  f0 := Same.refl _
  fh := fh
  old := fun a o e _ => e
  new := fun a e _ => e
  slot := fun i s e => by
    unfold st0 at e
    by_cases hi : i < ds.length
    · rw [List.getElem?_append_left (by simpa using hi), List.getElem?_map] at e
      obtain ⟨d, hd, rfl⟩ := Option.map_eq_some_iff.mp e
      obtain ⟨v, h1, h2⟩ := DpAll_get h hd
      exact ⟨v, start_get hl h1, h2⟩
    · rw [List.getElem?_append_right (by simpa using hi), List.getElem?_replicate] at e
      split at e <;> cases e
      trivial
  apart := fun i j a hi _ _ _ => by
    exfalso
    have no : ∀ s, (st0 N.length ds)[i]? = some s → (∃ d, s = .dat d) ∨ s = .no := fun s e => by
      unfold st0 at e
      by_cases hi : i < ds.length
      · rw [List.getElem?_append_left (by simpa using hi), List.getElem?_map] at e
        obtain ⟨d, hd, rfl⟩ := Option.map_eq_some_iff.mp e
        exact .inl ⟨d, rfl⟩
      · rw [List.getElem?_append_right (by simpa using hi), List.getElem?_replicate] at e
        split at e <;> cases e
        exact .inr rfl
    obtain ⟨s0, e, hm⟩ := hi
    rcases no _ e with ⟨d, z⟩ | z <;> (subst z; cases hm)
  penh := fun p e => nomatch e
  pent := fun p e => nomatch e
theorem Rel.gr {F H F' H' : Hp} {st : AS} {σ : L2.St} (R : Rel K ⟨H, F, none, W⟩ F' st σ H') : Gr F H F' H' :=
  ⟨R.f0, R.fh, fun a o e => R.old a o e (fun z => nomatch z), fun a e => by
    by_cases hF : F a = none
    · by_cases hH : H a = none
      · exact .inr hH
      · exact absurd (R.new a hF hH) e
    · exact .inl hF⟩
theorem rel1 {F H : Hp} {p : Addr} {us vs : List V} {xs ds : List D} (fh : Same F H) (hp : F p = none) (hH : H p = some (.lst us)) (hu : DpAll K F us xs) (h : DpAll K F vs ds) (hl : vs.length + 1 ≤ N.length) :
    Rel K ⟨H, F, some p, W⟩ F (st1 N.length xs ds) (L2.start N (.ref p :: vs)) H where
  len := by
    unfold st1
    rw [start_len (by simpa using hl), List.length_cons, List.length_append, List.length_map, List.length_replicate, ← DpAll_len h]
    omega
  f0 := Same.refl _
  fh := fh
  old := fun a o e _ => e
  new := fun a e _ => e
  slot := fun i s e => by
    unfold st1 at e
    cases i with
    | zero =>
      cases e
      exact ⟨p, start_get (by simpa using hl) rfl, rfl, hp, us, hH, hu⟩
    | succ i =>
      rw [List.getElem?_cons_succ] at e
      by_cases hi : i < ds.length
      · rw [List.getElem?_append_left (by simpa using hi), List.getElem?_map] at e
        obtain ⟨d, hd, rfl⟩ := Option.map_eq_some_iff.mp e
        obtain ⟨v, h1, h2⟩ := DpAll_get h hd
        exact ⟨v, start_get (vs := .ref p :: vs) (by simpa using hl) (by rw [List.getElem?_cons_succ]; exact h1), h2⟩
      · rw [List.getElem?_append_right (by simpa using hi), List.getElem?_replicate] at e
        split at e <;> cases e
        trivial
  apart := fun i j a hi hj _ _ => by
    have z : ∀ i, Mu (st1 N.length xs ds) i → i = 0 := fun i hi => by
      cases i with
      | zero => rfl
      | succ i =>
        exfalso
        have no : ∀ s, (st1 N.length xs ds)[i + 1]? = some s → (∃ d, s = .dat d) ∨ s = .no := fun s e => by
          unfold st1 at e
          rw [List.getElem?_cons_succ] at e
          by_cases hi : i < ds.length
          · rw [List.getElem?_append_left (by simpa using hi), List.getElem?_map] at e
            obtain ⟨d, hd, rfl⟩ := Option.map_eq_some_iff.mp e
            exact .inl ⟨d, rfl⟩
          · rw [List.getElem?_append_right (by simpa using hi), List.getElem?_replicate] at e
            split at e <;> cases e
            exact .inr rfl
        obtain ⟨s0, e, hm⟩ := hi
        rcases no _ e with ⟨d, z⟩ | z <;> (subst z; cases hm)
    rw [z i hi, z j hj]
  penh := fun q e => by
    cases e
    show H p ≠ none
    rw [hH]; simp
  pent := fun q e => by
    cases e
    rw [hH]; simp
theorem Rel.grP {p : Addr} {F H F' H' : Hp} {st : AS} {σ : L2.St} (R : Rel K ⟨H, F, some p, W⟩ F' st σ H') : GrP p F H F' H' :=
  ⟨R.f0, R.fh, fun a o n e => R.old a o e (fun z => n (Option.some.inj z).symm), fun a e => by
    by_cases hF : F a = none
    · by_cases hH : H a = none
      · exact .inr hH
      · exact absurd (R.new a hF hH) e
    · exact .inl hF⟩
end
def callP (mf : List D → Option RV) (dvs : List D) (g : LF) : AS → Option (RV × AS) := fun st => (g st).bind fun a => (mf (a.1 ++ dvs)).map fun r => (r, a.2)
def rvD (c : AS → Option (RV × AS)) : EF := fun st => (c st).bind fun r => match r.1 with
  | .val d => some (d, r.2)
  | .new xs => some (.list xs, r.2)
  | .dct _ => none
  | .exc _ => none
def rvN (c : AS → Option (RV × AS)) : LF := fun st => (c st).bind fun r => match r.1 with
  | .new xs => some (xs, r.2)
  | _ => none
def callQ (mf : List D → List D → Option (RV × List D)) (i : Nat) (g : LF) : AS → Option (RV × AS) := fun st => (muC st i).bind fun _ => (g st).bind fun a => (muC a.2 i).bind fun xs => (mf xs a.1).map fun r => (r.1, putM a.2 i r.2)
section
variable {K : Kx} {C : Ct} {mf : List D → Option RV} {mq : List D → List D → Option (RV × List D)} {g : LF} {n : Nat} {σ : L2.St} {H : Hp} {Q : VK} {dvs : List V} {dds : List D} {E : XK}
theorem callP_d (hd : ∀ F, DpAll K F dvs dds) (hn : ∀ st r, g st = some r → (r.1 ++ dds).length = n) (q : dOf K C (rvD (callP mf dds g)) σ H Q) : tCall (spP K n mf) dvs E (aOf K C g) σ H Q := by
  obtain ⟨F, st, w, R, e, q⟩ := q
  obtain ⟨c, ec, e⟩ := Option.bind_eq_some_iff.mp e
  obtain ⟨a, ea, ec⟩ := Option.bind_eq_some_iff.mp ec
  obtain ⟨r, er, ec⟩ := Option.map_eq_some_iff.mp ec
  cases ec
  refine ⟨F, st, a, R, ea, fun vs H1 F1 s1 R1 d1 => ?_⟩
  have dd := DpAll_app d1 (hd F1)
  refine ⟨by rw [DpAll_len dd]; exact hn st a ea, F1, _, r, R1.fh, dd, er, fun v F2 H2 gr ok => ?_, fun x hx => by subst hx; cases e⟩
  have R2 := R1.grow gr
  cases r with
  | val d => cases e; exact q v H2 F2 (s1.trans gr.ff) R2 ok
  | new xs =>
    cases e
    obtain ⟨p, rfl, hp, hF, us, hH, hu⟩ := ok
    obtain ⟨A, _⟩ := R1.aside hp
    obtain ⟨k1, k2, k3⟩ := R2.freezeNew A.h0 hF hH (fun j hj => A.ap j hj) hu
    exact q _ H2 _ ((s1.trans gr.ff).trans k1) k2 k3
  | dct kvs => cases e
  | exc x => cases e
theorem callP_n (hd : ∀ F, DpAll K F dvs dds) (hn : ∀ st r, g st = some r → (r.1 ++ dds).length = n) (q : nOf K C (rvN (callP mf dds g)) σ H Q) : tCall (spP K n mf) dvs E (aOf K C g) σ H Q := by
  obtain ⟨F, st, w, R, e, q⟩ := q
  obtain ⟨c, ec, e⟩ := Option.bind_eq_some_iff.mp e
  obtain ⟨a, ea, ec⟩ := Option.bind_eq_some_iff.mp ec
  obtain ⟨r, er, ec⟩ := Option.map_eq_some_iff.mp ec
  cases ec
  refine ⟨F, st, a, R, ea, fun vs H1 F1 s1 R1 d1 => ?_⟩
  have dd := DpAll_app d1 (hd F1)
  refine ⟨by rw [DpAll_len dd]; exact hn st a ea, F1, _, r, R1.fh, dd, er, fun v F2 H2 gr ok => ?_, fun x hx => by subst hx; cases e⟩
  have R2 := R1.grow gr
  cases r with
  | val d => cases e
  | dct d => cases e
  | exc d => cases e
  | new xs =>
    cases e
    obtain ⟨p, rfl, hp, hF, us, hH, hu⟩ := ok
    obtain ⟨A, _⟩ := R1.aside hp
    exact q p us H2 F2 (s1.trans gr.ff) R2 A.h0 hF hH (fun j hj => A.ap j hj) hu
theorem Rel.growP {F F' H' : Hp} {st : AS} {i : Nat} {xs ys : List D} {p : Addr} {us us' : List V} (R : Rel K C F st σ H) (hx : muC st i = some xs) (hs : σ[i]? = some (some (.ref p))) (hH : H p = some (.lst us)) (gr : GrP p F H F' H') (hF' : F' p = none) (hH' : H' p = some (.lst us')) (hu : DpAll K F us xs) (hu' : DpAll K F' us' ys) :
    Rel K C F' (putM st i ys) σ H' := by
  have g2 : Gr F H F' (upd H' p (.lst us)) := ⟨gr.ff, fun a o e => by
      have hb : a ≠ p := fun z => by subst z; rw [hF'] at e; cases e
      rw [upd_ne hb]; exact gr.fh a o e, fun a o e => by
      by_cases hb : a = p
      · subst hb; rw [upd_same]; rw [hH] at e; exact e
      · rw [upd_ne hb]; exact gr.hh a o hb e, gr.nw⟩
  have R2 := (R.grow g2).put hx hs hu'
  rw [upd_upd] at R2
  have e : upd H' p (.lst us') = H' := by
    funext a
    by_cases hb : a = p
    · subst hb; rw [upd_same, hH']
    · rw [upd_ne hb]
  rw [e] at R2
  exact R2
theorem putM_apart {st : AS} {i : Nat} {xs ys : List D} {z : Addr} (ex : muC st i = some xs) (ap : ∀ j, Mu st j → σ[j]? ≠ some (some (.ref z))) : ∀ j, Mu (putM st i ys) j → σ[j]? ≠ some (some (.ref z)) := fun j hj => by
  refine ap j ?_
  by_cases ej : j = i
  · subst ej; exact mu_Mu ex
  · unfold Mu at hj ⊢
    have : (putM st i ys)[j]? = st[j]? := by
      unfold putM
      split <;> first | rfl | rw [List.getElem?_set_ne (Ne.symm ej)]
    rw [this] at hj
    exact hj
theorem callQ_d {i : Nat} (hn : ∀ st r, g st = some r → r.1.length + 1 = n) (q : dOf K C (rvD (callQ mq i g)) σ H Q) : tCall (spQ K n mq) [] E (tCons (tVar i) (aOf K C g)) σ H Q := by
  obtain ⟨F, st, w, R, e, q⟩ := q
  obtain ⟨c, ec, e⟩ := Option.bind_eq_some_iff.mp e
  obtain ⟨x0, e0, ec⟩ := Option.bind_eq_some_iff.mp ec
  obtain ⟨a, ea, ec⟩ := Option.bind_eq_some_iff.mp ec
  obtain ⟨xs, ex, ec⟩ := Option.bind_eq_some_iff.mp ec
  obtain ⟨r, er, ec⟩ := Option.map_eq_some_iff.mp ec
  obtain ⟨r1, r2⟩ := r
  cases ec
  obtain ⟨p, hp, _, _⟩ := R.mu e0
  refine ⟨.ref p, hp, F, st, a, R, ea, fun vs H1 F1 s1 R1 d1 => ?_⟩
  obtain ⟨p', hp', ⟨hF, us, hH, hu⟩, _⟩ := R1.mu ex
  rw [hp] at hp'
  cases hp'
  rw [List.append_nil]
  refine ⟨by rw [List.length_cons, DpAll_len d1]; exact hn st a ea, F1, p, vs, us, xs, a.1, (r1, r2), rfl, R1.fh, hF, hH, hu, d1, er, fun x hx => ?_, fun v F2 H2 us' gr k1 k2 k3 ok => ?_⟩
  · dsimp only at hx e
    subst hx
    cases e
  have R2 := R1.growP ex hp hH gr k1 k2 hu k3
  dsimp only at e ok
  cases r1 with
  | val d => cases e; exact q v H2 F2 (s1.trans gr.ff) R2 ok
  | exc x => cases e
  | new zs =>
    cases e
    obtain ⟨z, rfl, hz, hFz, ws, hHz, hw⟩ := ok
    obtain ⟨A, _⟩ := R1.aside hz
    obtain ⟨k4, k5, k6⟩ := R2.freezeNew A.h0 hFz hHz (putM_apart ex A.ap) hw
    exact q _ H2 _ ((s1.trans gr.ff).trans k4) k5 k6
  | dct zs => cases e
end
end Xm
set_option Elab.async false
set_option linter.all false
set_option maxRecDepth 100000
namespace Xm
open PySem PySem.Spec PyProof.Rows L2
def kIn : D → D → Option D
  | a, .list xs => if SeqAt.shaped a = true ∧ SeqAt.shaped (.list xs) = true then some (.bool (xs.any fun z => PyData.eqv z a)) else none
  | a, .tuple xs => if SeqAt.shaped a = true ∧ SeqAt.shaped (.tuple xs) = true then some (.bool (xs.any fun z => PyData.eqv z a)) else none
  | a, .dict kvs => (dGet kvs a).map fun o => .bool o.isSome
  | _, _ => none
section
variable {X : Cx}
variable {C : Ct} {pos : Pos} {a b : Expr} {f g : EF}
end
def cutX {α : Type} (xs : List α) (lo hi : Option Int) : List α := (xs.drop (HT.sIx xs.length 0 lo)).take (HT.sIx xs.length xs.length hi - HT.sIx xs.length 0 lo)
theorem cut_dp {K : Kx} {F : Hp} {vs : List V} {ds : List D} {lo hi : Option Int} (h : DpAll K F vs ds) : DpAll K F (cutV vs lo hi) (cutX ds lo hi) := by
  unfold cutV cutX
  rw [DpAll_len h]
  exact DpAll_take _ (DpAll_drop _ h)
abbrev OF := AS → Option (Option Int × AS)
def oOf (K : Kx) (C : Ct) (f : OF) : TO := fun σ H Q => ∃ F st r, Rel K C F st σ H ∧ f st = some r ∧ ∀ H' F', Same F F' → Rel K C F' r.2 σ H' → Q r.1 H'
def noO : OF := fun st => some (none, st)
def someO (f : EF) : OF := fun st => (f st).bind fun a => match a.1 with
  | .int i => some (some i, a.2)
  | _ => none
def cutF (f : EF) (lo hi : OF) : EF := fun st => (f st).bind fun a => (lo a.2).bind fun l => (hi l.2).bind fun h => match a.1 with
  | .list xs => some (.list (cutX xs l.1 h.1), h.2)
  | .tuple xs => some (.tuple (cutX xs l.1 h.1), h.2)
  | _ => none
def revF (f : EF) : EF := fun st => (f st).bind fun a => match a.1 with
  | .list xs => some (.list xs.reverse, a.2)
  | _ => none
section
variable {X : Cx} {C : Ct} {pos p2 : Pos} {e : Expr} {lo hi : Option Expr} {f : EF} {l h : OF}
theorem po_wk {t t' : TO} {o : Option Expr} (h : PO X o t) (w : ∀ σ H Q, t' σ H Q → t σ H Q) : PO X o t' := ⟨fun pins s σ H Q I q => h.run pins s σ H Q I (w σ H Q q)⟩
theorem xo_none : PO X none (oOf (kxOf X) C noO) := po_wk po_none fun σ H Q q => by
  obtain ⟨F, st, w, R, e, q⟩ := q
  cases e
  exact q H F (Same.refl _) R
theorem xo_some (he : PE X e (dOf (kxOf X) C f)) : PO X (some e) (oOf (kxOf X) C (someO f)) := po_wk (po_some he) fun σ H Q q => by
  obtain ⟨F, st, w, R, e, q⟩ := q
  obtain ⟨a, ea, e⟩ := Option.bind_eq_some_iff.mp e
  split at e
  · rename_i i hi
    cases e
    exact ⟨F, st, a, R, ea, fun v H1 F1 s1 R1 d1 => ⟨i, dp_int (hi ▸ d1), q H1 F1 s1 R1⟩⟩
  · cases e
theorem cut_whole {α : Type} {xs : List α} {lo hi : Option Int} (h : HT.sIx xs.length 0 lo = 0 ∧ HT.sIx xs.length xs.length hi = xs.length) : cutX xs lo hi = xs := by
  unfold cutX
  rw [h.1, h.2]
  simp
theorem xd_slice (he : PE X e (dOf (kxOf X) C f)) (hl : PO X lo (oOf (kxOf X) C l)) (hh : PO X hi (oOf (kxOf X) C h)) : PE X (.Subscript e (.Slice lo hi none p2) pos) (dOf (kxOf X) C (cutF f l h)) :=
  pe_wk (pe_slice (sl_list.or sl_tupA) he hl hh) fun σ H Q q => by
    obtain ⟨F, st, w, R, e, q⟩ := q
    obtain ⟨a, ea, e⟩ := Option.bind_eq_some_iff.mp e
    obtain ⟨b, eb, e⟩ := Option.bind_eq_some_iff.mp e
    obtain ⟨c, ec, e⟩ := Option.bind_eq_some_iff.mp e
    refine ⟨F, st, a, R, ea, fun v H1 F1 s1 R1 d1 => ⟨F1, a.2, b, R1, eb, fun H2 F2 s2 R2 => ⟨F2, b.2, c, R2, ec, fun H3 F3 s3 R3 => ?_⟩⟩⟩
    have up : Same F F3 := (s1.trans s2).trans s3
    have d3 := Dp_up d1 (s2.trans s3)
    split at e
    · rename_i xs hx
      cases e
      rw [hx] at d3
      cases d3 with
      | lst hs hv =>
        rename_i a0 vs0
        refine .inl ⟨_, _, rfl, sql_up R3.fh hs, fun p hp => ?_⟩
        have gr := Gr.new (o := .lst (cutV vs0 b.1 c.1)) R3.fh hp
        exact q _ _ _ (up.trans gr.ff) (R3.grow gr) (.lst (.inl (.inl upd_same)) (DpAll_up (cut_dp hv) gr.ff))
    · rename_i xs hx
      cases e
      rw [hx] at d3
      cases d3 with
      | tup hs hv =>
        rename_i a0 vs0
        refine .inr ⟨_, _, rfl, sqt_up R3.fh hs, fun hw => ?_, fun hw p hp => ?_⟩
        · refine q _ H3 F3 up R3 ?_
          rw [DpAll_len hv] at hw
          rw [cut_whole hw]
          exact .tup hs hv
        · have gr := Gr.new (o := .tup (cutV vs0 b.1 c.1)) R3.fh hp
          exact q _ _ _ (up.trans gr.ff) (R3.grow gr) (.tup (.inl (.inl upd_same)) (DpAll_up (cut_dp hv) gr.ff))
    · cases e
end
def rCatL (K : Kx) : R2 := fun x y H Q => ∃ a b xs ys, x = .ref a ∧ y = .ref b ∧ SqL K.K H a xs ∧ SqL K.K H b ys ∧ xs.length + ys.length ≤ sizeLine ∧ ∀ p, H p = none → Q (.ref p) (upd H p (.lst (xs ++ ys)))
theorem op_catL {X : Cx} : OpR X (binaryOp .Add) (rCatL (kxOf X)) := by
  intro pins s σ H x y v u Q I rx ry h
  obtain ⟨a, b, xs, ys, rfl, rfl, ha, hb, hz, q⟩ := h
  cases rx
  cases ry
  obtain ⟨its, r, ⟨⟨c1, d1, t1, sl1⟩, n, e, hc, _, hd⟩, _⟩ := I.list ha
  obtain ⟨its2, r2, ⟨⟨c2, d2, t2, sl2⟩, n2, e2, hc2, _, hd2⟩, _⟩ := I.list hb
  dsimp only at hc hd hc2 hd2
  subst hc hd hc2 hd2
  have l1 := r.length
  have l2 := r2.length
  have ea : its.toArray ++ its2.toArray = (its ++ its2).toArray := by simp
  refine concat_meets ⟨_, e, rfl⟩ ⟨_, e2, rfl⟩ noFill_list_add seq_list_add PySem.F.slot_list_add PySem.F.entry_list_add (PySem.F.args_list_add_2 _ _) (list_addW a b its.toArray its2.toArray n n2 d1 d2 sl1 sl2 (by rw [List.size_toArray, List.size_toArray]; omega)) ⟨e, e2, ?_⟩
  rw [ea]
  exact ⟨.ref _, _, I.lnew (t' := s.toks) (r.append r2) (by rw [List.length_append]; omega), rfl, q _ I.fresh⟩
def kCat : D → D → Option D
  | .int i, .int j => some (.int (i + j))
  | .tuple xs, .tuple ys => if xs.length + ys.length ≤ sizeLine then some (.tuple (xs ++ ys)) else none
  | .list xs, .list ys => if xs.length + ys.length ≤ sizeLine then some (.list (xs ++ ys)) else none
  | _, _ => none
theorem ok_cat {K : Kx} : Ok2 K (fun x y H Q => rI0 (fun i j => .int (i + j)) x y H Q ∨ rCatA K.K x y H Q ∨ rCatL K x y H Q) kCat := by
  intro F H x y a b z Q fh ha hb e q
  unfold kCat at e
  split at e
  · cases e
    exact .inl ⟨_, _, dp_int ha, dp_int hb, q _ F H (Gr.refl fh) (.int _)⟩
  · split at e <;> cases e
    rename_i hl
    cases ha with
    | tup hs hv =>
      rename_i a0 vs0
      cases hb with
      | tup hs2 hv2 =>
        rename_i a1 vs1
        refine .inr (.inl ⟨_, _, _, _, rfl, rfl, sqt_up fh hs, sqt_up fh hs2, by rw [DpAll_len hv, DpAll_len hv2]; exact hl, fun h0 => ?_, fun h0 h1 => ?_, fun h0 h1 p hp => ?_⟩)
        · subst h0
          cases hv
          exact q _ F H (Gr.refl fh) (.tup hs2 hv2)
        · subst h1
          cases hv2
          rw [List.append_nil] at q
          exact q _ F H (Gr.refl fh) (.tup hs hv)
        · have gr := Gr.new (o := .tup (vs0 ++ vs1)) fh hp
          exact q _ _ _ gr (.tup (.inl (.inl upd_same)) (DpAll_up (DpAll_app hv hv2) gr.ff))
  · split at e <;> cases e
    rename_i hl
    cases ha with
    | lst hs hv =>
      rename_i a0 vs0
      cases hb with
      | lst hs2 hv2 =>
        rename_i a1 vs1
        refine .inr (.inr ⟨_, _, _, _, rfl, rfl, sql_up fh hs, sql_up fh hs2, by rw [DpAll_len hv, DpAll_len hv2]; exact hl, fun p hp => ?_⟩)
        have gr := Gr.new (o := .lst (vs0 ++ vs1)) fh hp
        exact q _ _ _ gr (.lst (.inl (.inl upd_same)) (DpAll_up (DpAll_app hv hv2) gr.ff))
  · cases e
section
variable {X : Cx} {C : Ct} {pos : Pos} {a b : Expr} {f g : EF}
theorem xd_cat (ha : PE X a (dOf (kxOf X) C f)) (hb : PE X b (dOf (kxOf X) C g)) : PE X (.BinOp a .Add b pos) (dOf (kxOf X) C (bin2 kCat f g)) := xd_op (op_add.or (op_catA.or op_catL)) ok_cat ha hb
end
def ArN (g : LF) (n : Nat) : Prop := ∀ st r, g st = some r → r.1.length = n
theorem ar_nil : ArN nilA 0 := fun st r e => by cases e; rfl
theorem ar_cons {f : EF} {g : LF} {n : Nat} (h : ArN g n) : ArN (consA f g) (n + 1) := fun st r e => by
  obtain ⟨a, ea, e⟩ := Option.bind_eq_some_iff.mp e
  obtain ⟨b, eb, e⟩ := Option.map_eq_some_iff.mp e
  cases e
  rw [List.length_cons, h _ _ eb]
section
variable {X : Cx} {C : Ct} {k n m : Nat} {f : Addr} {fd : FuncData} {ps : List Str} {x y : Str} {p p1 pos : Pos} {e : Expr} {es : List Expr} {g : LF} {mf : List D → Option RV} {mq : List D → List D → Option (RV × List D)} {dvs : List V} {dds : List D} {ds : List Value}
theorem xd_callP (G : FnG X.prog X.w X.K X.mg X.base (CXM X.prog X.w) k f fd ps (spP (kxOf X) n mf)) (hr : Room k X.A) (gd : X.A.guards = some []) (hm : X.mg x = some (.ref f)) (hk : PySem.W.keepIn X.K (.ref f) = true) (hb : Binds X.K fd ps ds) (hv : Vals dvs ds) (hd : ∀ F, DpAll (kxOf X) F dvs dds)
    (ha : PA X (e :: es) (aOf (kxOf X) C g)) (hn : ArN g m) (hnm : m + dds.length = n := by rfl) (hg : Gl X x := by rfl) (he : starEach (e :: es) X.env = (false, eval e X.env) :: starEach es X.env := by rfl) (hpl : (backTo pos (starEach es X.env)).any (·.1) = false := by rfl) (hdb : (x == ("__debug__" : Str)) = false := by decide) :
    PE X (.Call (.Name x p) (e :: es) [] pos) (dOf (kxOf X) C (rvD (callP mf dds g))) :=
  pe_wk (pe_callG (E := E0) G hr gd hm hk hb hv passL ha hg he hpl hdb) fun _ _ _ q => callP_d hd (fun st r er => by rw [List.length_append, hn st r er]; exact hnm) q
theorem xn_callP (G : FnG X.prog X.w X.K X.mg X.base (CXM X.prog X.w) k f fd ps (spP (kxOf X) n mf)) (hr : Room k X.A) (gd : X.A.guards = some []) (hm : X.mg x = some (.ref f)) (hk : PySem.W.keepIn X.K (.ref f) = true) (hb : Binds X.K fd ps ds) (hv : Vals dvs ds) (hd : ∀ F, DpAll (kxOf X) F dvs dds)
    (ha : PA X (e :: es) (aOf (kxOf X) C g)) (hn : ArN g m) (hnm : m + dds.length = n := by rfl) (hg : Gl X x := by rfl) (he : starEach (e :: es) X.env = (false, eval e X.env) :: starEach es X.env := by rfl) (hpl : (backTo pos (starEach es X.env)).any (·.1) = false := by rfl) (hdb : (x == ("__debug__" : Str)) = false := by decide) :
    PE X (.Call (.Name x p) (e :: es) [] pos) (nOf (kxOf X) C (rvN (callP mf dds g))) :=
  pe_wk (pe_callG (E := E0) G hr gd hm hk hb hv passL ha hg he hpl hdb) fun _ _ _ q => callP_n hd (fun st r er => by rw [List.length_append, hn st r er]; exact hnm) q
theorem xd_callQ {i : Nat} (G : FnG X.prog X.w X.K X.mg X.base (CXM X.prog X.w) k f fd ps (spQ (kxOf X) n mq)) (hr : Room k X.A) (gd : X.A.guards = some []) (hm : X.mg x = some (.ref f)) (hk : PySem.W.keepIn X.K (.ref f) = true) (hb : Binds X.K fd ps [])
    (ho : PE X e (tVar i)) (ha : PA X es (aOf (kxOf X) C g)) (hn : ArN g m) (hnm : m + 1 = n := by rfl) (hg : Gl X x := by rfl) (he : starEach (e :: es) X.env = (false, eval e X.env) :: starEach es X.env := by rfl) (hpl : (backTo pos (starEach es X.env)).any (·.1) = false := by rfl) (hdb : (x == ("__debug__" : Str)) = false := by decide) :
    PE X (.Call (.Name x p) (e :: es) [] pos) (dOf (kxOf X) C (rvD (callQ mq i g))) :=
  pe_wk (pe_callG (E := E0) G hr gd hm hk hb .nil passL (pa_cons ho ha he) hg he hpl hdb) fun _ _ _ q => callQ_d (fun st r er => by rw [hn st r er]; exact hnm) q
end
def par2 (i j : Nat) (g : LF) : SF := fun st => (g st).bind fun a => match a.1 with
  | [x, y] => (setD i x a.2).bind fun s1 => (setD j y s1).map fun s2 => (.nx, s2)
  | _ => none
def par3 (i j l : Nat) (g : LF) : SF := fun st => (g st).bind fun a => match a.1 with
  | [x, y, z] => (setD i x a.2).bind fun s1 => (setD j y s1).bind fun s2 => (setD l z s2).map fun s3 => (.nx, s3)
  | _ => none
section
variable {X : Cx} {C : Ct} {pos px py pz pt : Pos} {a b c : Expr} {g : LF} {i j l : Nat} {x y z : Str} {kt k2 pt2}
end
def asgT (f : EF) (u : D → AS → Option AS) : SF := fun st => (f st).bind fun a => (u a.1 a.2).map fun s => (.nx, s)
section
variable {X : Cx} {C : Ct} {pos : Pos} {tg e : Expr} {f : EF} {u : D → AS → Option AS} {ts : List Nat}
end
section
variable {X : Cx} {C : Ct} {pos spos py : Pos} {elt tg iter : Expr} {ifs : List Expr} {scope : Scope} {own : List (Str × Nat)} {it : LF} {u : D → AS → Option AS} {ts : List Nat} {tt : BF} {te : EF} {i : Nat} {y : Str} {vs : List Nat}
theorem xs_setLcN (hN : X.N.Nodup) (hi : PI X tg iter (iOf (kxOf X) C it)) (ok : BlkOk X.N X.env.scope scope own)
    (hg : ∀ (C : Ct) (s : Shared) (H : Hp) (c : Addr) (cl : List (Str × Addr)) (fp : List Addr), PG (X.blk s H scope (compEnvC scope cl c X.env) fp) tg (gOf (kxOf X) C u ts))
    (ht : ∀ (C : Ct) (s : Shared) (H : Hp) (c : Addr) (cl : List (Str × Addr)) (fp : List Addr), PTs (X.blk s H scope (compEnvC scope cl c X.env) fp) ifs (bOf (kxOf X) C tt))
    (he : ∀ (C : Ct) (s : Shared) (H : Hp) (c : Addr) (cl : List (Str × Addr)) (fp : List Addr), PE (X.blk s H scope (compEnvC scope cl c X.env) fp) elt (dOf (kxOf X) C te))
    (hy : X.N[i]? = some y) (hyl : X.env.scope.names.lookup y = some .local) (hsw : swapsWith (.ListComp elt [⟨tg, iter, ifs, 0⟩] scope pos) (some (.Name y py)) spos.line X.env = pure true)
    (hvs : own.map (·.2) = vs := by rfl) (hts : ∀ j ∈ ts, j ∈ vs := by decide) (hc : X.calm = true := by rfl) (hs : ∀ x, foldedSetIterable iter X.env x = pure x := by intro _; rfl) :
    PS X (.Assign [.Name y py] (.ListComp elt [⟨tg, iter, ifs, 0⟩] scope pos) spos) (sOf (kxOf X) C (asgN i (compF it u tt te vs))) := by
  subst hvs
  exact ps_wk (ps_setLc (g := fun v σ H Q => ∃ C, gOf (kxOf X) C u ts v σ H Q) (tt := fun σ H Q => ∃ C, bOf (kxOf X) C tt σ H Q) (te := fun σ H Q => ∃ C, dOf (kxOf X) C te σ H Q) hc hN hy hyl hsw hi ok
    (fun s H c cl fp => ⟨fun pins s1 σ H1 v uu Q I r ⟨C1, q⟩ => (hg C1 s H c cl fp).run pins s1 σ H1 v uu Q I r q⟩)
    (fun s H c cl fp => ⟨fun pins s1 σ H1 Q I ⟨C1, q⟩ => (ht C1 s H c cl fp).run pins s1 σ H1 Q I q⟩)
    (fun s H c cl fp => ⟨fun pins s1 σ H1 Q I ⟨C1, q⟩ => (he C1 s H c cl fp).run pins s1 σ H1 Q I q⟩) hs)
    fun Z σ H q => by
      obtain ⟨F, st, w, R, e, q⟩ := q
      obtain ⟨a, ea, e⟩ := Option.bind_eq_some_iff.mp e
      obtain ⟨st', es, e⟩ := Option.map_eq_some_iff.mp e
      cases e
      exact lc_ok hts _ _ _ (fun C _ _ _ _ k => ⟨C, k⟩) (fun C _ _ _ k => ⟨C, k⟩) (fun C _ _ _ k => ⟨C, k⟩) ⟨F, st, a, R, ea, fun p vs H1 F1 s1 R1 h0 h1 h2 h3 d1 => q _ H1 F1 s1 (R1.setO es h0 ⟨h1, vs, h2, d1⟩ h3)⟩
theorem xs_setLcD (hN : X.N.Nodup) (hi : PI X tg iter (iOf (kxOf X) C it)) (ok : BlkOk X.N X.env.scope scope own)
    (hg : ∀ (C : Ct) (s : Shared) (H : Hp) (c : Addr) (cl : List (Str × Addr)) (fp : List Addr), PG (X.blk s H scope (compEnvC scope cl c X.env) fp) tg (gOf (kxOf X) C u ts))
    (ht : ∀ (C : Ct) (s : Shared) (H : Hp) (c : Addr) (cl : List (Str × Addr)) (fp : List Addr), PTs (X.blk s H scope (compEnvC scope cl c X.env) fp) ifs (bOf (kxOf X) C tt))
    (he : ∀ (C : Ct) (s : Shared) (H : Hp) (c : Addr) (cl : List (Str × Addr)) (fp : List Addr), PE (X.blk s H scope (compEnvC scope cl c X.env) fp) elt (dOf (kxOf X) C te))
    (hy : X.N[i]? = some y) (hyl : X.env.scope.names.lookup y = some .local) (hsw : swapsWith (.ListComp elt [⟨tg, iter, ifs, 0⟩] scope pos) (some (.Name y py)) spos.line X.env = pure true)
    (hvs : own.map (·.2) = vs := by rfl) (hts : ∀ j ∈ ts, j ∈ vs := by decide) (hc : X.calm = true := by rfl) (hs : ∀ x, foldedSetIterable iter X.env x = pure x := by intro _; rfl) :
    PS X (.Assign [.Name y py] (.ListComp elt [⟨tg, iter, ifs, 0⟩] scope pos) spos) (sOf (kxOf X) C (asgS i (listE (compF it u tt te vs)))) := by
  subst hvs
  exact ps_wk (ps_setLc (g := fun v σ H Q => ∃ C, gOf (kxOf X) C u ts v σ H Q) (tt := fun σ H Q => ∃ C, bOf (kxOf X) C tt σ H Q) (te := fun σ H Q => ∃ C, dOf (kxOf X) C te σ H Q) hc hN hy hyl hsw hi ok
    (fun s H c cl fp => ⟨fun pins s1 σ H1 v uu Q I r ⟨C1, q⟩ => (hg C1 s H c cl fp).run pins s1 σ H1 v uu Q I r q⟩)
    (fun s H c cl fp => ⟨fun pins s1 σ H1 Q I ⟨C1, q⟩ => (ht C1 s H c cl fp).run pins s1 σ H1 Q I q⟩)
    (fun s H c cl fp => ⟨fun pins s1 σ H1 Q I ⟨C1, q⟩ => (he C1 s H c cl fp).run pins s1 σ H1 Q I q⟩) hs)
    fun Z σ H q => by
      obtain ⟨F, st, w, R, e, q⟩ := q
      obtain ⟨b, eb, e⟩ := Option.bind_eq_some_iff.mp e
      obtain ⟨st', es, e⟩ := Option.map_eq_some_iff.mp e
      obtain ⟨a, ea, eb⟩ := Option.map_eq_some_iff.mp eb
      cases e
      cases eb
      exact lc_ok hts _ _ _ (fun C _ _ _ _ k => ⟨C, k⟩) (fun C _ _ _ k => ⟨C, k⟩) (fun C _ _ _ k => ⟨C, k⟩) ⟨F, st, a, R, ea, fun p vs H1 F1 s1 R1 h0 h1 h2 h3 d1 => by
        obtain ⟨k1, k2, k3⟩ := R1.freezeNew h0 h1 h2 h3 d1
        exact q _ H1 _ (s1.trans k1) (k2.setD es k3)⟩
end
end Xm
set_option Elab.async false
set_option linter.all false
set_option maxRecDepth 100000
namespace Xm
open PySem PySem.Spec PyProof.Rows L2
theorem dpa_ints {K : Kx} {F : Hp} : ∀ ns : List Int, DpAll K F (ns.map V.int) (ns.map PyData.int)
  | [] => .nil
  | n :: ns => .cons (.int n) (dpa_ints ns)
theorem lawG {P : Program} {w : World} {K : PySem.W.Frag} {mg mb : Str → Option Value} {k : Nat} {fa a : Addr} {fd : FuncData} {x : Str} {mf : List D → Option RV} {st : Shared} {vs : List Value} {ns : List Int}
    (KX : K.In st.heap) (hns : st.heap.Ns mainGlobals mg) (hb : st.heap.Ns builtinsNs mb) (hbb : ∀ x : Str, x ≠ "__name__" → mb x = bootBuiltins x) (hlim : st.heap.NoLimit) (hg : st.gens = #[])
    (ha : st.heap.get? a = some { cls := .type "list", data := .seq vs.toArray }) (hi : IntsAre vs ns) (hl : ns.length ≤ sizeLine) (hr : Room k callerA)
    (G : ∀ base : Heap, K.In base → base.Ns mainGlobals mg → FnG P w K mg base (CXM P w) k fa fd [x] (spP ⟨K, P, w, mg⟩ 1 mf)) (bind : ∀ (s : Shared) (u : Value), BindsTo s fd ⟨[u], []⟩ [(x, u)])
    (hmf : mf [.list (ns.map PyData.int)] = some (.val (.bool true))) :
    codeAny (model P w) callerA (.call (.ref fa) ⟨[.ref a], []⟩) (fun r s' => r = .ok (.ret (.bool true)) ∧ OldK st.heap s'.heap ∧ s'.os = st.os ∧ AllBare s'.gens) st := by
  have rv : Vals (ns.map V.int) vs := vals_ints hi
  have hlen : vs.length = ns.length := hi.length
  obtain ⟨H, hH, hS⟩ : ∃ H : Hp, (∀ b u, H b = some u → b = a ∧ K.lookup a = none ∧ u = .frz { cls := .type "list", data := .seq vs.toArray } (.lst (ns.map V.int))) ∧ SqL K H a (ns.map V.int) := by
    cases hk : K.lookup a with
    | none =>
      refine ⟨fun b => if b = a then some (.frz { cls := .type "list", data := .seq vs.toArray } (.lst (ns.map V.int))) else none, fun b u e => ?_, .inl (.inr ⟨_, if_pos rfl⟩)⟩
      dsimp only at e
      by_cases hb : b = a
      · rw [if_pos hb] at e
        cases e
        exact ⟨hb, rfl, rfl⟩
      · rw [if_neg hb] at e
        cases e
    | some o =>
      have e := KX a o hk
      rw [ha] at e
      cases e
      refine ⟨fun _ => none, fun b u e => (nomatch e), .inr ⟨_, vs.toArray, _, hk, rfl, rfl, rfl, ?_, by simpa using rv⟩⟩
      rw [List.size_toArray, hlen]
      exact hl
  have free_of : ∀ {b : Addr} {o : Obj}, K.lookup b = some o → H b = none := fun {b o} e => by
    cases q : H b with
    | none => rfl
    | some u =>
      obtain ⟨z1, z2, _⟩ := hH b u q
      subst z1
      rw [z2] at e
      cases e
  have free_dict : ∀ {b : Addr} {o : Obj} {es : Array DictEntry} {ep : Nat}, st.heap.get? b = some o → o.data = .dict es ep → H b = none := fun {b o es ep} e d => by
    cases q : H b with
    | none => rfl
    | some u =>
      obtain ⟨z1, _, _⟩ := hH b u q
      subst z1
      rw [ha] at e
      cases e
      cases d
  have nsBase : ∀ {b : Addr} {m : Str → Option Value}, st.heap.Ns b m → (hidT st.heap H).Ns b m := fun {b m} ⟨o, es, ep, e, d, r⟩ => ⟨o, es, ep, hidT_get e (free_dict e d), d, r⟩
  have inBase : K.In (hidT st.heap H) := fun b o e => hidT_get (KX b o e) (free_of e)
  have hok : HOk P w H st.heap := fun b u e => by
    obtain ⟨rfl, _, rfl⟩ := hH b u e
    refine ⟨ha, ?_, vs, _, rv, ha⟩
    rw [List.length_map]
    exact hl
  have modB : Mod K mg (hidT st.heap H) := by
    obtain ⟨mc, h1, h2⟩ := hlim
    exact ⟨inBase, nsBase hns, ⟨mb, nsBase hb, hbb⟩, ⟨mc, nsBase h1, h2⟩⟩
  have entry : Env0 P w K mg (hidT st.heap H) callerA [] st H := by
    refine ⟨rfl, modB, fun b o e => of_hidT e, Nat.le_of_eq (hidT_size _ _), trivial, fun b z => ?_, hok, .of_eq hg⟩
    exact absurd (show b ∈ ([] : List Addr) from z) (by simp)
  refine codeAny_mono ((G _ inBase (nsBase hns)).go callerA [] st H ⟨[.ref a], []⟩ [.ref a] [.ref a] (fun v _ => v = .bl true) E0 hr rfl entry (bind st (.ref a)) (.cons rfl .nil)
    ⟨rfl, H, [.list (ns.map PyData.int)], .val (.bool true), Same.refl _, .cons (.lst hS (dpa_ints ns)) .nil, hmf, fun v F' H' gr ok => dp_bl ok, fun x hx => nomatch hx⟩) fun r s' h => ?_
  match r, h with
  | .error e, h =>
    obtain ⟨_, _, _, _, _, _, _, _, _, _, _, _, z⟩ := h
    exact z.elim
  | .ok (.ret u), h =>
    obtain ⟨v, H', os, bare, un, hok', rv', q⟩ := h
    have q' : v = .bl true := q
    subst q'
    obtain rfl : u = Value.bool true := rv'
    refine ⟨rfl, OldK.of_keep fun b o e => ?_, os, bare⟩
    cases q : H b with
    | none => exact un.keep b o e q (fun z => absurd (show b ∈ ([] : List Addr) from z) (by simp)) (by simp)
    | some u =>
      obtain ⟨rfl, _, rfl⟩ := hH b u q
      obtain ⟨e2, _⟩ := hok' b _ (un.frzs b _ _ q)
      rw [ha] at e
      cases e
      exact e2
theorem walkG {l : PySem.W.OpenLaw} {n k : Nat} {q : Program} {loose : List Str} {XP : (Str → Option Value) → Heap → Prop} {YP : World → Heap → Prop} {d : DefRec} {K : Params → PySem.W.Frag} {mf : List D → Option RV} {x : Str}
    (hn : l.most = some n) (hn2 : n ≤ sizeLine) (hdf : d.params.defaults = []) (hr : Room k callerA)
    (hY : ∀ (w : World) (h : Heap), YP w h → (K w.params).In h)
    (F : ∀ (w : World) (mg : Str → Option Value) (fa : Addr) (h : Heap), (K w.params).In h → h.Ns mainGlobals mg → mg d.name = some (.ref fa) →
      ∃ fd : FuncData, (∀ (s : Shared) (u : Value), BindsTo s fd ⟨[u], []⟩ [(x, u)]) ∧
        ∀ base : Heap, (K w.params).In base → base.Ns mainGlobals mg → FnG l.prog w (K w.params) mg base (CXM l.prog w) k fa fd [x] (spP ⟨K w.params, l.prog, w, mg⟩ 1 mf))
    (hmf : ∀ ns : List Int, ns.length ≤ n → (∀ z ∈ ns, Builtin.Int.intBits z ≤ 1048576) → mf [.list (ns.map PyData.int)] = some (.val (.bool true))) :
    PySem.W.WalkO q loose XP YP l.row.toRowW d [] (fun f vs => PySem.call f vs) := by
  refine Att.attach_callB hn hdf fun w s0 s1 mg mb fa o pm cd doc a vs ns G Y ho hd hcd hmg hobj hints hlen hbits hg => ?_
  obtain ⟨fd, hb, hF⟩ := F w mg fa _ (hY w _ Y) G.T.g hmg
  exact lawG (hY w _ Y) G.T.g G.T.b G.T.builtins G.T.nolimit hg hobj hints (Nat.le_trans hlen hn2) hr hF hb (hmf ns hlen hbits)
end Xm
set_option Elab.async false
set_option linter.all false
set_option maxRecDepth 100000
namespace Xm
open PySem PySem.Spec PyProof.Rows L2
structure Has (P : Program) (w : World) (K : PySem.W.Frag) (mg : Str → Option Value) (base : Heap) (k : Nat) (x : Str) (n : Nat) (dds : List D) (mf : List D → Option RV) : Prop where
  ex : ∃ (f : Addr) (fd : FuncData) (ps : List Str) (dvs : List V) (ds : List Value), FnG P w K mg base (CXM P w) k f fd ps (spP ⟨K, P, w, mg⟩ n mf) ∧ mg x = some (.ref f) ∧ PySem.W.keepIn K (.ref f) = true ∧ Binds K fd ps ds ∧ Vals dvs ds ∧ ∀ F, DpAll ⟨K, P, w, mg⟩ F dvs dds
structure HasQ (P : Program) (w : World) (K : PySem.W.Frag) (mg : Str → Option Value) (base : Heap) (k : Nat) (x : Str) (n : Nat) (mq : List D → List D → Option (RV × List D)) : Prop where
  ex : ∃ (f : Addr) (fd : FuncData) (ps : List Str), FnG P w K mg base (CXM P w) k f fd ps (spQ ⟨K, P, w, mg⟩ n mq) ∧ mg x = some (.ref f) ∧ PySem.W.keepIn K (.ref f) = true ∧ Binds K fd ps []
section
variable {X : Cx} {C : Ct} {j k n m : Nat} {x : Str} {p pos : Pos} {e : Expr} {es : List Expr} {g : LF} {mf : List D → Option RV} {mq : List D → List D → Option (RV × List D)} {dds : List D} {d : D}
theorem xd_call (h : Has X.prog X.w X.K X.mg X.base j x n dds mf) (hr : Room k X.A) (gd : X.A.guards = some []) (hjk : j ≤ k) (ha : PA X (e :: es) (aOf (kxOf X) C g)) (hn : ArN g m) (hnm : m + dds.length = n := by rfl) (hg : Gl X x := by rfl)
    (he : starEach (e :: es) X.env = (false, eval e X.env) :: starEach es X.env := by rfl) (hpl : (backTo pos (starEach es X.env)).any (·.1) = false := by rfl) (hdb : (x == ("__debug__" : Str)) = false := by decide) :
    PE X (.Call (.Name x p) (e :: es) [] pos) (dOf (kxOf X) C (rvD (callP mf dds g))) := by
  obtain ⟨f, fd, ps, dvs, ds, G, hm, hk, hb, hv, hd⟩ := h.ex
  exact xd_callP G (hr.mono hjk) gd hm hk hb hv hd ha hn hnm hg he hpl hdb
theorem xn_call (h : Has X.prog X.w X.K X.mg X.base j x n dds mf) (hr : Room k X.A) (gd : X.A.guards = some []) (hjk : j ≤ k) (ha : PA X (e :: es) (aOf (kxOf X) C g)) (hn : ArN g m) (hnm : m + dds.length = n := by rfl) (hg : Gl X x := by rfl)
    (he : starEach (e :: es) X.env = (false, eval e X.env) :: starEach es X.env := by rfl) (hpl : (backTo pos (starEach es X.env)).any (·.1) = false := by rfl) (hdb : (x == ("__debug__" : Str)) = false := by decide) :
    PE X (.Call (.Name x p) (e :: es) [] pos) (nOf (kxOf X) C (rvN (callP mf dds g))) := by
  obtain ⟨f, fd, ps, dvs, ds, G, hm, hk, hb, hv, hd⟩ := h.ex
  exact xn_callP G (hr.mono hjk) gd hm hk hb hv hd ha hn hnm hg he hpl hdb
theorem xd_callM {i : Nat} (h : HasQ X.prog X.w X.K X.mg X.base j x n mq) (hr : Room k X.A) (gd : X.A.guards = some []) (hjk : j ≤ k) (ho : PE X e (tVar i)) (ha : PA X es (aOf (kxOf X) C g)) (hn : ArN g m) (hnm : m + 1 = n := by rfl) (hg : Gl X x := by rfl)
    (he : starEach (e :: es) X.env = (false, eval e X.env) :: starEach es X.env := by rfl) (hpl : (backTo pos (starEach es X.env)).any (·.1) = false := by rfl) (hdb : (x == ("__debug__" : Str)) = false := by decide) :
    PE X (.Call (.Name x p) (e :: es) [] pos) (dOf (kxOf X) C (rvD (callQ mq i g))) := by
  obtain ⟨f, fd, ps, G, hm, hk, hb⟩ := h.ex
  exact xd_callQ G (hr.mono hjk) gd hm hk hb ho ha hn hnm hg he hpl hdb
end
theorem Room.u65 {k : Nat} {A : Around} (r : Room k A) : A.units + 65 < cLine := by have := r.un; omega
abbrev Dn (K : PySem.W.Frag) (x : Str) (st : Stmt) (dvs : List V) (f : Addr) (fd : FuncData) : Prop := FunD K x x (defArgs st) (defBody st) (defScope st) dvs [] f fd
section
variable {P : Program} {w : World} {K : PySem.W.Frag} {mg : Str → Option Value} {base : Heap} {CX : CXT} {k j : Nat} {f : Addr} {fd : FuncData} {ps N : List Str} {sp : Sp} {dvs : List V}
theorem fnG_ofD {x : Str} {st : Stmt} (T : Dn K x st dvs f fd) (S : FnScope N ps (defScope st)) (ar : ∀ vs H Q E, sp vs H Q E → vs.length = ps.length)
    (body : ∀ (cdv : Value) (A : Around) (outer : List Env) (s : Shared) (H : Hp) (vs : List V) (Q : VK) (E : XK), Room k (A.deeper (envOfC x (defScope st) s.heap.objs.size f cdv)) → A.guards = some [] → sp vs H Q E →
      ∃ t, PSs (cxOf CX P w K mg base N x (defScope st) f cdv A outer s H E) (defBody st) t ∧ t { nx := fun _ H' => Q .non H', rt := Q } (L2.start N vs) H) : FnG P w K mg base CX (k + 1) f fd ps sp := by
  obtain ⟨oc, od, dV, kV, doc, pm, an, cdv, ct, osl, rfl, lk, hcd, _, _⟩ := T.ex
  refine ⟨ar, fun A outer s H args us vs Q E room guards env bind rel want => ?_⟩
  have inHeap : ∀ b o, base.get? b = some o → s.heap.get? b = some o := fun b o e => (env.bs b o e).1
  have written : K.In s.heap := env.mod.kin.keeps inHeap
  have param : ∀ y ∈ ps.zip us, (defScope st).names.lookup y.1 = some .local ∨ ((defScope st).names.lookup y.1 = some .cell ∧ ((cellsFrom (s.heap.objs.size + 1) (defScope st).names []).lookup y.1).isSome = true) := by
    intro y hy
    rcases S.par y.1 (List.of_mem_zip hy).1 with q | q
    · exact .inl q
    · exact .inr ⟨q, PySem.W.cellsFrom_some _ _ _ (.inl q)⟩
  refine codeAny_call_function room.depth (written _ _ lk) rfl S.co S.gen rfl (PySem.W.codeRec_of written hcd) (bind _ _ _ _ ?_)
  refine wpAny_newFunctionEnv_cells S.kind param fun en hen s1 inC => ?_
  subst hen
  refine ⟨(env.mod.nolimit.keeps inHeap).keeps inC.toInCall.keep, codeAny_func ?_⟩
  obtain ⟨t, pss, ht⟩ := body cdv A outer s H vs Q E (room.deeper _) guards want
  have I0 := inv_start (CX := CX) (qual := x) (f := f) (cd := cdv) (E := E) S room.hd env (ar _ _ _ _ want) rel inC
  refine wpAny_mono (pss.run [] s1 (L2.start N vs) H _ I0 ht) (fun fl s' hs => ?_) fun _ _ z => z
  cases fl with
  | ret u =>
    obtain ⟨v, σ', H', J, rv, q⟩ := hs
    exact ⟨v, H', J.os, J.bare, J.base, J.hok, rv, q⟩
  | next =>
    obtain ⟨σ', H', J, q⟩ := hs
    exact ⟨V.non, H', J.os, J.bare, J.base, J.hok, rfl, q⟩
  | brk =>
    obtain ⟨_, _, _, q⟩ := hs
    exact q.elim
  | cont =>
    obtain ⟨_, _, _, q⟩ := hs
    exact q.elim
theorem defX {x : Str} {st : Stmt} {n : Nat} {mf : List D → Option RV} (g : SF) (T : Dn K x st dvs f fd) (S : FnScope N ps (defScope st)) (hn : n = ps.length) (hn2 : n ≤ N.length)
    (law : ∀ ds r, ds.length = n → mf ds = some r → Leaves g (st0 N.length ds) r fun _ => True)
    (body : ∀ (C : Ct) (cdv : Value) (A : Around) (outer : List Env) (s : Shared) (H : Hp) (E : XK), C.W = (fun cls d _ H => E cls d H) → Room k (A.deeper (envOfC x (defScope st) s.heap.objs.size f cdv)) → (A.deeper (envOfC x (defScope st) s.heap.objs.size f cdv)).guards = some [] →
      PSs (cxOf CX P w K mg base N x (defScope st) f cdv A outer s H E) (defBody st) (sOf ⟨K, P, w, mg⟩ C g)) : FnG P w K mg base CX (k + 1) f fd ps (spP ⟨K, P, w, mg⟩ n mf) := by
  refine fnG_ofD T S (fun vs H Q E h => h.1.trans hn) fun cdv A outer s H vs Q E room guards want => ?_
  obtain ⟨hl, F, ds, r, fh, hd, hm, q, qx⟩ := want
  refine ⟨_, body ⟨H, F, none, fun cls d _ H => E cls d H⟩ cdv A outer s H E rfl room guards, ?_⟩
  obtain ⟨st', hg, _⟩ := law ds r ((DpAll_len hd).symm.trans hl) hm
  have R0 : Rel ⟨K, P, w, mg⟩ ⟨H, F, none, fun cls d _ H => E cls d H⟩ F (st0 N.length ds) (L2.start N vs) H := rel0 fh hd (by omega)
  rcases hg with hg | ⟨hg, rfl⟩
  · refine ⟨F, _, _, R0, hg, ?_⟩
    cases r with
    | val d => exact fun v σ' H' F' s1 R1 ok => q v F' H' R1.gr ok
    | new xs => exact fun v σ' H' F' s1 R1 ok => q v F' H' R1.gr ok
    | dct xs => exact fun v σ' H' F' s1 R1 ok => q v F' H' R1.gr ok
    | exc x => exact fun cls d σ' H' F' s1 R1 ok => qx x rfl cls d F' H' R1.gr ok
  · exact ⟨F, _, _, R0, hg, fun σ' H' F' s1 R1 => q .non F' H' R1.gr .non⟩
theorem defP {x : Str} {st : Stmt} {n : Nat} {mf : List D → Option RV} (g : SF) (T : Dn K x st dvs f fd) (S : FnScope N ps (defScope st)) (hn : n = ps.length) (hn2 : n ≤ N.length)
    (law : ∀ ds r, ds.length = n → mf ds = some r → Leaves g (st0 N.length ds) r fun _ => True)
    (body : ∀ (C : Ct) (cdv : Value) (A : Around) (outer : List Env) (s : Shared) (H : Hp) (E : XK), Room k (A.deeper (envOfC x (defScope st) s.heap.objs.size f cdv)) → (A.deeper (envOfC x (defScope st) s.heap.objs.size f cdv)).guards = some [] →
      PSs (cxOf CX P w K mg base N x (defScope st) f cdv A outer s H E).nox (defBody st) (sOf ⟨K, P, w, mg⟩ C g)) : FnG P w K mg base CX (k + 1) f fd ps (spP ⟨K, P, w, mg⟩ n mf) :=
  defX g T S hn hn2 law fun C cdv A outer s H E _ room guards => (body C cdv A outer s H E room guards).nox
theorem defQ {x : Str} {st : Stmt} {n : Nat} {mf : List D → List D → Option (RV × List D)} (g : SF) (T : Dn K x st dvs f fd) (S : FnScope N ps (defScope st)) (hn : n = ps.length) (hn2 : n ≤ N.length)
    (law : ∀ xs ds r, ds.length + 1 = n → mf xs ds = some r → Leaves g (st1 N.length xs ds) r.1 fun st' => st'[0]? = some (.pen r.2))
    (body : ∀ (C : Ct) (cdv : Value) (A : Around) (outer : List Env) (s : Shared) (H : Hp) (E : XK), Room k (A.deeper (envOfC x (defScope st) s.heap.objs.size f cdv)) → (A.deeper (envOfC x (defScope st) s.heap.objs.size f cdv)).guards = some [] →
      PSs (cxOf CX P w K mg base N x (defScope st) f cdv A outer s H E).nox (defBody st) (sOf ⟨K, P, w, mg⟩ C g)) : FnG P w K mg base CX (k + 1) f fd ps (spQ ⟨K, P, w, mg⟩ n mf) := by
  refine fnG_ofD T S (fun vs H Q E h => h.1.trans hn) fun cdv A outer s H vs Q E room guards want => ?_
  obtain ⟨hl, F, p, vs', us, xs, ds, r, rfl, fh, hp, hH, hu, hd, hm, nx, q⟩ := want
  refine ⟨_, (body ⟨H, F, some p, fun cls d _ H => E cls d H⟩ cdv A outer s H E room guards).nox, ?_⟩
  have hl' : vs'.length + 1 = n := by simpa using hl
  obtain ⟨st', hg, hlast⟩ := law xs ds r (by rw [← DpAll_len hd]; exact hl') hm
  have R0 : Rel ⟨K, P, w, mg⟩ ⟨H, F, some p, fun cls d _ H => E cls d H⟩ F (st1 N.length xs ds) (L2.start N (.ref p :: vs')) H := rel1 fh hp hH hu hd (by omega)
  rcases hg with hg | ⟨hg, hr⟩
  · refine ⟨F, _, _, R0, hg, ?_⟩
    have fin : ∀ v (σ' : L2.St) (H' F' : Hp), Same F F' → Rel ⟨K, P, w, mg⟩ ⟨H, F, some p, fun cls d _ H => E cls d H⟩ F' st' σ' H' → RvOk ⟨K, P, w, mg⟩ H F' H' v r.1 → Q v H' := fun v σ' H' F' s1 R1 ok => by
      obtain ⟨a, h1, h2, h3, us', h4, h5⟩ := R1.slot 0 _ hlast
      cases h2
      exact q v F' H' us' R1.grP h3 h4 h5 ok
    cases hr : r.1 with
    | val d => exact fun v σ' H' F' s1 R1 ok => fin v σ' H' F' s1 R1 (by rw [hr]; exact ok)
    | new xs => exact fun v σ' H' F' s1 R1 ok => fin v σ' H' F' s1 R1 (by rw [hr]; exact ok)
    | dct xs => exact fun v σ' H' F' s1 R1 ok => fin v σ' H' F' s1 R1 (by rw [hr]; exact ok)
    | exc x => exact absurd hr (nx x)
  · refine ⟨F, _, _, R0, hg, fun σ' H' F' s1 R1 => ?_⟩
    obtain ⟨a, h1, h2, h3, us', h4, h5⟩ := R1.slot 0 _ hlast
    cases h2
    refine q .non F' H' us' R1.grP h3 h4 h5 ?_
    rw [hr]
    exact .non
end
section
variable {K : PySem.W.Frag} {x : Str} {st : Stmt} {f : Addr} {oc kV doc pm cdv ct : Value} {od an : Option Addr} {osl : Array (Option Value)}
theorem dn_mk (l : K.lookup f = some ⟨oc, od, .func (PySem.W.fnOf x x (defArgs st) (defBody st) (defScope st) .none kV doc pm an cdv ct), osl⟩) (c : PySem.W.codeIn K cdv x = true) (k : PySem.W.keepIn K (.ref f) = true) :
    Dn K x st [] f (PySem.W.fnOf x x (defArgs st) (defBody st) (defScope st) .none kV doc pm an cdv ct) := ⟨⟨oc, od, .none, kV, doc, pm, an, cdv, ct, osl, rfl, l, c, .inl ⟨rfl, rfl⟩, .inl rfl⟩, k⟩
end
end Xm
set_option Elab.async false
set_option linter.all false
set_option maxRecDepth 100000
namespace Xm
open PySem PySem.Spec PyProof.Rows L2
def npB : Slot → Bool
  | .pen _ => false
  | _ => true
def npO : Option Slot → Bool
  | some s => npB s
  | none => false
section
variable {f g : EF} {u v c : BF} {a b : LF} {s t : SF} {st : AS} {i j l : Nat} {k : D → D → Option D} {h : D → Option D} {d : D}
@[simp] theorem e_cst : cst d st = some (d, st) := rfl
@[simp] theorem e_rd : rd i st = (match st[i]? with
  | some (.dat d) => some (d, st)
  | some (.own xs) => some (.list xs, st.set i (.dat (.list xs)))
  | _ => none) := rfl
@[simp] theorem e_bin2 : bin2 k f g st = (f st).bind fun a => (g a.2).bind fun b => (k a.1 b.1).map fun z => (z, b.2) := rfl
@[simp] theorem e_un1 : un1 h f st = (f st).bind fun a => (h a.1).map fun z => (z, a.2) := rfl
@[simp] theorem e_nilA : nilA st = some ([], st) := rfl
@[simp] theorem e_consA : consA f a st = (f st).bind fun x => (a x.2).map fun y => (x.1 :: y.1, y.2) := rfl
@[simp] theorem e_tupF : tupF a st = (a st).bind fun b => if b.1.length ≤ sizeLine then some (.tuple b.1, b.2) else none := rfl
@[simp] theorem e_lstF : lstF a st = (a st).bind fun b => if b.1.length ≤ sizeLine then some (.list b.1, b.2) else none := rfl
@[simp] theorem e_newF : newF a st = (a st).bind fun b => if b.1.length ≤ sizeLine then some b else none := rfl
@[simp] theorem e_muC : muC st i = (match st[i]? with
  | some (.own xs) => some xs
  | some (.pen xs) => some xs
  | _ => none) := rfl
@[simp] theorem e_putM {xs : List D} : putM st i xs = (match st[i]? with
  | some (.own _) => st.set i (.own xs)
  | some (.pen _) => st.set i (.pen xs)
  | _ => st) := rfl
@[simp] theorem e_ixM : ixM i g st = (muC st i).bind fun _ => (g st).bind fun b => (muC b.2 i).bind fun xs => (kIx (.list xs) b.1).map fun z => (z, b.2) := rfl
@[simp] theorem e_lenM : lenM i st = (muC st i).map fun xs => (.int xs.length, st) := rfl
@[simp] theorem e_valB : valB f st = (f st).bind fun a => (match a.1 with
  | .bool b => some (b, a.2)
  | _ => none) := rfl
@[simp] theorem e_andB : andB u v st = (u st).bind fun a => if a.1 = true then v a.2 else some (false, a.2) := rfl
@[simp] theorem e_orB : orB u v st = (u st).bind fun a => if a.1 = true then some (true, a.2) else v a.2 := rfl
@[simp] theorem e_notB : notB u st = (u st).map fun a => (!a.1, a.2) := rfl
@[simp] theorem e_boolE : boolE u st = (u st).map fun a => (.bool a.1, a.2) := rfl
@[simp] theorem e_ifE : ifE c f g st = (c st).bind fun a => if a.1 = true then f a.2 else g a.2 := rfl
@[simp] theorem e_seqS : seqS s t st = (s st).bind fun w => (match w.1 with
  | .nx => t w.2
  | _ => some w) := rfl
@[simp] theorem e_skipS : skipS st = some (.nx, st) := rfl
@[simp] theorem e_retS : retS f st = (f st).map fun a => (.ret (.val a.1), a.2) := rfl
@[simp] theorem e_retN : retN a st = (a st).map fun a => (.ret (.new a.1), a.2) := rfl
@[simp] theorem e_dropS : dropS f st = (f st).map fun a => (.nx, a.2) := rfl
@[simp] theorem e_ifS : ifS c s t st = (c st).bind fun a => if a.1 = true then s a.2 else t a.2 := rfl
@[simp] theorem npO_some {s : Slot} : npO (some s) = npB s := rfl
@[simp] theorem npB_no : npB .no = true := rfl
@[simp] theorem npB_dat : npB (.dat d) = true := rfl
@[simp] theorem npB_own {xs : List D} : npB (.own xs) = true := rfl
@[simp] theorem e_setD : setD i d st = if npO st[i]? = true then some (st.set i (.dat d)) else none := by
  unfold setD
  cases h : st[i]? with
  | none => rfl
  | some s => cases s <;> rfl
@[simp] theorem e_setO {xs : List D} : setO i xs st = if npO st[i]? = true then some (st.set i (.own xs)) else none := by
  unfold setO
  cases h : st[i]? with
  | none => rfl
  | some s => cases s <;> rfl
@[simp] theorem e_asgS : asgS i f st = (f st).bind fun a => (setD i a.1 a.2).map fun st' => (.nx, st') := rfl
@[simp] theorem e_asgN : asgN i a st = (a st).bind fun b => (setO i b.1 b.2).map fun st' => (.nx, st') := rfl
@[simp] theorem e_setM : setM i f g st = (muC st i).bind fun _ => (f st).bind fun a => (muC a.2 i).bind fun _ => (g a.2).bind fun b => (muC b.2 i).bind fun xs => (match b.1 with
  | .int k => (ixN xs.length k).map fun j => (.nx, putM b.2 i (xs.set j a.1))
  | _ => none) := rfl
@[simp] theorem e_par2 : par2 i j a st = (a st).bind fun a => (match a.1 with
  | [x, y] => (setD i x a.2).bind fun s1 => (setD j y s1).map fun s2 => (.nx, s2)
  | _ => none) := rfl
@[simp] theorem e_par3 : par3 i j l a st = (a st).bind fun a => (match a.1 with
  | [x, y, z] => (setD i x a.2).bind fun s1 => (setD j y s1).bind fun s2 => (setD l z s2).map fun s3 => (.nx, s3)
  | _ => none) := rfl
@[simp] theorem e_callP {mf : List D → Option RV} {dvs : List D} : callP mf dvs a st = (a st).bind fun a => (mf (a.1 ++ dvs)).map fun r => (r, a.2) := rfl
@[simp] theorem e_callQ {mf : List D → List D → Option (RV × List D)} : callQ mf i a st = (muC st i).bind fun _ => (a st).bind fun a => (muC a.2 i).bind fun xs => (mf xs a.1).map fun r => (r.1, putM a.2 i r.2) := rfl
@[simp] theorem e_rvD {c : AS → Option (RV × AS)} : rvD c st = (c st).bind fun r => (match r.1 with
  | .val d => some (d, r.2)
  | .new xs => some (.list xs, r.2)
  | .dct _ => none
  | .exc _ => none) := rfl
@[simp] theorem e_rvN {c : AS → Option (RV × AS)} : rvN c st = (c st).bind fun r => (match r.1 with
  | .new xs => some (xs, r.2)
  | _ => none) := rfl
@[simp] theorem e_yesB : yesB st = some (true, st) := rfl
@[simp] theorem e_listE : listE a st = (a st).map fun a => (.list a.1, a.2) := rfl
@[simp] theorem e_st0 {n : Nat} {ds : List D} : st0 n ds = ds.map Slot.dat ++ List.replicate (n - ds.length) Slot.no := rfl
@[simp] theorem e_st1 {n : Nat} {xs ds : List D} : st1 n xs ds = Slot.pen xs :: (ds.map Slot.dat ++ List.replicate (n - ds.length - 1) Slot.no) := rfl
@[simp] theorem e_itD : itD f st = (f st).bind fun a => (match a.1 with
  | .list xs => some (xs, a.2)
  | .tuple xs => some (xs, a.2)
  | _ => none) := rfl
@[simp] theorem e_noO : noO st = some (none, st) := rfl
@[simp] theorem e_someO : someO f st = (f st).bind fun a => (match a.1 with
  | .int i => some (some i, a.2)
  | _ => none) := rfl
@[simp] theorem e_cutF {x y : OF} : cutF f x y st = (f st).bind fun a => (x a.2).bind fun l => (y l.2).bind fun h => (match a.1 with
  | .list xs => some (.list (cutX xs l.1 h.1), h.2)
  | .tuple xs => some (.tuple (cutX xs l.1 h.1), h.2)
  | _ => none) := rfl
@[simp] theorem e_itR1 : itR1 f st = (f st).bind fun a => (match a.1 with
  | .int j => if -(2 ^ 62) ≤ j ∧ j < 2 ^ 62 then some (rngD 0 j, a.2) else none
  | _ => none) := rfl
@[simp] theorem e_revF : revF f st = (f st).bind fun a => (match a.1 with
  | .list xs => some (.list xs.reverse, a.2)
  | _ => none) := rfl
end
section
variable {i j : Int} {a b : D} {xs ys : List D}
@[simp] theorem k_add : kAdd (.int i) (.int j) = some (.int (i + j)) := rfl
@[simp] theorem k_cat : kCat (.int i) (.int j) = some (.int (i + j)) := rfl
@[simp] theorem k_sub : kSub (.int i) (.int j) = some (.int (i - j)) := rfl
@[simp] theorem k_lt : kLt (.int i) (.int j) = some (.bool (decide (i < j))) := rfl
@[simp] theorem k_le : kLe (.int i) (.int j) = some (.bool (decide (i ≤ j))) := rfl
@[simp] theorem k_gt : kGt (.int i) (.int j) = some (.bool (decide (j < i))) := rfl
@[simp] theorem k_ge : kGe (.int i) (.int j) = some (.bool (decide (j ≤ i))) := rfl
@[simp] theorem k_neg : kNeg (.int i) = some (.int (-i)) := rfl
@[simp] theorem k_abs : kAbs (.int i) = some (.int (i.natAbs : Int)) := by
  show some (PyData.int (if i < 0 then -i else i)) = _
  congr 2
  split <;> omega
@[simp] theorem k_lenL : kLen (.list xs) = some (.int xs.length) := rfl
@[simp] theorem k_lenT : kLen (.tuple xs) = some (.int xs.length) := rfl
@[simp] theorem k_list : kList (.list xs) = some (.list xs) := rfl
@[simp] theorem k_listT : kList (.tuple xs) = some (.list xs) := rfl
@[simp] theorem k_tupL : kTuple (.list xs) = some (.tuple xs) := rfl
@[simp] theorem k_tupT : kTuple (.tuple xs) = some (.tuple xs) := rfl
@[simp] theorem k_intB {x : Bool} : kInt (.bool x) = some (.int (if x then 1 else 0)) := rfl
@[simp] theorem k_eqStr {x y : Str} : kEq (.str x) (.str y) = some (.bool (decide (x = y))) := rfl
@[simp] theorem k_neStr {x y : Str} : kNe (.str x) (.str y) = some (.bool (!decide (x = y))) := rfl
@[simp] theorem k_eqI : kEq (.int i) (.int j) = some (.bool (i == j)) := by
  show kEqD _ _ = _
  unfold kEqD
  rw [if_pos ⟨rfl, rfl⟩]
  simp only [PyData.eqv]
@[simp] theorem k_neI : kNe (.int i) (.int j) = some (.bool (!(i == j))) := by
  show kNeD _ _ = _
  unfold kNeD
  rw [if_pos ⟨rfl, rfl⟩]
  simp only [PyData.eqv]
theorem k_mod (h : j ≠ 0) : kMod (.int i) (.int j) = some (.int (i.fmod j)) := if_pos h
theorem k_ixT (h : atI xs i = some a) : kIx (.tuple xs) (.int i) = some a := h
@[simp] theorem ix_L : kIx (.list xs) (.int i) = atI xs i := rfl
@[simp] theorem ix_T : kIx (.tuple xs) (.int i) = atI xs i := rfl
end
section
variable {α : Type} {x y z : α} {l : List α}
@[simp] theorem at_0 : atI (x :: l) 0 = some x := atI_nat (j := 0) rfl
@[simp] theorem at_1 : atI (x :: y :: l) 1 = some y := atI_nat (j := 1) rfl
@[simp] theorem at_2 : atI (x :: y :: z :: l) 2 = some z := atI_nat (j := 2) rfl
theorem at_n {n : Nat} {xs : List α} (h : xs[n]? = some x) : atI xs (n : Int) = some x := atI_nat h
@[simp] theorem ixN_0 {n : Nat} : ixN (n + 1) 0 = some 0 := by unfold ixN; rw [if_pos (by omega), if_pos (by omega)]; rfl
@[simp] theorem ixN_1 {n : Nat} : ixN (n + 1 + 1) 1 = some 1 := by unfold ixN; rw [if_pos (by omega), if_pos (by omega)]; rfl
@[simp] theorem ixN_2 {n : Nat} : ixN (n + 1 + 1 + 1) 2 = some 2 := by unfold ixN; rw [if_pos (by omega), if_pos (by omega)]; rfl
end
theorem sl_le {n : Nat} (h : n ≤ 1000000) : n ≤ sizeLine := by rw [sizeLine_eq]; omega
@[simp] theorem sl_iff : sizeLine = 16777216 := sizeLine_eq
def Sm (i : Int) : Prop := i.natAbs < 2 ^ 4000
instance (i : Int) : Decidable (Sm i) := by unfold Sm; infer_instance
theorem log2_sm {i : Int} (h : Sm i) : i.natAbs.log2 < 4000 := PySem.Flt.log2_lt_of (by omega) h
theorem k_mul {i j : Int} (hi : Sm i) (hj : Sm j) : kMul (.int i) (.int j) = some (.int (i * j)) := by
  have h1 := log2_sm hi
  have h2 := log2_sm hj
  exact if_pos (show i.natAbs.log2 + j.natAbs.log2 < 1000000 by omega)
def Sd (j : Int) : Prop := j.natAbs.log2 < 9000
instance (i : Int) : Decidable (Sd i) := by unfold Sd; infer_instance
theorem k_div {i j : Int} (h0 : j ≠ 0) (hj : Sd j) : kDiv (.int i) (.int j) = some (.int (i.fdiv j)) := if_pos ⟨h0, hj⟩
theorem sm_of {i : Int} {k : Nat} (h : i.natAbs < 2 ^ k) (hk : k ≤ 4000) : Sm i := Nat.lt_of_lt_of_le h (Nat.pow_le_pow_right (by omega) hk)
theorem sd_of {i : Int} (h : Sm i) : Sd i := by
  have := log2_sm h
  unfold Sd
  omega
def sh (q : Rat) : D := .tuple [.int q.num, .int q.den]
def toQ : D → Option Rat
  | .tuple [.int a, .int b] => if 0 < b ∧ Int.gcd a b = 1 then some (Rat.divInt a b) else none
  | _ => none
theorem q_num_den (q : Rat) : Rat.divInt q.num q.den = q := by
  exact Rat.num_divInt_den q
@[simp] theorem toQ_sh (q : Rat) : toQ (sh q) = some q := by
  unfold toQ sh
  have h1 : (0 : Int) < q.den := by have := q.den_pos; omega
  have h2 : Int.gcd q.num q.den = 1 := q.reduced
  simp only
  rw [if_pos ⟨h1, h2⟩, q_num_den]
theorem cut_take {α : Type} (l : List α) (k : Nat) : cutX l none (some (k : Int)) = l.take k := by
  unfold cutX
  rw [HT.sIx_none, HT.sIx_nat, List.drop_zero, Nat.sub_zero]
  by_cases h : k ≤ l.length
  · rw [Nat.min_eq_left h]
  · rw [Nat.min_eq_right (by omega), List.take_of_length_le (Nat.le_refl _), List.take_of_length_le (by omega)]
theorem cut_drop {α : Type} (l : List α) (k : Nat) : cutX l (some (k : Int)) none = l.drop k := by
  unfold cutX
  rw [HT.sIx_none, HT.sIx_nat]
  by_cases h : k ≤ l.length
  · rw [Nat.min_eq_left h, List.take_of_length_le (by simp)]
  · rw [Nat.min_eq_right (by omega), List.drop_of_length_le (Nat.le_refl _), List.drop_of_length_le (by omega), List.take_nil]
theorem loopS_cons {u : D → AS → Option AS} {b : SF} {d : D} {ds : List D} {s s1 s2 : AS} (h1 : u d s = some s1) (h2 : b s1 = some (.nx, s2)) : loopS u b (d :: ds) s = loopS u b ds s2 := by
  simp only [loopS, h1, Option.bind_some, h2]
theorem forS_of {it : LF} {u : D → AS → Option AS} {b : SF} {s : AS} {a : List D × AS} (h : it s = some a) : forS it u b s = loopS u b a.1 a.2 := by
  unfold forS
  rw [h]
  rfl
theorem compL_cons {u : D → AS → Option AS} {te : EF} {vs : List Nat} {d x : D} {ds : List D} {s s1 s2 : AS} (h1 : u d s = some s1) (h2 : te s1 = some (x, s2)) : compL u yesB te vs (d :: ds) s = (compL u yesB te vs ds (clr s2 vs)).map fun r => (x :: r.1, r.2) := by
  simp only [compL, h1, Option.bind_some, yesB, if_true, h2]
theorem compF_of {it : LF} {u : D → AS → Option AS} {tt : BF} {te : EF} {vs : List Nat} {s : AS} {a : List D × AS} (h : it s = some a) (hn : allNo a.2 vs = true) (hl : a.1.length ≤ sizeLine) : compF it u tt te vs s = compL u tt te vs a.1 a.2 := by
  unfold compF
  rw [h]
  simp only [Option.bind_some]
  rw [if_pos ⟨hn, hl⟩]
end Xm
set_option Elab.async false
set_option linter.all false
set_option maxRecDepth 100000
namespace Xm
open PySem PySem.Spec PyProof.Rows L2
def SmQ (q : Rat) : Prop := Sm q.num ∧ Sm q.den
instance (q : Rat) : Decidable (SmQ q) := by unfold SmQ; infer_instance
theorem den_ne (q : Rat) : (q.den : Int) ≠ 0 := by have := q.den_pos; omega
theorem den2_ne (p q : Rat) : (p.den : Int) * q.den ≠ 0 := Int.mul_ne_zero (den_ne p) (den_ne q)
theorem sub_divInt (p q : Rat) : Rat.divInt (p.num * q.den - q.num * p.den) (p.den * q.den) = p - q := by
  rw [Rat.sub_def', ← Rat.divInt_ofNat]
  rfl
end Xm
set_option Elab.async false
set_option linter.all false
set_option maxRecDepth 100000
namespace Xm
open PySem PySem.Spec PyProof.Rows L2
def Bq (k : Nat) (q : Rat) : Prop := q.num.natAbs < 2 ^ k ∧ q.den < 2 ^ k
theorem Bq.mono {j k : Nat} {q : Rat} (h : Bq j q) (l : j ≤ k) : Bq k q :=
  ⟨Nat.lt_of_lt_of_le h.1 (Nat.pow_le_pow_right (by omega) l), Nat.lt_of_lt_of_le h.2 (Nat.pow_le_pow_right (by omega) l)⟩
theorem Bq.sm {k : Nat} {q : Rat} (h : Bq k q) (l : k ≤ 4000) : SmQ q := ⟨sm_of h.1 l, sm_of (k := k) (by have := h.2; omega) l⟩
theorem num_le (a b : Int) : (Rat.divInt a b).num.natAbs ≤ a.natAbs := by
  rw [Rat.num_divInt]
  rw [Int.natAbs_ediv_of_dvd (by
    rw [Int.gcd_comm]
    exact Int.dvd_trans (Int.gcd_dvd_left ..) (Int.dvd_mul_left ..)), Int.natAbs_mul]
  have : b.sign.natAbs ≤ 1 := by
    rcases Int.lt_trichotomy b 0 with h | h | h
    · rw [Int.sign_eq_neg_one_of_neg h]; decide
    · subst h; decide
    · rw [Int.sign_eq_one_of_pos h]; decide
  calc b.sign.natAbs * a.natAbs / (b.gcd a : Int).natAbs ≤ b.sign.natAbs * a.natAbs := Nat.div_le_self ..
    _ ≤ 1 * a.natAbs := Nat.mul_le_mul_right _ this
    _ = a.natAbs := Nat.one_mul _
theorem den_le (a : Int) {b : Int} (hb : b ≠ 0) : (Rat.divInt a b).den ≤ b.natAbs := by
  rw [Rat.den_divInt, if_neg hb]
  exact Nat.div_le_self ..
theorem bq_divInt {k : Nat} {a b : Int} (hb : b ≠ 0) (h1 : a.natAbs < 2 ^ k) (h2 : b.natAbs < 2 ^ k) : Bq k (Rat.divInt a b) := ⟨Nat.lt_of_le_of_lt (num_le a b) h1, Nat.lt_of_le_of_lt (den_le a hb) h2⟩
theorem mul_lt {a b : Int} {j k : Nat} (h1 : a.natAbs < 2 ^ j) (h2 : b.natAbs < 2 ^ k) : (a * b).natAbs < 2 ^ (j + k) := wide_lt h1 h2
theorem den_lt {k : Nat} {q : Rat} (h : Bq k q) : (q.den : Int).natAbs < 2 ^ k := by simpa using h.2
theorem Bq.sub {j k : Nat} {p q : Rat} (hp : Bq j p) (hq : Bq k q) : Bq (j + k + 1) (p - q) := by
  rw [← sub_divInt]
  have h1 := mul_lt hp.1 (den_lt hq)
  have h2 := mul_lt hq.1 (den_lt hp)
  have h3 := mul_lt (den_lt hp) (den_lt hq)
  rw [Nat.add_comm k j] at h2
  refine bq_divInt (den2_ne p q) ?_ ?_ <;> rw [Nat.pow_succ] <;> omega
theorem eqv_sh (p q : Rat) : PyData.eqv (sh p) (sh q) = decide (p = q) := by
  unfold sh
  simp only [PyData.eqv, PyData.eqvAll, Bool.and_true]
  rw [Bool.eq_iff_iff]
  simp only [Bool.and_eq_true, beq_iff_eq, decide_eq_true_eq]
  constructor
  · rintro ⟨h1, h2⟩
    exact Rat.ext h1 (by omega)
  · rintro rfl
    exact ⟨rfl, rfl⟩
theorem k_eqS (p q : Rat) : kEq (sh p) (sh q) = some (.bool (decide (p = q))) := by
  show kEqD _ _ = _
  unfold kEqD
  rw [if_pos ⟨rfl, rfl⟩, eqv_sh]
def GQ (k : Nat) (q : Rat) : Prop := 0 ≤ q ∧ q ≤ 1 / 2 ∧ q.den < 2 ^ k
instance (k : Nat) (q : Rat) : Decidable (GQ k q) := by unfold GQ; infer_instance
theorem GQ.mono {j k : Nat} {q : Rat} (h : GQ j q) (l : j ≤ k) : GQ k q := ⟨h.1, h.2.1, Nat.lt_of_lt_of_le h.2.2 (Nat.pow_le_pow_right (by omega) l)⟩
def qs : List D → Option (List Rat)
  | [] => some []
  | d :: ds => (toQ d).bind fun q => (qs ds).map fun r => q :: r
end Xm
set_option Elab.async false
set_option linter.all false
set_option maxRecDepth 100000
namespace Xm
open PySem PySem.Spec PyProof.Rows L2
def runP (g : SF) (N : Nat) : List D → Option RV := fun ds => (g (st0 N ds)).bind fun w => match w.1 with
  | .ret r => some r
  | .nx => some (.val .none)
  | _ => none
def runQ (g : SF) (N : Nat) : List D → List D → Option (RV × List D) := fun xs ds => (g (st1 N xs ds)).bind fun w => match w.2[0]? with
  | some (Slot.pen ys) => (match w.1 with
    | .ret r => some (r, ys)
    | .nx => some (.val .none, ys)
    | _ => none)
  | _ => none
theorem runP_ok {g : SF} {N n : Nat} : ∀ ds r, ds.length = n → runP g N ds = some r → Leaves g (st0 N ds) r fun _ => True := by
  intro ds r _ h
  obtain ⟨w, hw, h⟩ := Option.bind_eq_some_iff.mp h
  obtain ⟨fl, st'⟩ := w
  cases fl with
  | ret r' => cases h; exact ⟨st', .inl hw, trivial⟩
  | nx => cases h; exact ⟨st', .inr ⟨hw, rfl⟩, trivial⟩
  | brk => cases h
  | cont => cases h
theorem runQ_ok {g : SF} {N n : Nat} : ∀ xs ds r, ds.length + 1 = n → runQ g N xs ds = some r → Leaves g (st1 N xs ds) r.1 fun st' => st'[0]? = some (.pen r.2) := by
  intro xs ds r _ h
  obtain ⟨w, hw, h⟩ := Option.bind_eq_some_iff.mp h
  obtain ⟨fl, st'⟩ := w
  dsimp only at h
  split at h
  · rename_i ys hy
    cases fl with
    | ret r' => cases h; exact ⟨st', .inl hw, hy⟩
    | nx => cases h; exact ⟨st', .inr ⟨hw, rfl⟩, hy⟩
    | brk => cases h
    | cont => cases h
  · cases h
theorem runP_of {g : SF} {N : Nat} {ds : List D} {r : RV} {st' : AS} (h : g (st0 N ds) = some (.ret r, st')) : runP g N ds = some r := by
  unfold runP
  rw [h]
  rfl
theorem runP_map {g : SF} {N : Nat} {ds : List D} {r : RV} (h : (g (st0 N ds)).map (·.1) = some (.ret r)) : runP g N ds = some r := by
  obtain ⟨w, hw, e⟩ := Option.map_eq_some_iff.mp h
  obtain ⟨fl, st'⟩ := w
  cases e
  exact runP_of hw
theorem runQ_of {g : SF} {N : Nat} {xs ds ys : List D} {r : RV} {st' : AS} (h : g (st1 N xs ds) = some (.ret r, st')) (hy : st'[0]? = some (.pen ys)) : runQ g N xs ds = some (r, ys) := by
  unfold runQ
  rw [h]
  simp only [Option.bind_some, hy]
theorem runQ_map {g : SF} {N : Nat} {xs ds ys : List D} {r : RV} (h : (g (st1 N xs ds)).map (fun w => (w.1, w.2[0]?)) = some (.ret r, some (.pen ys))) : runQ g N xs ds = some (r, ys) := by
  obtain ⟨w, hw, e⟩ := Option.map_eq_some_iff.mp h
  obtain ⟨fl, st'⟩ := w
  obtain ⟨e1, e2⟩ := Prod.mk.inj e
  dsimp only at e1 e2
  subst e1
  exact runQ_of hw e2
end Xm
set_option Elab.async false
set_option linter.all false
set_option maxRecDepth 100000
namespace Xm
open PySem PySem.Spec PyProof.Rows L2
def pen (cs : List Int) (u r : Int) : List D := [.list (cs.map PyData.int), .int u, .int r]
def PenOk (n : Nat) (xs : List D) : Prop := ∃ cs u r, xs = pen cs u r ∧ 0 ≤ u ∧ u ≤ n ∧ 0 ≤ r
theorem PenOk.mono {j k : Nat} {xs : List D} (h : PenOk j xs) (l : j ≤ k) : PenOk k xs := by
  obtain ⟨cs, u, r, e, h1, h2, h3⟩ := h
  exact ⟨cs, u, r, e, h1, by omega, h3⟩
theorem fm {a b : Int} (h : 0 < b) : a.fmod b = a % b := Int.fmod_eq_emod_of_nonneg _ (by omega)
theorem fd {a b : Int} (h : 0 < b) : a.fdiv b = a / b := Int.fdiv_eq_ediv_of_nonneg _ (by omega)
theorem k_modP {i j : Int} (h : 0 < j) : kMod (.int i) (.int j) = some (.int (i % j)) := by rw [k_mod (by omega), fm h]
theorem k_divP {i j : Int} (h : 0 < j) (hs : Sd j) : kDiv (.int i) (.int j) = some (.int (i / j)) := by rw [k_div (by omega) hs, fd h]
theorem k_powS {i : Int} {n : Nat} (hi : i.natAbs < 2 ^ 64) (hn : n ≤ 1000000) : kPow (.int i) (.int n) = some (.int (i ^ n)) := by
  show (if 0 ≤ (n : Int) ∧ (n : Int) ≤ 1000000 ∧ i.natAbs < 2 ^ 64 then some (PyData.int (i ^ (n : Int).toNat)) else none) = _
  rw [if_pos ⟨by omega, by omega, hi⟩]
  rfl
theorem sm64 {i : Int} (h : i.natAbs < 2 ^ 64) : Sm i := sm_of h (by omega)
theorem sd64 {i : Int} (h : i.natAbs < 2 ^ 64) : Sd i := sd_of (sm64 h)
theorem k_mulS {i j : Int} (hi : i.natAbs < 2 ^ 64) (hj : j.natAbs < 2 ^ 64) : kMul (.int i) (.int j) = some (.int (i * j)) := k_mul (sm64 hi) (sm64 hj)
theorem k_neCells' (cs : List Int) : kNe (.list (cs.map PyData.int)) (.list []) = some (.bool (decide (cs ≠ []))) := by
  have dp : ∀ l : List Int, PyData.depthAll (l.map PyData.int) ≤ 1 ∧ PyData.canLayAll0 (l.map PyData.int) = true := by
    intro l
    induction l with
    | nil => exact ⟨by simp [PyData.depthAll], rfl⟩
    | cons x l ih => exact ⟨by simp only [List.map_cons, PyData.depthAll, PyData.depth]; omega, by simp only [List.map_cons, PyData.canLayAll0, PyData.canLay0, ih.2, Bool.and_self]⟩
  have sp : SeqAt.shaped (.list (cs.map PyData.int)) = true := by
    unfold SeqAt.shaped
    rw [Bool.and_eq_true]
    refine ⟨by simp only [PyData.canLay0]; exact (dp cs).2, decide_eq_true ?_⟩
    simp only [PyData.depth]
    have := (dp cs).1
    omega
  show kNeD _ _ = _
  unfold kNeD
  rw [if_pos ⟨sp, rfl⟩]
  cases cs with
  | nil => simp [PyData.eqv, PyData.eqvAll]
  | cons x l => simp [PyData.eqv, PyData.eqvAll]
end Xm
set_option Elab.async false
set_option linter.all false
set_option maxRecDepth 100000
namespace Xm
open PySem PySem.Spec PyProof.Rows L2
def Rp (d : D) : Prop := d.showable = true ∧ d.canLay0 = true ∧ d.depth ≤ 64 ∧ d.shown.length ≤ sizeLine
instance (d : D) : Decidable (Rp d) := by unfold Rp; infer_instance
def isSeq : D → Bool
  | .list _ => true
  | .tuple _ => true
  | _ => false
mutual
def tupE : D → Bool
  | .none | .bool _ | .int _ | .str _ => true
  | .tuple ds => tupEs ds
  | .list _ => false
  | .dict kvs => kvs.isEmpty
def tupEs : List D → Bool
  | [] => true
  | d :: ds => tupE d && tupEs ds
end
def RpG (d : D) : Prop := d.showable = true ∧ (d.plain = true ∨ tupE d = true) ∧ d.depth ≤ 64 ∧ d.shown.length ≤ sizeLine
instance (d : D) : Decidable (RpG d) := by unfold RpG; infer_instance
def kRepr (d : D) : Option D := match d with
  | .int i => if i.natAbs.log2 < 1920 then some (.str (toString i)) else none
  | d => if isSeq d = true ∧ Rp d then some (.str d.shown) else if RpG d then some (.str d.shown) else none
theorem rp_g {d : D} (h : Rp d) : RpG d := ⟨h.1, .inl (PyData.plain_of_canLay0 d h.2.1), h.2.2.1, h.2.2.2⟩
theorem kRepr_eq {d z : D} (h : kRepr d = some z) : (∃ i : Int, d = .int i ∧ i.natAbs.log2 < 1920 ∧ z = .str (toString i)) ∨ ((∀ i, d ≠ .int i) ∧ RpG d ∧ z = .str d.shown) := by
  unfold kRepr at h
  split at h
  · rename_i i
    split at h <;> cases h
    exact .inl ⟨i, rfl, by assumption, rfl⟩
  · rename_i hn
    split at h
    · cases h
      rename_i hr
      exact .inr ⟨fun i e => hn i e, rp_g hr.2, rfl⟩
    · split at h <;> cases h
      rename_i hr
      exact .inr ⟨fun i e => hn i e, hr, rfl⟩
def rReprA (K : Kx) : List V → Hp → VK → Prop := fun xs H Q => (∃ i, xs = [.int i] ∧ i.natAbs.log2 < 1920 ∧ Q (.str (toString i)) H) ∨ ∃ v d, xs = [v] ∧ Dp K H v d ∧ (∀ i, d ≠ .int i) ∧ RpG d ∧ Q (.str d.shown) H
section
variable {X : Cx} {pins : List (Addr × Obj)} {σ : L2.St} {H : Hp} {s : Shared}
mutual
theorem Dp.readsE (I : Inv X pins σ H s) : ∀ (d : D) (v : V) (u : Value), tupE d = true → Dp (kxOf X) H v d → RelV v u → ∃ as, Reads s.heap u d as ∧ sysModules ∉ as
  | .none, _, _, _, h, r => by
    cases h
    cases r
    exact ⟨_, Reads.none, by simp⟩
  | .bool b, _, _, _, h, r => by
    cases h
    cases r
    exact ⟨_, Reads.bool b, by simp⟩
  | .int i, _, _, _, h, r => by
    cases h
    obtain ⟨t, rfl⟩ := r
    exact ⟨_, Reads.int i t, by simp⟩
  | .str x, _, _, _, h, r => by
    cases h
    obtain ⟨t, rfl⟩ := r
    exact ⟨_, Reads.str x t, by simp⟩
  | .list ds, _, _, c, _, _ => by simp [tupE] at c
  | .tuple ds, _, _, c, h, r => by
    cases h with
    | tup hs ha =>
      cases r
      obtain ⟨its, rv, ⟨o, ho, hc, n, hd⟩, _⟩ := I.tuple hs
      obtain ⟨as, hr, hn⟩ := Dp.readsEs I ds _ its (by simpa [tupE] using c) ha rv
      exact ⟨_, Reads.tuple ho hc hd hr, hn⟩
  | .dict kvs, _, _, c, h, r => by
    have c2 : kvs = [] := by simpa [tupE] using c
    subst c2
    cases h with
    | @dtp a od rows _ ks vs ws h1 e1 e2 hl hk hd e3 h2 h3 =>
      cases r
      subst e1
      have hrows : rows = [] := by
        cases rows with
        | nil => rfl
        | cons r rs => simp [keysOf] at hk
      subst hrows
      obtain ⟨⟨hsm, _, o, es, ep, xs, g1, g2, g3, g4, g5⟩, _⟩ := rd_ok I (.inr ⟨_, h1⟩)
      cases g5
      have hes : es.toList = [] := g4
      refine ⟨_, Reads.dict g1 g2.1 g3 (as := []) (bs := []) (by rw [hes]; exact .nil) (by rw [hes]; exact .nil), ?_⟩
      simp only [List.nil_append, List.append_nil, List.mem_singleton]
      intro z
      rw [← z] at hsm
      simp at hsm
    | @dky a od ps _ vs h1 e1 e2 hl h2 =>
      cases r
      have hps : ps = [] := by
        cases ps with
        | nil => rfl
        | cons p ps => simp at e1
      subst hps
      obtain ⟨_, hsm, vs, kv, o, es, ep, g1, g2, g3, g4⟩ := dk_rd I.hok (.inr ⟨_, h1⟩)
      cases kv
      have hes : es.toList = [] := by
        have g5 := g4.2.1
        generalize es.toList = l at g5
        cases g5
        rfl
      refine ⟨_, Reads.dict g1 g2.1 g3 (as := []) (bs := []) (by rw [hes]; exact .nil) (by rw [hes]; exact .nil), ?_⟩
      simp only [List.nil_append, List.append_nil, List.mem_singleton]
      intro z
      rw [← z] at hsm
      simp at hsm
theorem Dp.readsEs (I : Inv X pins σ H s) : ∀ (ds : List D) (vs : List V) (us : List Value), tupEs ds = true → DpAll (kxOf X) H vs ds → Vals vs us → ∃ as, ReadsAll s.heap us ds as ∧ sysModules ∉ as
  | [], _, _, _, h, r => by
    cases h
    cases r
    exact ⟨_, ReadsAll.nil, by simp⟩
  | d :: ds, _, _, c, h, r => by
    have c2 : tupE d = true ∧ tupEs ds = true := by simpa [tupEs] using c
    cases h with
    | cons h1 h2 =>
      cases r with
      | cons r1 r2 =>
        obtain ⟨as, q1, n1⟩ := Dp.readsE I d _ _ c2.1 h1 r1
        obtain ⟨bs, q2, n2⟩ := Dp.readsEs I ds _ _ c2.2 h2 r2
        exact ⟨_, ReadsAll.cons q1 q2, by simp [n1, n2]⟩
end
mutual
theorem hasDict_plain : ∀ d : D, d.plain = true → d.hasDict = false
  | .none, _ => rfl
  | .bool _, _ => rfl
  | .int _, _ => rfl
  | .str _, _ => rfl
  | .list xs, h => by simpa [PyData.hasDict] using hasDict_plains xs (by simpa [PyData.plain] using h)
  | .tuple xs, h => by simpa [PyData.hasDict] using hasDict_plains xs (by simpa [PyData.plain] using h)
  | .dict _, h => by simp [PyData.plain] at h
theorem hasDict_plains : ∀ ds : List D, PyData.plainAll ds = true → PyData.hasDictAll ds = false
  | [], _ => rfl
  | d :: ds, h => by
    have c2 : d.plain = true ∧ PyData.plainAll ds = true := by simpa [PyData.plainAll] using h
    simp [PyData.hasDictAll, hasDict_plain d c2.1, hasDict_plains ds c2.2]
end
end
theorem Room.u200 {k : Nat} {A : Around} (r : Room k A) : A.units + 200 < cLine := by have := r.un; omega
section
variable {X : Cx} {C : Ct} {pos p : Pos} {a : Expr} {f : EF}
theorem call_reprA (hu : X.A.units + 200 < cLine) (gd : X.A.guards = some []) : CallR X (.builtin "repr") (rReprA (kxOf X)) := by
  intro pins s σ H xs us Q I r h
  rcases h with ⟨i, rfl, hz, q⟩ | ⟨v, d, rfl, hd, hni, ⟨h1, h2, h3, h4⟩, q⟩
  · obtain ⟨u, rfl, t, rfl⟩ := vals1 r
    exact PySem.P.repr_of_int hz ⟨.str _, H, I.tok _, ⟨_, rfl⟩, q⟩
  · obtain ⟨u, rfl, rx⟩ := vals1 r
    have rd : ∃ as, Reads s.heap u d as ∧ (d.hasDict = true → sysModules ∉ as) := by
      rcases h2 with h2 | h2
      · obtain ⟨as, e⟩ := Dp.reads I d v u h2 hd rx
        exact ⟨as, e, fun z => by rw [hasDict_plain d h2] at z; cases z⟩
      · obtain ⟨as, e, n⟩ := Dp.readsE I d v u h2 hd rx
        exact ⟨as, e, fun _ => n⟩
    obtain ⟨as, rd, hsm⟩ := rd
    cases v with
    | ref a =>
      cases rx
      refine repr_of_reads' rd h1 hsm gd (by omega) (fun b o e => e) (fun h' u tk kept => ?_) h4
      exact ⟨.str d.shown, H, I.kept (t' := tk) kept, ⟨_, rfl⟩, q⟩
    | non =>
      cases rx
      cases hd
      exact PySem.P.repr_of_none ⟨.str _, H, I.tok _, ⟨_, rfl⟩, q⟩
    | bl b =>
      cases rx
      cases hd
      exact PySem.P.repr_of_bool ⟨.str _, H, I.tok _, ⟨_, rfl⟩, q⟩
    | int i =>
      cases hd
      exact absurd rfl (hni i)
    | str x =>
      obtain ⟨t, rfl⟩ := rx
      cases hd
      exact PySem.P.repr_of_str ⟨.str _, H, I.tok _, ⟨_, rfl⟩, q⟩ h4
    | byt b => cases hd
    | flt b => cases hd
    | ty n => cases hd
theorem xd_repr (hu : X.A.units + 200 < cLine) (gd : X.A.guards = some []) (hm : X.mg "repr" = none) (ha : PE X a (dOf (kxOf X) C f)) (hg : Gl X "repr" := by rfl) (he : starEach [a] X.env = (false, eval a X.env) :: starEach [] X.env := by rfl) : PE X (.Call (.Name "repr" p) [a] [] pos) (dOf (kxOf X) C (un1 kRepr f)) :=
  xd_b1 (call_reprA hu gd) (fun F H x d z Q fh hx e q => by
    rcases kRepr_eq e with ⟨i, rfl, hi, rfl⟩ | ⟨hn, hr, rfl⟩
    · exact .inl ⟨_, by rw [dp_int hx], hi, q _ F H (Gr.refl fh) (.str _)⟩
    · exact .inr ⟨x, d, rfl, Dp_up hx fh, hn, hr, q _ F H (Gr.refl fh) (.str _)⟩) hm (by decide +kernel) ha hg (he := he)
end
def arr {α : Type} (z : α) (src : List (Nat ⊕ Nat)) (us ws : List α) : List α := src.map fun x => match x with
  | .inl j => us.getD j z
  | .inr j => ws.getD j z
theorem vals_getD {vs : List V} {us : List Value} (r : Vals vs us) (j : Nat) : RelV (vs.getD j .non) (us.getD j .none) := by
  induction r generalizing j with
  | nil => rfl
  | cons h t ih => cases j with
    | zero => exact h
    | succ j => exact ih j
theorem vals_arr {vs zs : List V} {us ws : List Value} (r : Vals vs us) (s : Vals zs ws) : ∀ src : List (Nat ⊕ Nat), Vals (arr .non src vs zs) (arr .none src us ws)
  | [] => .nil
  | .inl j :: src => .cons (vals_getD r j) (vals_arr r s src)
  | .inr j :: src => .cons (vals_getD s j) (vals_arr r s src)
theorem dpa_getD {K : Kx} {F : Hp} {vs : List V} {ds : List D} (r : DpAll K F vs ds) (j : Nat) : Dp K F (vs.getD j .non) (ds.getD j .none) := by
  cases h : ds[j]? with
  | none =>
    have h1 : ds.length ≤ j := List.getElem?_eq_none_iff.mp h
    have h2 : vs.length ≤ j := by rw [DpAll_len r]; exact h1
    rw [List.getD_eq_getElem?_getD, List.getD_eq_getElem?_getD, h, List.getElem?_eq_none_iff.mpr h2]
    exact .non
  | some d =>
    obtain ⟨v, h1, h2⟩ := DpAll_get r h
    rw [List.getD_eq_getElem?_getD, List.getD_eq_getElem?_getD, h, h1]
    exact h2
theorem dpa_arr {K : Kx} {F : Hp} {vs zs : List V} {ds es : List D} (r : DpAll K F vs ds) (s : DpAll K F zs es) : ∀ src : List (Nat ⊕ Nat), DpAll K F (arr .non src vs zs) (arr .none src ds es)
  | [] => .nil
  | .inl j :: src => .cons (dpa_getD r j) (dpa_arr r s src)
  | .inr j :: src => .cons (dpa_getD s j) (dpa_arr r s src)
structure HasK (P : Program) (w : World) (K : PySem.W.Frag) (mg : Str → Option Value) (base : Heap) (k : Nat) (x : Str) (m : Nat) (n : Nat) (ks : List Str) (src : List (Nat ⊕ Nat)) (mf : List D → Option RV) : Prop where
  ex : ∃ (f : Addr) (fd : FuncData) (ps : List Str), FnG P w K mg base (CXM P w) k f fd ps (spP ⟨K, P, w, mg⟩ m mf) ∧ mg x = some (.ref f) ∧ PySem.W.keepIn K (.ref f) = true ∧ src.length = m ∧
    ∀ (s : Shared) (us ws : List Value), K.In s.heap → us.length = n → ws.length = ks.length → BindsTo s fd ⟨us, ks.zip ws⟩ (ps.zip (arr .none src us ws))
def callK (mf : List D → Option RV) (src : List (Nat ⊕ Nat)) (g h : LF) : AS → Option (RV × AS) := fun st => (g st).bind fun a => (h a.2).bind fun b => (mf (arr .none src a.1 b.1)).map fun r => (r, b.2)
def tCallX (sp : Sp) (src : List (Nat ⊕ Nat)) (n m : Nat) (t tk : TA) : TE := fun σ H Q => t σ H fun vs H1 => tk σ H1 fun zs H2 => vs.length = n ∧ zs.length = m ∧ sp (arr .non src vs zs) H2 Q E0
theorem callK_d {K : Kx} {C : Ct} {mf : List D → Option RV} {src : List (Nat ⊕ Nat)} {g h : LF} {n m : Nat} {σ : L2.St} {H : Hp} {Q : VK} (hn : ArN g n) (hm : ArN h m) (q : dOf K C (rvD (callK mf src g h)) σ H Q) : tCallX (spP K src.length mf) src n m (aOf K C g) (aOf K C h) σ H Q := by
  obtain ⟨F, st, w, R, e, q⟩ := q
  obtain ⟨c, ec, e⟩ := Option.bind_eq_some_iff.mp e
  obtain ⟨a, ea, ec⟩ := Option.bind_eq_some_iff.mp ec
  obtain ⟨b, eb, ec⟩ := Option.bind_eq_some_iff.mp ec
  obtain ⟨r, er, ec⟩ := Option.map_eq_some_iff.mp ec
  cases ec
  refine ⟨F, st, a, R, ea, fun vs H1 F1 s1 R1 d1 => ⟨F1, a.2, b, R1, eb, fun zs H2 F2 s2 R2 d2 => ?_⟩⟩
  have dd := dpa_arr (DpAll_up d1 s2) d2 src
  refine ⟨by rw [DpAll_len d1]; exact hn st a ea, by rw [DpAll_len d2]; exact hm a.2 b eb, by unfold arr; rw [List.length_map], F2, _, r, R2.fh, dd, er, fun v F3 H3 gr ok => ?_, fun x hx => by subst hx; cases e⟩
  have R3 := R2.grow gr
  cases r with
  | val d => cases e; exact q v H3 F3 ((s1.trans s2).trans gr.ff) R3 ok
  | exc x => cases e
  | dct kvs => cases e
  | new xs =>
    cases e
    obtain ⟨p, rfl, hp, hF, us, hH, hu⟩ := ok
    obtain ⟨A, _⟩ := R2.aside hp
    obtain ⟨k1, k2, k3⟩ := R3.freezeNew A.h0 hF hH (fun j hj => A.ap j hj) hu
    exact q _ H3 _ (((s1.trans s2).trans gr.ff).trans k1) k2 k3
section
variable {X : Cx} {C : Ct} {j k n m : Nat} {x : Str} {p pos kpos : Pos} {e : Expr} {es : List Expr} {kws : List Keyword} {g h : LF} {f : EF} {mf : List D → Option RV} {ks : List Str} {src : List (Nat ⊕ Nat)} {nm : Option Str}
theorem pk_wk {t t' : TA} (h : PK X kws t) (w : ∀ σ H Q, t' σ H Q → t σ H Q) : PK X kws t' := ⟨fun pos pins s σ H Q I q => h.run pos pins s σ H Q I (w σ H Q q)⟩
theorem xk_nil : PK X [] (aOf (kxOf X) C nilA) := pk_wk pk_nil fun σ H Q q => by
  obtain ⟨F, st, w, R, e, q⟩ := q
  cases e
  exact q [] H F (Same.refl _) R .nil
theorem xk_cons (ha : PE X e (dOf (kxOf X) C f)) (hr : PK X kws (aOf (kxOf X) C g)) : PK X (⟨nm, e, kpos⟩ :: kws) (aOf (kxOf X) C (consA f g)) := pk_wk (pk_cons ha hr) fun σ H Q q => by
  obtain ⟨F, st, w, R, e, q⟩ := q
  obtain ⟨a, ea, e⟩ := Option.bind_eq_some_iff.mp e
  obtain ⟨b, eb, e⟩ := Option.map_eq_some_iff.mp e
  cases e
  refine ⟨F, st, a, R, ea, fun v H1 F1 s1 R1 d1 => ?_⟩
  exact ⟨F1, a.2, b, R1, eb, fun vs H2 F2 s2 R2 d2 => q (v :: vs) H2 F2 (s1.trans s2) R2 (.cons (Dp_up d1 s2) d2)⟩
theorem runGK {f : Addr} {fd : FuncData} {ps : List Str} {sp : Sp} {pins : List (Addr × Obj)} {σ : L2.St} {H : Hp} {s : Shared} {Q : VK} {us ws rs : List Value} {vs : List V} (G : FnG X.prog X.w X.K X.mg X.base (CXM X.prog X.w) k f fd ps sp) (hr : Room k X.A) (gd : X.A.guards = some [])
    (hb : BindsTo s fd ⟨us, ks.zip ws⟩ (ps.zip rs)) (I : Inv X pins σ H s) (r : Vals vs rs) (h : sp vs H Q E0) : wpAny (model X.prog X.w) X.A (call (.ref f) us (ks.zip ws)) (EP X pins σ Q) X.xe s := by
  refine wpAny_call (codeAny_mono (G.go X.A X.stack s H ⟨us, ks.zip ws⟩ rs vs Q E0 hr gd I.env0 hb r h) fun res s' hq => ?_)
  match res, hq with
  | .error e, hq => exact passL pins σ H s e s' I hq
  | .ok (.ret u), hq => exact I.after hq
theorem xd_callK0 (hh : HasK X.prog X.w X.K X.mg X.base j x m 0 ks src mf) (hr : Room k X.A) (gd : X.A.guards = some []) (hjk : j ≤ k) (hkw : PK X kws (aOf (kxOf X) C h)) (hm : ArN h ks.length) (hg : Gl X x := by rfl)
    (hall : (backToKw pos (keywordEach kws X.env)).all (·.1.isSome) = true := by rfl) (hks : (backToKw pos (keywordEach kws X.env)).filterMap (·.1) = ks := by rfl) (hdb : (x == ("__debug__" : Str)) = false := by decide)
    (hpl : ((backTo pos (starEach [] X.env)).any (·.1) || (backToKw pos (keywordEach kws X.env)).any (·.1.isNone)) = false := by rfl) :
    PE X (.Call (.Name x p) [] kws pos) (dOf (kxOf X) C (rvD (callK mf src nilA h))) := by
  obtain ⟨f, fd, ps, G, hmg, hk, hsrc, hb⟩ := hh.ex
  subst hsrc
  refine pe_wk (t := tCallX (spP (kxOf X) src.length mf) src 0 ks.length (aOf (kxOf X) C nilA) (aOf (kxOf X) C h)) ⟨fun pins s σ H Q I q => ?_⟩ fun _ _ _ q => callK_d ar_nil hm q
  obtain ⟨F, st, w, R, e, q⟩ := q
  cases e
  have q0 := q [] H F (Same.refl _) R .nil
  refine wpAny_Call_Name_kw (ld_glob I hg hmg ?_ hdb)
  refine PySem.W.callWith_KW0 (h₀ := X.base) I.ok.mod.kin hk hall (thn (hkw.run pos pins s σ H _ I q0) fun ws s2 ⟨zs, H2, I2, rz, l1, l2, q2⟩ => ⟨I2.kIn, ?_⟩) hpl
  rw [hks]
  exact runGK (us := []) G (hr.mono hjk) gd (hb s2 [] ws I2.kIn rfl (rz.length.symm.trans l2)) I2 (vals_arr .nil rz src) q2
end
theorem dn_kw {K : PySem.W.Frag} {x : Str} {st : Stmt} {f : Addr} {fd : FuncData} {ps ks : List Str} {src : List (Nat ⊕ Nat)} {n : Nat} (T : Dn K x st [] f fd)
    (h : ∀ (kV doc pm : Value) (an : Option Addr) (cdv ct : Value) (us ws : List Value), us.length = n → ws.length = ks.length → bindArgs (PySem.W.fnOf x x (defArgs st) (defBody st) (defScope st) .none kV doc pm an cdv ct) ⟨us, ks.zip ws⟩ = pure (ps.zip (arr .none src us ws))) :
    ∀ (s : Shared) (us ws : List Value), K.In s.heap → us.length = n → ws.length = ks.length → BindsTo s fd ⟨us, ks.zip ws⟩ (ps.zip (arr .none src us ws)) := by
  obtain ⟨oc, od, dV, kV, doc, pm, an, cdv, ct, osl, rfl, lk, hcd, hD, hK⟩ := T.ex
  rcases hD with ⟨_, rfl⟩ | ⟨e, _⟩
  · exact fun s us ws _ l1 l2 => .of_eq (h kV doc pm an cdv ct us ws l1 l2)
  · exact absurd rfl e
end Xm
set_option Elab.async false
set_option linter.all false
set_option maxRecDepth 100000
namespace Xm
open PySem PySem.Spec PyProof.Rows L2
def bN (k : List D → Option D) (g : LF) : EF := fun st => (g st).bind fun a => (k a.1).map fun z => (z, a.2)
section
variable {X : Cx} {C : Ct} {pos p : Pos} {e : Expr} {es : List Expr} {g : LF}
end
def kMin2 : List D → Option D
  | [.int i, .int j] => some (.int (if j < i then j else i))
  | _ => none
def kMax2 : List D → Option D
  | [.int i, .int j] => some (.int (if j > i then j else i))
  | _ => none
section
variable {X : Cx} {C : Ct} {pos p : Pos} {a b : Expr} {f : EF} {g : LF}
end
def allAlikeB (ds : List D) : Bool := ds.all fun d => ds.all fun d' => PySem.W.alike d d'
def neTup : D → Bool
  | .tuple (_ :: _) => true
  | _ => false
def noTup : D → Bool
  | .none => false
  | .tuple _ => false
  | _ => true
def sortableB (ds : List D) : Bool := ds.all neTup || ds.all noTup
theorem allAlike_of {ds : List D} (h : allAlikeB ds = true) : PySem.W.AllAlike ds := fun d hd d' hd' => by
  unfold allAlikeB at h
  rw [List.all_eq_true] at h
  exact List.all_eq_true.mp (h d hd) d' hd'
theorem sortable_of {ds : List D} (h : sortableB ds = true) : PySem.W.Sortable ds := by
  unfold sortableB at h
  rw [Bool.or_eq_true] at h
  rcases h with h | h
  · refine .inl fun d hd => ?_
    have := List.all_eq_true.mp h d hd
    match d, this with
    | .tuple (x :: r), _ => exact ⟨x, r, rfl⟩
  · refine .inr fun d hd => ?_
    have := List.all_eq_true.mp h d hd
    refine ⟨?_, fun xs => ?_⟩
    · rintro rfl
      simp [noTup] at this
    · rintro rfl
      simp [noTup] at this
noncomputable def dSort (ds : List D) : List D := ds.mergeSort (PySem.W.dataLe false id)
noncomputable def kSorted : D → Option D
  | .list ds => if allAlikeB ds = true ∧ sortableB ds = true ∧ ds.length ≤ sizeLine ∧ ds.all (fun d => decide (d.depth ≤ 60) && d.plain) = true then some (.list (dSort ds)) else none
  | _ => none
def rSortedD (K : Kx) : List V → Hp → VK → Prop := fun vs H Q => ∃ a xs ds F, vs = [.ref a] ∧ SqL K.K H a xs ∧ Same F H ∧ DpAll K F xs ds ∧ PySem.W.AllAlike ds ∧ PySem.W.Sortable ds ∧ ds.length ≤ sizeLine ∧ (∀ d ∈ ds, d.depth ≤ 60 ∧ d.plain = true) ∧
  ∀ ys p, DpAll K F ys (dSort ds) → H p = none → Q (.ref p) (upd H p (.lst ys))
theorem each_of {K : Kx} {H : Hp} : ∀ {vs : List V} {us : List Value} {ds : List D}, Vals vs us → DpAll K H vs ds → PySem.W.EachIs (fun u d => ∃ v, RelV v u ∧ Dp K H v d) us ds
  | _, _, _, .nil, .nil => .nil
  | _, _, _, .cons r rs, .cons d ds => .cons ⟨_, r, d⟩ (each_of rs ds)
theorem each_mem {α β : Type} {R R' : α → β → Prop} : ∀ {us : List α} {ds : List β}, PySem.W.EachIs R us ds → (∀ u d, d ∈ ds → R u d → R' u d) → PySem.W.EachIs R' us ds
  | _, _, .nil, _ => .nil
  | _, _, .cons h t, k => .cons (k _ _ (.head _) h) (each_mem t fun u d hd => k u d (.tail _ hd))
theorem each_to {K : Kx} {H : Hp} {us : List Value} {ds : List D} (e : PySem.W.EachIs (fun u d => ∃ v, RelV v u ∧ Dp K H v d) us ds) : ∃ vs, Vals vs us ∧ DpAll K H vs ds := by
  induction e with
  | nil => exact ⟨[], .nil, .nil⟩
  | cons h t ih =>
    obtain ⟨v, r, d⟩ := h
    obtain ⟨vs, rs, dd⟩ := ih
    exact ⟨v :: vs, .cons r rs, .cons d dd⟩
section
variable {X : Cx} {C : Ct} {pos p : Pos} {a : Expr} {f : EF}
theorem cr_sortedData (hu : X.A.units + 65 < cLine) : CallR X (.builtin "sorted") (rSortedD (kxOf X)) := by
  intro pins s σ H vs us Q I r h
  obtain ⟨a, xs, ds, F, rfl, hs, fh, hd, ha, hk, hL, hdep, q⟩ := h
  obtain ⟨its, rv, hl, _⟩ := I.list hs
  rw [Vals.ref1 r]
  have e := each_of rv hd
  have er : PySem.W.EachIs (fun u d => ∃ as, Reads s.heap u (id d) as) its ds := each_mem e fun u d hm ⟨v, r1, r2⟩ => Dp.reads I d v u (hdep d hm).2 (Dp_up r2 fh) r1
  refine PySem.W.sorted_data (enc := id) hl.isList e er (by rw [List.map_id]; exact ha) (by rw [List.map_id]; exact hk) hL (fun b hb => by have := (hdep b hb).1; simp only [id]; omega) fun out ho eo => ?_
  obtain ⟨ys, k1, k2⟩ := each_to eo
  obtain ⟨ep, he'⟩ := PyProof.Rows.sortedAll_at s.heap its out.toArray
  have hlen : ys.length ≤ sizeLine := by rw [k1.length, ho]; exact hL
  exact ⟨.ref _, upd H (s.heap.objs.size + 1) (.lst ys), I.laid (t' := s.toks) (fun _ _ => PyProof.Rows.sortedAll_old) (Nat.le_succ _) ⟨hlen, out, ep, k1, he'⟩, rfl, q ys _ k2 (I.hok.fresh (Nat.le_succ _))⟩
theorem xd_sorted (hu : X.A.units + 65 < cLine) (hm : X.mg "sorted" = none) (ha : PE X a (dOf (kxOf X) C f)) (hg : Gl X "sorted" := by rfl) (he : starEach [a] X.env = (false, eval a X.env) :: starEach [] X.env := by rfl) : PE X (.Call (.Name "sorted" p) [a] [] pos) (dOf (kxOf X) C (un1 kSorted f)) :=
  xd_b1 (cr_sortedData hu) (fun F H x a z Q fh ha e q => by
    unfold kSorted at e; split at e
    · split at e <;> cases e
      rename_i h
      obtain ⟨h1, h2, h3, h4⟩ := h
      cases ha with
      | lst hs hv => exact ⟨_, _, _, F, rfl, sql_up fh hs, fh, hv, allAlike_of h1, sortable_of h2, h3, fun d hd => ⟨of_decide_eq_true (Bool.and_eq_true_iff.mp (List.all_eq_true.mp h4 d hd)).1, (Bool.and_eq_true_iff.mp (List.all_eq_true.mp h4 d hd)).2⟩, fun ys l hy hl => q _ _ _ (Gr.new fh hl) (.lst (.inl (.inl upd_same)) (DpAll_up hy (same_upd (fh.free hl))))⟩
    · cases e) hm (by decide +kernel) ha hg (he := he)
end
def unpT (n : Nat) (w : List D → AS → Option AS) : D → AS → Option AS := fun d st => match d with
  | .tuple ds => if ds.length = n then w ds st else none
  | .list ds => if ds.length = n then w ds st else none
  | _ => none
section
variable {X : Cx} {C : Ct} {pos : Pos} {es : List Expr}
end
section
variable {X : Cx}
end
section
variable {X : Cx} {C : Ct} {pos : Pos} {a b : Expr} {f g : EF}
end
end Xm
set_option Elab.async false
set_option linter.all false
set_option maxRecDepth 100000
namespace Xm
open PySem PySem.Spec PyProof.Rows L2
structure Rk (k n : Nat) (d : D) : Prop where
  sh : d.showable = true
  cl : d.canLay0 = true
  dp : d.depth ≤ k
  sz : d.shown.length ≤ n
theorem Rk.mono {j k m n : Nat} {d : D} (h : Rk j m d) (l : j ≤ k) (l2 : m ≤ n) : Rk k n d := ⟨h.sh, h.cl, Nat.le_trans h.dp l, Nat.le_trans h.sz l2⟩
theorem Rk.rp {k n : Nat} {d : D} (h : Rk k n d) (hk : k ≤ 64) (hn : n ≤ 16777216) : Rp d := ⟨h.sh, h.cl, Nat.le_trans h.dp hk, by rw [sizeLine_eq]; exact Nat.le_trans h.sz hn⟩
theorem Rk.int {i : Int} (h : i.natAbs < 2 ^ 1900) : Rk 0 600 (.int i) := by
  refine ⟨?_, rfl, Nat.le_refl 0, ?_⟩
  · show decide (i.natAbs.log2 < 1920) = true
    by_cases h0 : i.natAbs = 0
    · rw [h0]
      decide
    · exact decide_eq_true (Nat.lt_of_lt_of_le ((Nat.log2_lt h0).mpr h) (by omega))
  · simp only [PyData.shown]
    have e : (2 : Nat) ^ 1900 ≤ 10 ^ 599 := by decide +kernel
    rw [PySem.ofString_length]
    exact int_text_length_le10 (k := 599) (by omega) (Nat.lt_of_lt_of_le h e)
theorem Rk.bool (b : Bool) : Rk 0 600 (.bool b) := ⟨rfl, rfl, Nat.le_refl 0, by cases b <;> decide⟩
theorem Rk.none : Rk 0 600 .none := ⟨rfl, rfl, Nat.le_refl 0, by decide⟩
theorem rk_all {k n : Nat} : ∀ {ds : List D}, (∀ d ∈ ds, Rk k n d) → PyData.showableAll ds = true ∧ PyData.canLayAll0 ds = true ∧ PyData.depthAll ds ≤ k ∧ ((PyData.shownAll ds).map (·.length)).sum ≤ ds.length * n ∧ (PyData.shownAll ds).length = ds.length
  | [], _ => ⟨rfl, rfl, Nat.zero_le k, by simp [PyData.shownAll], rfl⟩
  | d :: ds, h => by
    have h1 := h d (.head _)
    obtain ⟨a1, a2, a3, a4, a5⟩ := rk_all (fun x hx => h x (.tail _ hx))
    refine ⟨by simp [PyData.showableAll, h1.sh, a1], by simp [PyData.canLayAll0, h1.cl, a2], by simpa [PyData.depthAll] using Nat.max_le.mpr ⟨h1.dp, a3⟩, ?_, by simp [PyData.shownAll, a5]⟩
    have := h1.sz
    simp only [PyData.shownAll, List.map_cons, List.sum_cons, List.length_cons, Nat.add_mul, Nat.one_mul]
    omega
theorem Rk.tuple {k n : Nat} {ds : List D} (h : ∀ d ∈ ds, Rk k n d) : Rk (k + 1) (ds.length * n + 2 * ds.length + 3) (.tuple ds) := by
  obtain ⟨a1, a2, a3, a4, a5⟩ := rk_all h
  refine ⟨by simpa [PyData.showable] using a1, by simpa [PyData.canLay0] using a2, by simp [PyData.depth, a3], ?_⟩
  have := tupleText_len_le (PyData.shownAll ds)
  simp only [PyData.shown]
  omega
theorem Rk.list {k n : Nat} {ds : List D} (h : ∀ d ∈ ds, Rk k n d) : Rk (k + 1) (ds.length * n + 2 * ds.length + 3) (.list ds) := by
  obtain ⟨a1, a2, a3, a4, a5⟩ := rk_all h
  refine ⟨by simpa [PyData.showable] using a1, by simpa [PyData.canLay0] using a2, by simp [PyData.depth, a3], ?_⟩
  have := listText_len_le (PyData.shownAll ds)
  simp only [PyData.shown]
  omega
theorem k_reprT {k n : Nat} {ds : List D} (h : Rk k n (.tuple ds)) (hk : k ≤ 64) (hn : n ≤ 16777216) : kRepr (.tuple ds) = some (.str (PyData.shown (.tuple ds))) := if_pos ⟨rfl, h.rp hk hn⟩
section
variable {f : EF} {a b : LF} {st : AS} {n : Nat} {w : List D → AS → Option AS} {d : D} {ds : List D} {i j : Int} {k : List D → Option D}
@[simp] theorem e_bN : bN k a st = (a st).bind fun x => (k x.1).map fun z => (z, x.2) := rfl
@[simp] theorem k_min2 : kMin2 [.int i, .int j] = some (.int (min i j)) := by
  rw [show min i j = if j < i then j else i by split <;> omega]
  rfl
@[simp] theorem k_max2 : kMax2 [.int i, .int j] = some (.int (max i j)) := by
  rw [show max i j = if j > i then j else i by split <;> omega]
  rfl
@[simp] theorem e_unpT_l : unpT n w (.list ds) st = if ds.length = n then w ds st else none := rfl
@[simp] theorem e_unpT_t : unpT n w (.tuple ds) st = if ds.length = n then w ds st else none := rfl
@[simp] theorem e_callK {mf : List D → Option RV} {src : List (Nat ⊕ Nat)} : callK mf src a b st = (a st).bind fun x => (b x.2).bind fun y => (mf (arr .none src x.1 y.1)).map fun r => (r, y.2) := rfl
@[simp] theorem arr_nil {us ws : List D} : arr .none [] us ws = ([] : List D) := rfl
@[simp] theorem arr_inl {us ws : List D} {m : Nat} {src : List (Nat ⊕ Nat)} : arr .none (.inl m :: src) us ws = us.getD m .none :: arr .none src us ws := rfl
@[simp] theorem arr_inr {us ws : List D} {m : Nat} {src : List (Nat ⊕ Nat)} : arr .none (.inr m :: src) us ws = ws.getD m .none :: arr .none src us ws := rfl
end
theorem loop_inv {u : D → AS → Option AS} {b : SF} {c N : Nat} {I : Nat → AS → Prop} {R : D → Prop} (h : ∀ n st d, R d → I n st → n + c ≤ N → ∃ s1 s2, u d st = some s1 ∧ b s1 = some (.nx, s2) ∧ I (n + c) s2) :
    ∀ (ds : List D) (n : Nat) (st : AS), (∀ d ∈ ds, R d) → I n st → n + c * ds.length ≤ N → ∃ st', loopS u b ds st = some (.nx, st') ∧ I (n + c * ds.length) st'
  | [], n, st, _, hi, _ => ⟨st, rfl, hi⟩
  | d :: ds, n, st, hr, hi, hn => by
    rw [List.length_cons, Nat.mul_add, Nat.mul_one] at hn
    obtain ⟨s1, s2, e1, e2, h2⟩ := h n st d (hr d (.head _)) hi (by omega)
    obtain ⟨st', e3, h3⟩ := loop_inv h ds (n + c) s2 (fun x hx => hr x (.tail _ hx)) h2 (by omega)
    refine ⟨st', (loopS_cons e1 e2).trans e3, ?_⟩
    rw [List.length_cons, Nat.mul_add, Nat.mul_one]
    have : n + (c * ds.length + c) = n + c + c * ds.length := by omega
    rw [this]
    exact h3
theorem rng_mem {k : Nat} {d : D} (h : d ∈ rngD 0 (k : Int)) : ∃ j : Nat, d = .int j ∧ j < k := by
  unfold rngD at h
  obtain ⟨j, hj, rfl⟩ := List.mem_map.mp h
  exact ⟨j, by rw [Int.zero_add], by have := List.mem_range.mp hj; omega⟩
theorem itR1_nat {f : EF} {st st' : AS} {k : Nat} (h : f st = some (.int (k : Int), st')) (hk : k ≤ 1000000) : itR1 f st = some (rngD 0 k, st') := by
  have key : ∀ j : Int, j < 1000001 → 0 ≤ j → itR1 f st = (f st).bind fun a => (match a.1 with
    | .int j => if -(2 ^ 62) ≤ j ∧ j < 2 ^ 62 then some (rngD 0 j, a.2) else none
    | _ => none) := fun _ _ _ => rfl
  have gen : ∀ j : Int, f st = some (.int j, st') → j < 1000001 → 0 ≤ j → itR1 f st = some (rngD 0 j, st') := fun j h h1 h2 => by
    rw [key j h1 h2, h]
    simp only [Option.bind_some]
    rw [if_pos (by omega)]
  exact gen k h (by omega) (by omega)
theorem seqS_nx {f g : SF} {st st' : AS} (h : f st = some (.nx, st')) : seqS f g st = g st' := by simp only [e_seqS, h, Option.bind_some]
theorem rng_len (a b : Int) : (rngD a b).length = (b - a).toNat := by unfold rngD; simp
end Xm
set_option Elab.async false
set_option linter.all false
set_option maxRecDepth 100000
namespace Xm
open PySem PySem.Spec PyProof.Rows L2
section
variable {X : Cx} {C : Ct} {pos p apos cpos : Pos} {o e : Expr} {f g : EF}
end
def intsD : List D → Option (List Int)
  | [] => some []
  | .int b :: r => (intsD r).map (b :: ·)
  | _ => none
def kSum : D → Option D
  | .list xs => (intsD xs).map fun bs => .int bs.sum
  | _ => none
theorem ints_dp {K : Kx} {F : Hp} : ∀ {ds : List D} {bs : List Int} {vs : List V}, intsD ds = some bs → DpAll K F vs ds → vs = bs.map V.int
  | [], bs, vs, e, h => by
    cases e
    cases h
    rfl
  | d :: ds, bs, vs, e, h => by
    cases h with
    | cons h1 h2 =>
      cases d with
      | int b =>
        obtain ⟨r, hr, rfl⟩ := Option.map_eq_some_iff.mp (show (intsD ds).map (b :: ·) = some bs from e)
        rw [dp_int h1, ints_dp hr h2]
        rfl
      | _ => cases e
section
variable {X : Cx} {C : Ct} {pos p : Pos} {a : Expr} {f : EF}
theorem xd_sum (hc : X.calm = true) (hm : X.mg "sum" = none) (ha : PE X a (dOf (kxOf X) C f)) (hg : Gl X "sum" := by rfl) (he : starEach [a] X.env = (false, eval a X.env) :: starEach [] X.env := by rfl) : PE X (.Call (.Name "sum" p) [a] [] pos) (dOf (kxOf X) C (un1 kSum f)) :=
  xd_b1 (cr_sum hc) (fun F H x a z Q fh ha e q => by
    unfold kSum at e; split at e
    · obtain ⟨bs, hb, rfl⟩ := Option.map_eq_some_iff.mp e
      cases ha with
      | lst hs hv =>
        cases ints_dp hb hv
        exact ⟨_, bs, rfl, sql_up fh hs, q _ F H (Gr.refl fh) (.int _)⟩
    · cases e) hm (by decide +kernel) ha hg (he := he)
end
def tyD : D → String
  | .none => "NoneType"
  | .bool _ => "bool"
  | .int _ => "int"
  | .str _ => "str"
  | .list _ => "list"
  | .tuple _ => "tuple"
  | .dict _ => "dict"
def isaT (t T : String) : Bool := t == T || (t == "bool" && T == "int")
def kIsa (T : String) (d : D) : Option D := some (.bool (isaT (tyD d) T))
section
variable {X : Cx} {C : Ct} {pos p p2 : Pos} {a : Expr} {f : EF}
end
def chE (k k' : D → D → Option D) (f g h : EF) : EF := fun st => (f st).bind fun a => (g a.2).bind fun b => (k a.1 b.1).bind fun z => match z with
  | .bool true => (h b.2).bind fun c => (k' b.1 c.1).map fun y => (y, c.2)
  | .bool false => some (.bool false, b.2)
  | _ => none
section
variable {X : Cx} {C : Ct} {pos : Pos} {a b c : Expr} {f g h : EF} {r r' : R2} {k k' : D → D → Option D}
end
@[simp] theorem e_chE {k k' : D → D → Option D} {f g h : EF} {st : AS} : chE k k' f g h st = (f st).bind fun a => (g a.2).bind fun b => (k a.1 b.1).bind fun z => (match z with
  | .bool true => (h b.2).bind fun c => (k' b.1 c.1).map fun y => (y, c.2)
  | .bool false => some (.bool false, b.2)
  | _ => none) := rfl
@[simp] theorem k_isa {T : String} {d : D} : kIsa T d = some (.bool (isaT (tyD d) T)) := rfl
end Xm
set_option Elab.async false
set_option linter.all false
set_option maxRecDepth 100000
namespace Xm
open PySem PySem.Spec PyProof.Rows L2
def savS : Option Slot → Bool
  | some .no => true
  | some (.dat _) => true
  | _ => false
def savB (st : AS) (vs : List Nat) : Bool := vs.all fun i => savS st[i]?
def rest (old : AS) : List Nat → AS → AS
  | [], st => st
  | v :: vs, st => (rest old vs st).set v (old[v]?.getD .no)
theorem rest_len (old st : AS) : ∀ vs, (rest old vs st).length = st.length
  | [] => rfl
  | v :: vs => by unfold rest; rw [List.length_set, rest_len]
theorem rest_get {old st : AS} {vs : List Nat} {i : Nat} : (rest old vs st)[i]? = if i ∈ vs ∧ i < st.length then some (old[i]?.getD .no) else st[i]? := by
  induction vs with
  | nil => simp [rest]
  | cons v vs ih =>
    unfold rest
    by_cases e : v = i
    · subst e
      by_cases hv : v < st.length
      · rw [List.getElem?_set_self (by rw [rest_len]; exact hv), if_pos ⟨by simp, hv⟩]
      · rw [if_neg (fun z => hv z.2), List.getElem?_eq_none_iff.mpr (by rw [List.length_set, rest_len]; omega), List.getElem?_eq_none_iff.mpr (by omega)]
    · rw [List.getElem?_set_ne e, ih]
      by_cases hm : i ∈ vs
      · by_cases hi : i < st.length
        · rw [if_pos ⟨hm, hi⟩, if_pos ⟨by simp [hm], hi⟩]
        · rw [if_neg (fun z => hi z.2), if_neg (fun z => hi z.2)]
      · rw [if_neg (fun z => hm z.1), if_neg (fun z => (List.mem_cons.mp z.1).elim (fun q => e q.symm) hm)]
theorem sav_of {st : AS} {vs : List Nat} (h : savB st vs = true) : ∀ i ∈ vs, st[i]? = some .no ∨ ∃ d, st[i]? = some (.dat d) := fun i hi => by
  have q := List.all_eq_true.mp h i hi
  unfold savS at q
  split at q
  · rename_i e; exact .inl e
  · rename_i d e; exact .inr ⟨d, e⟩
  · cases q
theorem sav_clr {st : AS} {vs : List Nat} (h : savB st vs = true) : ∀ i ∈ vs, (Xm.clr st vs)[i]? = some Slot.no := fun i hi => by
  have hl : i < st.length := by
    rcases sav_of h i hi with e | ⟨d, e⟩ <;> exact (List.getElem?_eq_some_iff.mp e).1
  rw [clr_get, if_pos ⟨hi, hl⟩]
theorem mu_clr {st : AS} {vs : List Nat} {j : Nat} (h : Mu (Xm.clr st vs) j) : Mu st j ∧ ¬(j ∈ vs ∧ j < st.length) := by
  unfold Mu at h ⊢
  rw [clr_get] at h
  split at h
  · obtain ⟨s0, e, hm⟩ := h
    cases e
    cases hm
  · rename_i hn
    exact ⟨h, hn⟩
theorem mu_rest {old st : AS} {vs : List Nat} {j : Nat} (h : savB old vs = true) (hno : ∀ i ∈ vs, st[i]? = some Slot.no) (hj : Mu (rest old vs st) j) : Mu st j ∧ j ∉ vs := by
  by_cases hm : j ∈ vs
  · exfalso
    have hl : j < st.length := (List.getElem?_eq_some_iff.mp (hno j hm)).1
    unfold Mu at hj
    rw [rest_get, if_pos ⟨hm, hl⟩] at hj
    rcases sav_of h j hm with e | ⟨d, e⟩ <;> (rw [e] at hj; obtain ⟨s0, e2, hm2⟩ := hj; cases e2; cases hm2)
  · refine ⟨?_, hm⟩
    unfold Mu at hj ⊢
    rw [rest_get, if_neg fun q => hm q.1] at hj
    exact hj
theorem Rel.restore {K : Kx} {C : Ct} {F1 F2 H1 H2 : Hp} {old st : AS} {σ : L2.St} {vs : List Nat} (R1 : Rel K C F1 old σ H1) (s : Same F1 F2) (R2 : Rel K C F2 st (wipe σ vs) H2) (h : savB old vs = true) (hno : ∀ i ∈ vs, st[i]? = some Slot.no) : Rel K C F2 (rest old vs st) σ H2 where
  len := by rw [rest_len, R2.len, wipe_length]
  f0 := R2.f0
  fh := R2.fh
  old := R2.old
  new := R2.new
  slot := fun i sl e => by
    rw [rest_get] at e
    split at e
    · rename_i hi
      rcases sav_of h i hi.1 with z | ⟨d, z⟩
      · rw [z] at e
        cases e
        trivial
      · rw [z] at e
        cases e
        obtain ⟨v, h1, h2⟩ := R1.slot i _ z
        exact ⟨v, h1, Dp_up h2 s⟩
    · rename_i hi
      have q := R2.slot i sl e
      rw [wipe_get, if_neg] at q
      · exact q
      · rintro ⟨z1, z2⟩
        exact hi ⟨z1, by rw [R2.len, wipe_length]; exact z2⟩
  apart := fun i j a hi hj e1 e2 => by
    obtain ⟨m1, n1⟩ := mu_rest h hno hi
    obtain ⟨m2, n2⟩ := mu_rest h hno hj
    refine R2.apart i j a m1 m2 ?_ ?_
    · rw [wipe_get, if_neg fun q => n1 q.1]
      exact e1
    · rw [wipe_get, if_neg fun q => n2 q.1]
      exact e2
  penh := R2.penh
  pent := R2.pent
def compR (it : LF) (u : D → AS → Option AS) (tt : BF) (te : EF) (vs : List Nat) : LF := fun st => (it st).bind fun a => if savB a.2 vs = true ∧ a.1.length ≤ sizeLine then (compL u tt te vs a.1 (Xm.clr a.2 vs)).map fun r => (r.1, rest a.2 vs r.2) else none
theorem lc_okR {K : Kx} {it : LF} {u : D → AS → Option AS} {ts : List Nat} {tt : BF} {te : EF} {vs : List Nat} {σ : L2.St} {H : Hp} {Q : VK} (hts : ∀ j ∈ ts, j ∈ vs)
    (hg : TG) (ht : TT) (he : TE) (kg : ∀ C v σ H Q, gOf K C u ts v σ H Q → hg v σ H Q) (kt : ∀ C σ H Q, bOf K C tt σ H Q → ht σ H Q) (ke : ∀ C σ H Q, dOf K C te σ H Q → he σ H Q)
    (q : nOf K C (compR it u tt te vs) σ H Q) : tLc (iOf K C it) hg ht he vs σ H Q := by
  obtain ⟨F, st, w, R, e, q⟩ := q
  obtain ⟨a, ea, e⟩ := Option.bind_eq_some_iff.mp e
  split at e
  · rename_i hno
    obtain ⟨hno, hlen⟩ := hno
    obtain ⟨r0, e0, ew⟩ := Option.map_eq_some_iff.mp e
    subst ew
    clear e
    have e := e0
    have hno' := sav_clr hno
    refine ⟨F, st, a, R, ea, fun J H1 F1 s1 R1 J1 => fun Dd hD => ?_⟩
    obtain ⟨A1, hF0⟩ := R1.aside hD
    have Rw : ∀ {F2 st2 H2}, Rel K C F2 st2 σ H2 → (∀ i ∈ vs, st2[i]? = some Slot.no) → Rel K C F2 st2 (wipe σ vs) H2 := fun R2 hn => R2.slots (wipe_length σ vs) fun i hi => by
      rw [wipe_get, if_neg]
      rintro ⟨z1, z2⟩
      exact hi (hn i z1)
    have apW : ∀ {st2 : AS}, (∀ j, Mu st2 j → σ[j]? ≠ some (some (.ref Dd))) → ∀ j, Mu st2 j → (wipe σ vs)[j]? ≠ some (some (.ref Dd)) := fun h j hj z => by
      rw [wipe_get] at z
      split at z
      · cases z
      · exact h j hj z
    refine ⟨fun i m H => m = a.1.length - i ∧ i ≤ a.1.length ∧ ∃ F2 st2 vsa dsa rest, Same F1 F2 ∧ Rel K C F2 st2 (wipe σ vs) H ∧ H Dd = some (.lst vsa) ∧ Aside C F2 st2 (wipe σ vs) Dd ∧ DpAll K F2 vsa dsa ∧ dsa.length ≤ i ∧
      (∀ i ∈ vs, st2[i]? = some Slot.no) ∧ compL u tt te vs (a.1.drop i) st2 = some (rest, r0.2) ∧ dsa ++ rest = r0.1,
      ⟨a.1.length, by simp, Nat.zero_le _, F1, Xm.clr a.2 vs, [], [], r0.1, Same.refl _, (R1.write A1).clr, upd_same, ⟨A1.h0, A1.f, A1.pn, apW fun j hj => A1.ap j (mu_clr hj).1⟩, .nil, Nat.le_refl _, hno', e, rfl⟩, ?_⟩
    rintro i m H2 ⟨rfl, hi, F2, st2, vsa, dsa, rest, s2, R2, h2, A2, d2, hl2, n2, e2, w2⟩
    by_cases hlt : i < a.1.length
    · refine .inr ⟨J1.go i H2 hlt (s2.trans R2.fh), ?_⟩
      have hd : a.1[i]? = some a.1[i] := List.getElem?_eq_getElem hlt
      rw [List.drop_eq_getElem_cons hlt] at e2
      obtain ⟨st3, e3, e4⟩ := Option.bind_eq_some_iff.mp e2
      obtain ⟨c, ec, e5⟩ := Option.bind_eq_some_iff.mp e4
      refine ⟨fun H' => ∃ F4 st4 vsb dsb rest, Same F1 F4 ∧ Rel K C F4 st4 (wipe σ vs) H' ∧ H' Dd = some (.lst vsb) ∧ Aside C F4 st4 (wipe σ vs) Dd ∧ DpAll K F4 vsb dsb ∧ dsb.length ≤ i + 1 ∧
        (∀ i ∈ vs, st4[i]? = some Slot.no) ∧ compL u tt te vs (a.1.drop (i + 1)) st4 = some (rest, r0.2) ∧ dsb ++ rest = r0.1, fun H' ⟨F4, st4, vsb, dsb, rest, k⟩ => ⟨a.1.length - (i + 1), by omega, rfl, hlt, F4, st4, vsb, dsb, rest, k⟩, fun x H3 hy => ?_⟩
      obtain ⟨G, hG, hh, hx⟩ := J1.yld i H2 x H3 _ hd (s2.trans R2.fh) hy
      obtain ⟨gr, sg⟩ := over_gr R2.fh hG hh
      have R3 := (R2.into A2 h2).grow gr
      refine kg (C.at Dd vsa) x (wipe σ vs) H3 _ ⟨over G F2, st2, _, st3, R3, hx _ (s2.trans gr.ff) sg, e3, fun σ4 H4 F4 s4 R4 l4 k4 => ⟨wipe_eq l4 k4 hts, ?_⟩⟩
      have up4 : Same F1 F4 := (s2.trans gr.ff).trans s4
      have w4 : wipe σ4 vs = wipe σ vs := wipe_eq l4 k4 hts
      have no_of : ∀ (stx : AS), stx.length = σ4.length → ∀ j ∈ vs, (Xm.clr stx vs)[j]? = some Slot.no := fun stx hlx j hj => by
        rw [clr_get, if_pos]
        refine ⟨hj, ?_⟩
        have z := (List.getElem?_eq_some_iff.mp (n2 j hj)).1
        have z2 := R2.len
        rw [hlx, l4]
        omega
      refine kt (C.at Dd vsa) σ4 H4 _ ⟨F4, st3, c, R4, ec, fun H5 F5 s5 R5 => ?_⟩
      have up5 : Same F1 F5 := up4.trans s5
      have u25 : Same F2 F5 := (gr.ff.trans s4).trans s5
      dsimp only
      split
      · rename_i hc
        rw [if_pos hc] at e5
        obtain ⟨y, ey, e6⟩ := Option.bind_eq_some_iff.mp e5
        obtain ⟨r, er, e7⟩ := Option.map_eq_some_iff.mp e6
        obtain ⟨e8, e9⟩ := Prod.mk.inj e7
        subst e8
        have er : compL u tt te vs (a.1.drop (i + 1)) (Xm.clr y.2 vs) = some (r.1, r0.2) := by rw [er, ← e9]
        refine ke (C.at Dd vsa) σ4 H5 _ ⟨F5, c.2, y, R5, ey, fun yv H6 F6 s6 R6 dy => ?_⟩
        obtain ⟨R7, A7, h7⟩ := R6.outof A1.h0 hF0 A1.pn
        refine ⟨vsa, h7, by rw [DpAll_len d2]; exact Nat.lt_of_le_of_lt hl2 (Nat.lt_of_lt_of_le hlt hlen), ?_⟩
        have R8 := (R7.write (o := .lst (vsa ++ [yv])) A7).clr (vs := vs)
        rw [w4] at R8
        refine ⟨F6, Xm.clr y.2 vs, vsa ++ [yv], dsa ++ [y.1], r.1, up5.trans s6, R8, upd_same, ⟨A7.h0, A7.f, A7.pn, fun j hj z => ?_⟩, DpAll_app (DpAll_up d2 (u25.trans s6)) (.cons dy .nil), by rw [List.length_append, List.length_singleton]; omega, no_of _ R6.len, er, by rw [List.append_assoc]; exact w2⟩
        rw [← w4, wipe_get] at z
        split at z
        · cases z
        · rename_i hz
          refine A7.ap j ?_ z
          unfold Mu at hj ⊢
          have hlx := R6.len
          rw [clr_get, if_neg (fun q => hz ⟨q.1, by omega⟩)] at hj
          exact hj
      · rename_i hc
        rw [if_neg hc] at e5
        obtain ⟨R7, A7, h7⟩ := R5.outof A1.h0 hF0 A1.pn
        have R8 := R7.clr (vs := vs)
        rw [w4] at R8
        refine ⟨F5, Xm.clr c.2 vs, vsa, dsa, rest, up5, R8, h7, ⟨A7.h0, A7.f, A7.pn, fun j hj z => ?_⟩, DpAll_up d2 u25, by omega, no_of _ R5.len, e5, w2⟩
        rw [← w4, wipe_get] at z
        split at z
        · cases z
        · rename_i hz
          refine A7.ap j ?_ z
          unfold Mu at hj ⊢
          have hlx := R5.len
          rw [clr_get, if_neg (fun q => hz ⟨q.1, by omega⟩)] at hj
          exact hj
    · have e3 : i = a.1.length := by omega
      subst e3
      rw [List.drop_length] at e2
      cases e2
      have w3 : dsa = r0.1 := by rw [List.append_nil] at w2; exact w2
      have Rb : Rel K C F2 (rest a.2 vs r0.2) σ H2 := R1.restore s2 R2 hno n2
      refine .inl ⟨J1.stop H2 (s2.trans R2.fh), q Dd vsa H2 F2 (s1.trans s2) Rb A2.h0 A2.f h2 (fun j hj z => ?_) (w3 ▸ d2)⟩
      obtain ⟨m1, m2⟩ := mu_rest hno n2 hj
      refine A2.ap j m1 ?_
      rw [wipe_get, if_neg fun q => m2 q.1]
      exact z
  · cases e
section
variable {X : Cx} {C : Ct} {pos : Pos} {elt tg iter : Expr} {ifs : List Expr} {scope : Scope} {own : List (Str × Nat)} {it : LF} {u : D → AS → Option AS} {ts : List Nat} {tt : BF} {te : EF} {vs : List Nat}
end
section
variable {X : Cx} {C : Ct} {pos spos py : Pos} {elt tg iter : Expr} {ifs : List Expr} {scope : Scope} {own : List (Str × Nat)} {it : LF} {u : D → AS → Option AS} {ts : List Nat} {tt : BF} {te : EF} {i : Nat} {y : Str} {vs : List Nat}
theorem xs_setLcNR (hN : X.N.Nodup) (hi : PI X tg iter (iOf (kxOf X) C it)) (ok : BlkOk X.N X.env.scope scope own)
    (hg : ∀ (C : Ct) (s : Shared) (H : Hp) (c : Addr) (cl : List (Str × Addr)) (fp : List Addr), PG (X.blk s H scope (compEnvC scope cl c X.env) fp) tg (gOf (kxOf X) C u ts))
    (ht : ∀ (C : Ct) (s : Shared) (H : Hp) (c : Addr) (cl : List (Str × Addr)) (fp : List Addr), PTs (X.blk s H scope (compEnvC scope cl c X.env) fp) ifs (bOf (kxOf X) C tt))
    (he : ∀ (C : Ct) (s : Shared) (H : Hp) (c : Addr) (cl : List (Str × Addr)) (fp : List Addr), PE (X.blk s H scope (compEnvC scope cl c X.env) fp) elt (dOf (kxOf X) C te))
    (hy : X.N[i]? = some y) (hyl : X.env.scope.names.lookup y = some .local) (hsw : swapsWith (.ListComp elt [⟨tg, iter, ifs, 0⟩] scope pos) (some (.Name y py)) spos.line X.env = pure true)
    (hvs : own.map (·.2) = vs := by rfl) (hts : ∀ j ∈ ts, j ∈ vs := by decide) (hc : X.calm = true := by rfl) (hs : ∀ x, foldedSetIterable iter X.env x = pure x := by intro _; rfl) :
    PS X (.Assign [.Name y py] (.ListComp elt [⟨tg, iter, ifs, 0⟩] scope pos) spos) (sOf (kxOf X) C (asgN i (compR it u tt te vs))) := by
  subst hvs
  exact ps_wk (ps_setLc (g := fun v σ H Q => ∃ C, gOf (kxOf X) C u ts v σ H Q) (tt := fun σ H Q => ∃ C, bOf (kxOf X) C tt σ H Q) (te := fun σ H Q => ∃ C, dOf (kxOf X) C te σ H Q) hc hN hy hyl hsw hi ok
    (fun s H c cl fp => ⟨fun pins s1 σ H1 v uu Q I r ⟨C1, q⟩ => (hg C1 s H c cl fp).run pins s1 σ H1 v uu Q I r q⟩)
    (fun s H c cl fp => ⟨fun pins s1 σ H1 Q I ⟨C1, q⟩ => (ht C1 s H c cl fp).run pins s1 σ H1 Q I q⟩)
    (fun s H c cl fp => ⟨fun pins s1 σ H1 Q I ⟨C1, q⟩ => (he C1 s H c cl fp).run pins s1 σ H1 Q I q⟩) hs)
    fun Z σ H q => by
      obtain ⟨F, st, w, R, e, q⟩ := q
      obtain ⟨a, ea, e⟩ := Option.bind_eq_some_iff.mp e
      obtain ⟨st', es, e⟩ := Option.map_eq_some_iff.mp e
      cases e
      exact lc_okR hts _ _ _ (fun C _ _ _ _ k => ⟨C, k⟩) (fun C _ _ _ k => ⟨C, k⟩) (fun C _ _ _ k => ⟨C, k⟩) ⟨F, st, a, R, ea, fun p vs H1 F1 s1 R1 h0 h1 h2 h3 d1 => q _ H1 F1 s1 (R1.setO es h0 ⟨h1, vs, h2, d1⟩ h3)⟩
theorem xs_setLcDR (hN : X.N.Nodup) (hi : PI X tg iter (iOf (kxOf X) C it)) (ok : BlkOk X.N X.env.scope scope own)
    (hg : ∀ (C : Ct) (s : Shared) (H : Hp) (c : Addr) (cl : List (Str × Addr)) (fp : List Addr), PG (X.blk s H scope (compEnvC scope cl c X.env) fp) tg (gOf (kxOf X) C u ts))
    (ht : ∀ (C : Ct) (s : Shared) (H : Hp) (c : Addr) (cl : List (Str × Addr)) (fp : List Addr), PTs (X.blk s H scope (compEnvC scope cl c X.env) fp) ifs (bOf (kxOf X) C tt))
    (he : ∀ (C : Ct) (s : Shared) (H : Hp) (c : Addr) (cl : List (Str × Addr)) (fp : List Addr), PE (X.blk s H scope (compEnvC scope cl c X.env) fp) elt (dOf (kxOf X) C te))
    (hy : X.N[i]? = some y) (hyl : X.env.scope.names.lookup y = some .local) (hsw : swapsWith (.ListComp elt [⟨tg, iter, ifs, 0⟩] scope pos) (some (.Name y py)) spos.line X.env = pure true)
    (hvs : own.map (·.2) = vs := by rfl) (hts : ∀ j ∈ ts, j ∈ vs := by decide) (hc : X.calm = true := by rfl) (hs : ∀ x, foldedSetIterable iter X.env x = pure x := by intro _; rfl) :
    PS X (.Assign [.Name y py] (.ListComp elt [⟨tg, iter, ifs, 0⟩] scope pos) spos) (sOf (kxOf X) C (asgS i (listE (compR it u tt te vs)))) := by
  subst hvs
  exact ps_wk (ps_setLc (g := fun v σ H Q => ∃ C, gOf (kxOf X) C u ts v σ H Q) (tt := fun σ H Q => ∃ C, bOf (kxOf X) C tt σ H Q) (te := fun σ H Q => ∃ C, dOf (kxOf X) C te σ H Q) hc hN hy hyl hsw hi ok
    (fun s H c cl fp => ⟨fun pins s1 σ H1 v uu Q I r ⟨C1, q⟩ => (hg C1 s H c cl fp).run pins s1 σ H1 v uu Q I r q⟩)
    (fun s H c cl fp => ⟨fun pins s1 σ H1 Q I ⟨C1, q⟩ => (ht C1 s H c cl fp).run pins s1 σ H1 Q I q⟩)
    (fun s H c cl fp => ⟨fun pins s1 σ H1 Q I ⟨C1, q⟩ => (he C1 s H c cl fp).run pins s1 σ H1 Q I q⟩) hs)
    fun Z σ H q => by
      obtain ⟨F, st, w, R, e, q⟩ := q
      obtain ⟨b, eb, e⟩ := Option.bind_eq_some_iff.mp e
      obtain ⟨st', es, e⟩ := Option.map_eq_some_iff.mp e
      obtain ⟨a, ea, eb⟩ := Option.map_eq_some_iff.mp eb
      cases e
      cases eb
      exact lc_okR hts _ _ _ (fun C _ _ _ _ k => ⟨C, k⟩) (fun C _ _ _ k => ⟨C, k⟩) (fun C _ _ _ k => ⟨C, k⟩) ⟨F, st, a, R, ea, fun p vs H1 F1 s1 R1 h0 h1 h2 h3 d1 => by
        obtain ⟨k1, k2, k3⟩ := R1.freezeNew h0 h1 h2 h3 d1
        exact q _ H1 _ (s1.trans k1) (k2.setD es k3)⟩
end
theorem compR_of {it : LF} {u : D → AS → Option AS} {tt : BF} {te : EF} {vs : List Nat} {s : AS} {a : List D × AS} (h : it s = some a) (hn : savB a.2 vs = true) (hl : a.1.length ≤ sizeLine) : compR it u tt te vs s = (compL u tt te vs a.1 (Xm.clr a.2 vs)).map fun r => (r.1, rest a.2 vs r.2) := by
  unfold compR
  rw [h]
  exact if_pos ⟨hn, hl⟩
end Xm
set_option Elab.async false
set_option linter.all false
set_option maxRecDepth 100000
namespace HT
open PySem PySem.Spec PyProof.Rows
section
variable {prog : Program} {w : World} {A : Around} {E : Value → Shared → Prop} {s : Shared}
theorem sliceApplied_rev {sl : Addr} {t : Tok} {n : Nat} {Q : Int × Int × Nat → Shared → Prop} (hs : s.heap.IsSliceOf sl .none .none (.int (-1) t))
    (h : Q ((n : Int) - 1, -1, n) s) : wpAny (model prog w) A (Builtin.Slice.sliceApplied (.ref sl) (pure (n : Int))) Q E s := by
  obtain ⟨os, hos, hcs, hds⟩ := id hs
  unfold Builtin.Slice.sliceApplied Builtin.Slice.sliceFields
  refine wpAny_bind (wpAny_bind (wpAny_field hos hds (x := .none) rfl (wpAny_bind (wpAny_field hos hds (x := .none) rfl (wpAny_bind (wpAny_field hos hds (x := .int (-1) t) rfl (wpAny_pure ?_)))))))
  refine wpAny_bind (slicePart_int ?_)
  show wpAny _ _ (if ((-1 : Int) == 0) = true then _ else _) _ _ s
  rw [if_neg (by decide)]
  refine wpAny_bind (slicePart_none (wpAny_bind (slicePart_none (wpAny_bind (wpAny_pure ?_)))))
  show wpAny _ _ (pure ((n : Int) - 1, (-1 : Int), Builtin.Slice.slicePlaces ((n : Int) - 1) (-1) (-1))) _ _ s
  have e : Builtin.Slice.slicePlaces ((n : Int) - 1) (-1) (-1) = n := by
    unfold Builtin.Slice.slicePlaces
    rw [if_neg (by decide)]
    split
    · rename_i h0
      have : ((n : Int) - 1 - -1 - 1) / - -1 + 1 = n := by
        rw [show (- -1 : Int) = 1 by decide, Int.ediv_one]
        omega
      rw [this]
      exact Int.toNat_natCast n
    · omega
  rw [e]
  exact wpAny_pure h
theorem fm_congr {f g : Nat → Option Value} : ∀ {l : List Nat}, (∀ m ∈ l, f m = g m) → l.filterMap f = l.filterMap g
  | [], _ => rfl
  | x :: l, h => by rw [List.filterMap_cons, List.filterMap_cons, h x (.head _), fm_congr fun m hm => h m (.tail _ hm)]
theorem pick_rev (xs : Array Value) : ((List.range xs.size).filterMap fun (m : Nat) => xs[((xs.size : Int) - 1 + (m : Int) * -1).toNat]?).toArray = xs.toList.reverse.toArray := by
  congr 1
  have e : ∀ m ∈ List.range xs.size, xs[((xs.size : Int) - 1 + (m : Int) * -1).toNat]? = xs.toList.reverse[m]? := fun m hm => by
    have hm := List.mem_range.mp hm
    rw [List.getElem?_reverse (by rw [Array.length_toList]; exact hm), Array.length_toList, Array.getElem?_toList]
    congr 1
    omega
  rw [fm_congr e]
  have gen : ∀ ys : List Value, (List.range ys.length).filterMap (fun m => ys[m]?) = ys := fun ys => by
    induction ys with
    | nil => rfl
    | cons y ys ih =>
      rw [List.length_cons, List.range_succ_eq_map, List.filterMap_cons, List.filterMap_map]
      show y :: _ = _
      congr 1
  have := gen xs.toList.reverse
  rw [List.length_reverse, Array.length_toList] at this
  exact this
theorem getItem_tuple_rev {t sl : Addr} {items : Array Value} {u : Tok} {Q : Value → Shared → Prop} (ht : IsTup s.heap t items) (hs : s.heap.IsSliceOf sl .none .none (.int (-1) u))
    (h : Q (.ref s.heap.objs.size) { s with heap := s.heap.push { cls := .type "tuple", data := .seq items.toList.reverse.toArray } })
    (hsz : items.size ≤ sizeLine) : wpAny (model prog w) A (getItem (.ref t) (.ref sl)) Q E s := by
  have htake : sizeOk (.seq items.toList.reverse.toArray) := by
    show items.toList.reverse.toArray.size ≤ sizeLine
    rw [List.size_toArray, List.length_reverse, Array.length_toList]
    exact hsz
  obtain ⟨os, hos, hcs, hds⟩ := id hs
  have hTs : s.TypeIs (.ref sl) "slice" := ⟨os, hos, hcs⟩
  unfold getItem
  try with_reducible refine wpAny_holding ?_
  first | refine wpAny_bind (wpAny_pure ?_) | skip
  refine wpAny_bind (wpAny_sequenceKey ht.typeIs (by decide) ?_)
  refine wpAny_bind (wpAny_callSpecial?_slot (name := Str.ofString "__getitem__") ht.typeIs PyProof.Rows.slot_tuple_getitem
    (wpAny_call_entry PyProof.Rows.slot_tuple_getitem ht.typeIs entry_tuple_getitem ?_ (args_tuple_getitem _ _)))
  show wpAny _ _ (Builtin.Tuple.tupleItemsOf (.ref t) >>= _) _ _ s
  refine wpAny_bind (tupleItemsOf_ ht ?_)
  refine wpAny_bind (wpAny_typeOf hTs ?_)
  rw [if_pos (by decide)]
  refine wpAny_bind (sliceApplied_rev hs ?_)
  have hno : ¬ ((((items.size : Int) - 1 == 0 && (-1 : Int) == 1 && items.size == items.size)) = true) := by simp
  show wpAny _ _ (if ((items.size : Int) - 1 == 0 && (-1 : Int) == 1 && items.size == items.size) = true then _ else _) _ _ s
  rw [if_neg hno, pick_rev]
  first
    | exact wpAny_bind (m := Builtin.Tuple.tupleExact _) (wpAny_newObj_type (wpAny_pure ⟨_, rfl, wpAny_pure h⟩) htake)
    | exact wpAny_bind (m := Builtin.Tuple.tupleExact _) (wpAny_newObj_type (wpAny_bind (wpAny_pure (wpAny_pure ⟨_, rfl, wpAny_pure h⟩))) htake)
    | exact wpAny_bind (wpAny_bind (m := Builtin.Tuple.tupleExact _) (wpAny_newObj_type (wpAny_pure (wpAny_pure ⟨_, rfl, wpAny_pure h⟩)) htake))
    | exact wpAny_bind (wpAny_bind (m := Builtin.Tuple.tupleExact _) (wpAny_newObj_type (wpAny_pure ⟨_, rfl, wpAny_pure h⟩) htake))
end
end HT
namespace Xm
open PySem PySem.Spec PyProof.Rows L2 RZ
def revA (f : EF) : EF := fun st => (f st).bind fun a => match a.1 with
  | .list xs => some (.list xs.reverse, a.2)
  | .tuple xs => some (.tuple xs.reverse, a.2)
  | _ => none
section
variable {X : Cx} {C : Ct} {pos p2 : Pos} {e : Expr} {f : EF}
theorem pe_revTup {e : Expr} {te : TE} {k : Nat} {p1 p2 p3 pos : Pos} (he : PE X e te) : PE X (.Subscript e (.Slice none none (some (.UnaryOp .USub (.Constant (.int 1) k p1) p2)) p3) pos) (fun σ H Q => te σ H fun x H1 => (∃ a xs, x = .ref a ∧ SqL X.K H1 a xs ∧ ∀ p, H1 p = none → Q (.ref p) (upd H1 p (.lst xs.reverse))) ∨ ∃ a xs, x = .ref a ∧ SqT X.K H1 a xs ∧ ∀ p, H1 p = none → Q (.ref p) (upd H1 p (.tup xs.reverse))) := by
  refine ⟨fun pins s σ H Q I h => ?_⟩
  refine Subscript_ (thn (he.run pins s σ H _ I h) fun v s1 ⟨x, H1, I1, r1, q1⟩ => ?_)
  have hst : PO X (some (.UnaryOp .USub (.Constant (.int 1) k p1) p2)) (tPart (tUn (rU fun i => .int (-i)) (tC (.int 1)))) := po_some (pe_un un_neg pe_int)
  refine wpAny_Slice (thn (po_none.run pins s1 σ H1 (fun o H2 => o = none ∧ H2 = H1) I1 ⟨rfl, rfl⟩) fun vl s2 ⟨l, H2, I2, pl, el, e2⟩ => ?_)
  subst el e2
  refine thn (po_none.run pins s2 σ H2 (fun o H3 => o = none ∧ H3 = H2) I2 ⟨rfl, rfl⟩) fun vu s3 ⟨u, H3, I3, pu, eu, e3⟩ => ?_
  subst eu e3
  refine thn (hst.run pins s3 σ H3 (fun o H4 => o = some (-1) ∧ H4 = H3) I3 ⟨1, rfl, -1, rfl, rfl, rfl⟩) fun vs s4 ⟨o, H4, I4, ps, eo, e4⟩ => ?_
  subst eo e4
  have I5 : Inv X pins σ H4 { s4 with heap := s4.heap.push { cls := .type "slice", data := .fields #[vl, vu, vs] } } := I4.kept (t' := s4.toks) fun b ob q => Heap.get?_push_of_some _ q
  rcases q1 with ⟨a, xs, ex, hx, q⟩ | ⟨a, xs, ex, hx, q⟩
  · subst ex
    cases r1
    obtain ⟨its, r, ht, hz⟩ := I5.list hx
    have hlen := r.length
    show wpAny (model X.prog X.w) X.A (subscriptTail e (.Slice none none (some (.UnaryOp .USub (.Constant (.int 1) k p1) p2)) p3) (.ref a) (.ref s4.heap.objs.size)) (EP X pins σ Q) X.xe { s4 with heap := s4.heap.push { cls := .type "slice", data := .fields #[vl, vu, vs] } }
    refine tail_any (ops := [.ref a, .ref s4.heap.objs.size]) ht.isList.typeIs (PySem.slot_list_getitem.lookup) ?_ (by with_unfolding_all rfl)
    refine wpAny_getItem_list_slice ht.isList (Heap.IsSliceOf.new _ vl vu vs) pl pu ps (by decide) ?_ (by rw [List.size_toArray]; omega)
    rw [PySem.W.krv_pick]
    refine ⟨.ref _, _, I5.laid (t' := s4.toks) (o := .lst xs.reverse) (fun b ob q => Heap.get?_push_of_some _ q) (Nat.le_refl _) ?_, rfl, q _ (I5.hok.fresh (Nat.le_refl _))⟩
    exact ⟨by rw [List.length_reverse]; exact hz, _, 0, r.reverse, Heap.get?_push_size _ rfl⟩
  · subst ex
    cases r1
    obtain ⟨its, r, ht, hz⟩ := I5.tuple hx
    have hlen := r.length
    cases pl
    cases pu
    cases ps
    show wpAny (model X.prog X.w) X.A (subscriptTail e (.Slice none none (some (.UnaryOp .USub (.Constant (.int 1) k p1) p2)) p3) (.ref a) (.ref s4.heap.objs.size)) (EP X pins σ Q) X.xe { s4 with heap := s4.heap.push { cls := .type "slice", data := .fields #[_, _, _] } }
    refine tail_any (ops := [.ref a, .ref s4.heap.objs.size]) ht.typeIs (PyProof.Rows.slot_tuple_getitem.lookup) ?_ (by with_unfolding_all rfl)
    refine HT.getItem_tuple_rev ht (Heap.IsSliceOf.new _ _ _ _) ?_ (by rw [List.size_toArray]; omega)
    refine ⟨.ref _, _, I5.laid (t' := s4.toks) (o := .tup xs.reverse) (fun b ob q => Heap.get?_push_of_some _ q) (Nat.le_refl _) ?_, rfl, q _ (I5.hok.fresh (Nat.le_refl _))⟩
    exact ⟨by rw [List.length_reverse]; exact hz, _, r.reverse, IsTup.new _ _⟩
theorem xd_revA {k : Nat} {p1 p3 : Pos} (he : PE X e (dOf (kxOf X) C f)) : PE X (.Subscript e (.Slice none none (some (.UnaryOp .USub (.Constant (.int 1) k p1) p2)) p3) pos) (dOf (kxOf X) C (revA f)) :=
  pe_wk (pe_revTup he) fun σ H Q q => by
    obtain ⟨F, st, w, R, e, q⟩ := q
    obtain ⟨a, ea, e⟩ := Option.bind_eq_some_iff.mp e
    split at e
    · rename_i xs hx
      cases e
      refine ⟨F, st, a, R, ea, fun v H1 F1 s1 R1 d1 => ?_⟩
      rw [hx] at d1
      cases d1 with
      | @lst a0 vs0 _ hs hv =>
        refine .inl ⟨_, _, rfl, sql_up R1.fh hs, fun p hp => ?_⟩
        have gr := Gr.new (o := .lst vs0.reverse) R1.fh hp
        exact q _ _ _ (s1.trans gr.ff) (R1.grow gr) (.lst (.inl (.inl upd_same)) (DpAll_up (DpAll_rev hv) gr.ff))
    · rename_i xs hx
      cases e
      refine ⟨F, st, a, R, ea, fun v H1 F1 s1 R1 d1 => ?_⟩
      rw [hx] at d1
      cases d1 with
      | @tup a0 vs0 _ hs hv =>
        refine .inr ⟨_, _, rfl, sqt_up R1.fh hs, fun p hp => ?_⟩
        have gr := Gr.new (o := .tup vs0.reverse) R1.fh hp
        exact q _ _ _ (s1.trans gr.ff) (R1.grow gr) (.tup (.inl (.inl upd_same)) (DpAll_up (DpAll_rev hv) gr.ff))
    · cases e
end
def toNew (f : EF) : LF := fun st => (f st).bind fun a => match a.1 with
  | .list xs => some (xs, a.2)
  | .tuple xs => some (xs, a.2)
  | _ => none
def lstR1 (f : EF) : LF := fun st => (f st).bind fun a => match a.1 with
  | .int j => if 0 ≤ j ∧ j ≤ 1000000 then some (rngD 0 j, a.2) else none
  | _ => none
theorem rgV_dp {K : Kx} {F : Hp} (a b : Int) : DpAll K F (rgV a b) (rngD a b) := by
  unfold rgV rngD
  generalize (b - a).toNat = n
  have gen : ∀ l : List Nat, DpAll K F (l.map fun i => V.int (a + (i : Nat))) (l.map fun (k : Nat) => .int (a + (k : Int))) := fun l => by
    induction l with
    | nil => exact .nil
    | cons x l ih => exact .cons (.int _) ih
  exact gen _
section
variable {X : Cx} {C : Ct} {pos p p2 pos2 : Pos} {a : Expr} {f : EF}
theorem xn_tolist (hm : X.mg "list" = none) (ha : PE X a (dOf (kxOf X) C f)) (hg : Gl X "list" := by rfl) (he : starEach [a] X.env = (false, eval a X.env) :: starEach [] X.env := by rfl) (hpl : (backTo pos (starEach [] X.env)).any (·.1) = false := by rfl) :
    PE X (.Call (.Name "list" p) [a] [] pos) (nOf (kxOf X) C (toNew f)) :=
  pe_wk (pe_callTy call_list_of hg hm (by decide +kernel) (pa_cons ha pa_nil he) (he := he) (hpl := hpl)) fun σ H Q q => by
    obtain ⟨F, st, w, R, e, q⟩ := q
    obtain ⟨b, eb, e⟩ := Option.bind_eq_some_iff.mp e
    refine ⟨F, st, b, R, eb, fun v H1 F1 s1 R1 d1 => ?_⟩
    split at e
    · rename_i xs hx
      cases e
      rw [hx] at d1
      cases d1 with
      | @lst a0 vs0 _ hs hv =>
        refine ⟨_, _, rfl, .inl (sql_up R1.fh hs), fun l hl => ?_⟩
        obtain ⟨A, hf⟩ := R1.aside hl
        exact q l vs0 _ F1 s1 (R1.write A) A.h0 A.f upd_same A.ap hv
    · rename_i xs hx
      cases e
      rw [hx] at d1
      cases d1 with
      | @tup a0 vs0 _ hs hv =>
        refine ⟨_, _, rfl, .inr (sqt_up R1.fh hs), fun l hl => ?_⟩
        obtain ⟨A, hf⟩ := R1.aside hl
        exact q l vs0 _ F1 s1 (R1.write A) A.h0 A.f upd_same A.ap hv
    · cases e
theorem xn_listR1 (hc : X.calm = true) (hm : X.mg "list" = none) (hm2 : X.mg "range" = none) (ha : PE X a (dOf (kxOf X) C f)) (hg : Gl X "list" := by rfl) (hg2 : Gl X "range" := by rfl) (na : starEach [a] X.env = (false, eval a X.env) :: starEach [] X.env := by rfl)
    (na2 : starEach [.Call (.Name "range" p2) [a] [] pos2] X.env = (false, eval (.Call (.Name "range" p2) [a] [] pos2) X.env) :: starEach [] X.env := by rfl) :
    PE X (.Call (.Name "list" p) [.Call (.Name "range" p2) [a] [] pos2] [] pos) (nOf (kxOf X) C (lstR1 f)) :=
  pe_wk (pe_listRg hc hg hm (prg_1 hg2 hm2 ha na) na2) fun σ H Q q => by
    obtain ⟨F, st, w, R, e, q⟩ := q
    obtain ⟨b, eb, e⟩ := Option.bind_eq_some_iff.mp e
    refine ⟨F, st, b, R, eb, fun v H1 F1 s1 R1 d1 => ?_⟩
    split at e
    · rename_i j hj
      split at e <;> cases e
      rename_i hb
      rw [hj] at d1
      refine ⟨j, dp_int d1, RgOk.of_le (by omega) (by omega) (by omega) (by omega), fun l hl => ?_⟩
      obtain ⟨A, hf⟩ := R1.aside hl
      exact q l _ _ F1 s1 (R1.write A) A.h0 A.f upd_same A.ap (rgV_dp _ _)
    · cases e
end
def prD : List D → List D → List D
  | x :: xs, y :: ys => .tuple [x, y] :: prD xs ys
  | _, _ => []
theorem prD_get : ∀ (xs ys : List D) (i : Nat) (d : D), (prD xs ys)[i]? = some d → ∃ x y, xs[i]? = some x ∧ ys[i]? = some y ∧ d = .tuple [x, y]
  | [], _, i, d, h => by simp [prD] at h
  | _ :: _, [], i, d, h => by simp [prD] at h
  | x :: xs, y :: ys, 0, d, h => by
    simp [prD] at h
    exact ⟨x, y, rfl, rfl, h.symm⟩
  | x :: xs, y :: ys, i + 1, d, h => by
    simp [prD] at h
    obtain ⟨x', y', h1, h2, h3⟩ := prD_get xs ys i d h
    exact ⟨x', y', h1, h2, h3⟩
theorem prD_len : ∀ (xs ys : List D), (prD xs ys).length = min xs.length ys.length
  | [], _ => by simp [prD]
  | _ :: _, [] => by simp [prD]
  | x :: xs, y :: ys => by simp [prD, prD_len xs ys]
def itZip (f g : EF) : LF := fun st => (f st).bind fun a => (g a.2).bind fun b => match a.1, b.1 with
  | .list xs, .list ys => some (prD xs ys, b.2)
  | .tuple xs, .tuple ys => some (prD xs ys, b.2)
  | _, _ => none
theorem pair_new {K : Kx} {H : Hp} {T : Addr} {x y : V} {d d' : D} {F : Hp} (hx : Dp K F x d) (hy : Dp K F y d') (hT : H T = none) : ∃ G : Hp, (∀ a o, G a = some o → upd H T (.tup [x, y]) a = some o ∧ H a = none) ∧ Same H (upd H T (.tup [x, y])) ∧ ∀ F1, Same F F1 → Same G F1 → Dp K F1 (.ref T) (.tuple [d, d']) := by
  refine ⟨upd (fun _ => none) T (.tup [x, y]), fun a o e => ?_, same_upd hT, fun F1 s1 s2 => ?_⟩
  · by_cases ha : a = T
    · subst ha
      rw [upd_same] at e ⊢
      exact ⟨e, hT⟩
    · rw [upd_ne ha] at e
      cases e
  · exact .tup (.inl (.inl (s2 _ _ upd_same))) (.cons (Dp_up hx s1) (.cons (Dp_up hy s1) .nil))
theorem itz_ok {K : Kx} {F : Hp} {a b : Addr} {vs us : List V} {xs ys : List D} (hs : SqL K.K F a vs) (hv : DpAll K F vs xs) (ht : SqL K.K F b us) (hu : DpAll K F us ys) : ItOk K F (Itz K.K a b) (prD xs ys) where
  go := fun i H hi e => by
    rw [prD_len] at hi
    exact ⟨vs, us, vs[i]'(by rw [DpAll_len hv]; omega), us[i]'(by rw [DpAll_len hu]; omega), sql_up e hs, sql_up e ht, by simp, by simp⟩
  stop := fun H e => ⟨vs, us, sql_up e hs, sql_up e ht, by rw [prD_len, DpAll_len hv, DpAll_len hu]; omega⟩
  yld := fun i H x H' d hd e y => by
    obtain ⟨T, x1, y1, rfl, hT, rfl, h1, h2⟩ := y
    obtain ⟨dx, dy, k1, k2, rfl⟩ := prD_get _ _ _ _ hd
    obtain ⟨v, g1, g2⟩ := DpAll_get hv k1
    obtain ⟨u, g3, g4⟩ := DpAll_get hu k2
    have e1 := h1 vs (sql_up e hs)
    have e2 := h2 us (sql_up e ht)
    rw [g1] at e1
    rw [g3] at e2
    cases e1
    cases e2
    exact pair_new g2 g4 hT
theorem itzT_ok {K : Kx} {F : Hp} {a b : Addr} {vs us : List V} {xs ys : List D} (hs : SqT K.K F a vs) (hv : DpAll K F vs xs) (ht : SqT K.K F b us) (hu : DpAll K F us ys) : ItOk K F (ItzT K.K a b) (prD xs ys) where
  go := fun i H hi e => by
    rw [prD_len] at hi
    exact ⟨vs, us, vs[i]'(by rw [DpAll_len hv]; omega), us[i]'(by rw [DpAll_len hu]; omega), sqt_up e hs, sqt_up e ht, by simp, by simp⟩
  stop := fun H e => ⟨vs, us, sqt_up e hs, sqt_up e ht, by rw [prD_len, DpAll_len hv, DpAll_len hu]; omega⟩
  yld := fun i H x H' d hd e y => by
    obtain ⟨T, x1, y1, rfl, hT, rfl, h1, h2⟩ := y
    obtain ⟨dx, dy, k1, k2, rfl⟩ := prD_get _ _ _ _ hd
    obtain ⟨v, g1, g2⟩ := DpAll_get hv k1
    obtain ⟨u, g3, g4⟩ := DpAll_get hu k2
    have e1 := h1 vs (sqt_up e hs)
    have e2 := h2 us (sqt_up e ht)
    rw [g1] at e1
    rw [g3] at e2
    cases e1
    cases e2
    exact pair_new g2 g4 hT
section
variable {X : Cx} {C : Ct} {pos p tpos : Pos} {elts : List Expr} {kk : Nat} {a b : Expr} {f g : EF}
theorem xi_zip (hm : X.mg "zip" = none) (ha : PE X a (dOf (kxOf X) C f)) (hb : PE X b (dOf (kxOf X) C g)) (hg : Gl X "zip" := by rfl)
    (hs : starEach [a, b] X.env = (false, eval a X.env) :: starEach [b] X.env := by rfl) (hs2 : starEach [b] X.env = (false, eval b X.env) :: starEach [] X.env := by rfl) (hpl : (backTo pos (starEach [b] X.env)).any (·.1) = false := by rfl) :
    PI X (.Tuple elts kk tpos) (.Call (.Name "zip" p) [a, b] [] pos) (iOf (kxOf X) C (itZip f g)) :=
  pi_wk (pi_zipA hg hm (pa_cons ha (pa_cons hb pa_nil hs2) hs) hs hpl) fun σ H R q => by
    obtain ⟨F, st, w, Rl, e, q⟩ := q
    obtain ⟨x, ex, e⟩ := Option.bind_eq_some_iff.mp e
    obtain ⟨y, ey, e⟩ := Option.bind_eq_some_iff.mp e
    refine ⟨F, st, x, Rl, ex, fun v H1 F1 s1 R1 d1 => ⟨F1, x.2, y, R1, ey, fun u H2 F2 s2 R2 d2 => ?_⟩⟩
    split at e
    · rename_i xs ys hx hy
      cases e
      rw [hx] at d1
      rw [hy] at d2
      cases Dp_up d1 s2 with
      | lst h1 h2 =>
        cases d2 with
        | lst h3 h4 => exact ⟨_, _, _, _, rfl, .inl ⟨sql_up R2.fh h1, sql_up R2.fh h3, q _ H2 F2 (s1.trans s2) R2 (itz_ok h1 h2 h3 h4)⟩⟩
    · rename_i xs ys hx hy
      cases e
      rw [hx] at d1
      rw [hy] at d2
      cases Dp_up d1 s2 with
      | tup h1 h2 =>
        cases d2 with
        | tup h3 h4 => exact ⟨_, _, _, _, rfl, .inr ⟨sqt_up R2.fh h1, sqt_up R2.fh h3, q _ H2 F2 (s1.trans s2) R2 (itzT_ok h1 h2 h3 h4)⟩⟩
    · cases e
end
section
variable {f g : EF} {st : AS}
@[simp] theorem e_revA : revA f st = (f st).bind fun a => (match a.1 with
  | .list xs => some (.list xs.reverse, a.2)
  | .tuple xs => some (.tuple xs.reverse, a.2)
  | _ => none) := rfl
@[simp] theorem e_toNew : toNew f st = (f st).bind fun a => (match a.1 with
  | .list xs => some (xs, a.2)
  | .tuple xs => some (xs, a.2)
  | _ => none) := rfl
@[simp] theorem e_itZip : itZip f g st = (f st).bind fun a => (g a.2).bind fun b => (match a.1, b.1 with
  | .list xs, .list ys => some (prD xs ys, b.2)
  | .tuple xs, .tuple ys => some (prD xs ys, b.2)
  | _, _ => none) := rfl
end
theorem lstR1_nat {f : EF} {st st' : AS} {k : Nat} (h : f st = some (.int (k : Int), st')) (hk : k ≤ 1000000) : lstR1 f st = some (rngD 0 k, st') := by
  unfold lstR1
  rw [h]
  simp only [Option.bind_some]
  rw [if_pos (by omega)]
def kMulB : D → D → Option D
  | .int i, .int j => if i.natAbs < 2 ^ 62 then some (.int (i * j)) else none
  | _, _ => none
def CMulB (i _ : Int) : Prop := i.natAbs < 2 ^ 62
theorem CMulB.ok {i j : Int} (h : CMulB i j) : IntMulOk i j := by
  refine IntMulOk.of_left ?_
  have b : Builtin.Int.intBits i ≤ i.natAbs.log2 + 1 := by
    unfold Builtin.Int.intBits
    split <;> omega
  have : i.natAbs.log2 < 62 := PySem.Flt.log2_lt_of (by omega) h
  omega
theorem op_mulB {X : Cx} : OpR X (binaryOp .Mult) (rI CMulB fun i j => .int (i * j)) := opI fun _ _ _ _ _ _ _ hc q => mul_int q hc.ok
theorem ok_mulB {K : Kx} : Ok2 K (rI CMulB fun i j => .int (i * j)) kMulB := okI (gd := fun i j => .int (i * j)) (fun a b z e => by
  unfold kMulB at e; split at e
  · split at e <;> cases e
    rename_i h
    exact ⟨_, _, rfl, rfl, rfl, h⟩
  · cases e) fun _ _ _ => .int _
theorem xd_mulB {X : Cx} {C : Ct} {pos : Pos} {a b : Expr} {f g : EF} (ha : PE X a (dOf (kxOf X) C f)) (hb : PE X b (dOf (kxOf X) C g)) : PE X (.BinOp a .Mult b pos) (dOf (kxOf X) C (bin2 kMulB f g)) := xd_op op_mulB ok_mulB ha hb
theorem k_mulB {i j : Int} (h : i.natAbs < 2 ^ 62) : kMulB (.int i) (.int j) = some (.int (i * j)) := if_pos h
end Xm
set_option Elab.async false
set_option linter.all false
set_option maxRecDepth 100000
namespace DwF
open PySem PySem.Spec PyProof.Rows L2 Xm
noncomputable section
def g_law_pen : SF := (retN (newF (consA (un1 kList (cutF (rd 0) noO (someO (cst (.int 63))))) (consA (cst (.int 0)) (consA (cst (.int 0)) nilA)))))
def mf_law_pen := runP g_law_pen 1
theorem e_law_pen : ∀ ds r, ds.length = 1 → mf_law_pen ds = some r → Leaves g_law_pen (st0 1 ds) r fun _ => True := runP_ok
def g_law_pick : SF := (seqS (ifS (valB (bin2 kGt (ixM 0 (cst (.int 2))) (cst (.int 0)))) (seqS (asgS 5 (bin2 kMod (ixM 0 (cst (.int 2))) (rd 1))) (seqS (setM 0 (bin2 kDiv (ixM 0 (cst (.int 2))) (rd 1)) (cst (.int 2))) (retS (rd 5)))) skipS) (seqS (asgS 2 (ixM 0 (cst (.int 1)))) (seqS (setM 0 (bin2 kCat (rd 2) (cst (.int 1))) (cst (.int 1))) (seqS (asgS 3 (bin2 kCat (bin2 kMul (cst (.int 2203)) (rd 2)) (cst (.int 107)))) (seqS (ifS (valB (bin2 kNe (ixM 0 (cst (.int 0))) (lstF nilA))) (asgS 3 (bin2 kIx (ixM 0 (cst (.int 0))) (bin2 kMod (rd 2) (un1 kLen (ixM 0 (cst (.int 0))))))) skipS) (seqS (ifS (andB (valB (bin2 kLt (rd 2) (un1 kLen (ixM 0 (cst (.int 0)))))) (valB (bin2 kGe (un1 kAbs (rd 3)) (bin2 kPow (cst (.int 10)) (cst (.int 18)))))) (seqS (asgS 6 (bin2 kCat (bin2 kMulB (cst (.int 2)) (un1 kAbs (rd 3))) (un1 kInt (bin2 kLt (rd 3) (cst (.int 0)))))) (seqS (setM 0 (bin2 kDiv (rd 6) (rd 1)) (cst (.int 2))) (retS (bin2 kMod (rd 6) (rd 1))))) skipS) (seqS (asgS 4 (bin2 kMod (bin2 kPow (bin2 kCat (bin2 kCat (bin2 kMod (rd 3) (cst (.int 2147483587))) (bin2 kMul (cst (.int 47947)) (rd 2))) (cst (.int 101))) (cst (.int 5))) (cst (.int 2147483647)))) (seqS (asgS 4 (bin2 kMod (bin2 kPow (bin2 kCat (bin2 kMul (rd 4) (bin2 kCat (rd 2) (cst (.int 36107)))) (bin2 kMul (bin2 kMul (cst (.int 83003)) (rd 2)) (rd 2))) (cst (.int 3))) (cst (.int 2147483563)))) (retS (bin2 kMod (bin2 kDiv (rd 4) (cst (.int 32))) (rd 1)))))))))))
def mq_law_pick := runQ g_law_pick 7
theorem e_law_pick : ∀ xs ds r, ds.length + 1 = 2 → mq_law_pick xs ds = some r → Leaves g_law_pick (st1 7 xs ds) r.1 fun s => s[0]? = some (.pen r.2) := runQ_ok
def g_law_mixed : SF := (seqS (asgN 2 (toNew (rd 1))) (retN (compF (itD (rd 1)) (setD 3) yesB (popM 2 (rvD (callQ mq_law_pick 0 (consA (lenM 2) nilA)))) [3])))
def mq_law_mixed := runQ g_law_mixed 4
theorem e_law_mixed : ∀ xs ds r, ds.length + 1 = 2 → mq_law_mixed xs ds = some r → Leaves g_law_mixed (st1 4 xs ds) r.1 fun s => s[0]? = some (.pen r.2) := runQ_ok
def g_law_rows : SF := (seqS (asgS 2 (bin2 kIx (lstF (consA (bin2 kCat (cst (.int 2)) (rvD (callQ mq_law_pick 0 (consA (cst (.int 5)) nilA)))) (consA (cst (.int 6)) (consA (cst (.int 3)) nilA)))) (rvD (callQ mq_law_pick 0 (consA (cst (.int 3)) nilA))))) (seqS (asgS 3 (rvD (callQ mq_law_pick 0 (consA (cst (.int 4)) nilA)))) (seqS (asgN 4 (newF nilA)) (seqS (forS (itR1 (bin2 kIx (lstF (consA (bin2 kCat (cst (.int 1)) (rvD (callQ mq_law_pick 0 (consA (rd 1) nilA)))) (consA (rd 1) nilA))) (rvD (callQ mq_law_pick 0 (consA (cst (.int 2)) nilA))))) (setD 5) (seqS (asgS 7 (rvD (callQ mq_law_pick 0 (consA (bin2 kCat (rd 2) (cst (.int 1))) nilA)))) (seqS (asgS 8 (rvD (callQ mq_law_pick 0 (consA (cst (.int 2)) nilA)))) (seqS (asgS 9 (listE (compF (itR1 (rd 2)) (setD 11) yesB (bin2 kIx (lstF (consA (rd 8) (consA (bin2 kSub (cst (.int 1)) (rd 8)) nilA))) (un1 kInt (bin2 kGe (rd 11) (rd 7)))) [11]))) (seqS (ifS (valB (bin2 kGt (rd 3) (cst (.int 0)))) (asgS 9 (listE (compF (itD (rd 9)) (setD 12) yesB (ifE (valB (bin2 kEq (rvD (callQ mq_law_pick 0 (consA (rd 3) nilA))) (cst (.int 0)))) (rvD (callQ mq_law_pick 0 (consA (cst (.int 2)) nilA))) (rd 12)) [12]))) skipS) (dropS (appM 4 (un1 kTuple (listE (compF (itD (rd 9)) (setD 12) yesB (ifE (valB (bin2 kEq (rvD (callQ mq_law_pick 0 (consA (bin2 kIx (lstF (consA (cst (.int 9)) (consA (cst (.int 3)) (consA (cst (.int 5)) nilA)))) (bin2 kMod (rd 2) (cst (.int 3)))) nilA))) (cst (.int 0)))) (cst .none) (rd 12)) [12])))))))))) (seqS (asgS 6 (rvD (callQ mq_law_pick 0 (consA (cst (.int 5)) nilA)))) (seqS (ifS (valB (bin2 kGt (rd 6) (cst (.int 1)))) (seqS (asgS 10 (rvD (callQ mq_law_mixed 0 (consA (listE (lstR1 (rd 2))) nilA)))) (asgN 4 (compR (itD (rd 4)) (setD 9) yesB (un1 kTuple (listE (compF (itD (rd 10)) (setD 11) yesB (bin2 kIx (rd 9) (rd 11)) [11]))) [9]))) skipS) (retS (un1 kTuple (rd 4)))))))))
def mq_law_rows := runQ g_law_rows 13
theorem e_law_rows : ∀ xs ds r, ds.length + 1 = 2 → mq_law_rows xs ds = some r → Leaves g_law_rows (st1 13 xs ds) r.1 fun s => s[0]? = some (.pen r.2) := runQ_ok
end
theorem pick_ok {n : Nat} {xs : List D} {m : Int} (h : PenOk n xs) (hn : n < 2 ^ 20) (hm : 0 < m) (hm2 : m < 2 ^ 63) :
    ∃ d ys, mq_law_pick xs [.int m] = some (.val (.int d), ys) ∧ 0 ≤ d ∧ d < m ∧ PenOk (n + 1) ys := by
  obtain ⟨cs, u, r, rfl, hu, hun, hr⟩ := h
  have sdm : Sd m := sd64 (by omega)
  have kd : ∀ i : Int, kDiv (.int i) (.int m) = some (.int (i / m)) := fun i => k_divP hm sdm
  have km : ∀ i : Int, kMod (.int i) (.int m) = some (.int (i % m)) := fun i => k_modP hm
  have fin : ∀ {d : Int} {u' r' : Int}, (g_law_pick (st1 7 (pen cs u r) [.int m])).map (fun w => (w.1, w.2[0]?)) = some (.ret (.val (.int d)), some (.pen (pen cs u' r'))) → 0 ≤ d → d < m → 0 ≤ u' → u' ≤ u + 1 → 0 ≤ r' →
      ∃ d ys, mq_law_pick (pen cs u r) [.int m] = some (.val (.int d), ys) ∧ 0 ≤ d ∧ d < m ∧ PenOk (n + 1) ys := fun h h1 h2 h3 h4 h5 => ⟨_, _, runQ_map h, h1, h2, cs, _, _, rfl, h3, by omega, h5⟩
  by_cases h0 : 0 < r
  · refine fin (d := r % m) (u' := u) (r' := r / m) ?_ (Int.emod_nonneg _ (by omega)) (Int.emod_lt_of_pos _ hm) hu (by omega) (Int.ediv_nonneg hr (by omega))
    simp [g_law_pick, pen, h0, kd, km]
  · have e18 : kPow (.int 10) (.int 18) = some (.int (10 ^ 18)) := k_powS (n := 18) (by decide) (by omega)
    have m3 : kMul (.int 2203) (.int u) = some (.int (2203 * u)) := k_mulS (by decide) (by omega)
    have m4 : kMul (.int 47947) (.int u) = some (.int (47947 * u)) := k_mulS (by decide) (by omega)
    have m5 : kMul (.int 83003) (.int u) = some (.int (83003 * u)) := k_mulS (by decide) (by omega)
    have m6 : kMul (.int (83003 * u)) (.int u) = some (.int (83003 * u * u)) := k_mulS (by omega) (by omega)
    have mb : ∀ i : Int, kMulB (.int 2) (.int i) = some (.int (2 * i)) := fun i => k_mulB (by decide)
    have n1 : ∀ i : Int, kMod (.int i) (.int 2147483587) = some (.int (i % 2147483587)) := fun i => k_modP (by decide)
    have n2 : ∀ i : Int, kMod (.int i) (.int 2147483647) = some (.int (i % 2147483647)) := fun i => k_modP (by decide)
    have n3 : ∀ i : Int, kMod (.int i) (.int 2147483563) = some (.int (i % 2147483563)) := fun i => k_modP (by decide)
    have n6 : ∀ i : Int, kDiv (.int i) (.int 32) = some (.int (i / 32)) := fun i => k_divP (by decide) (by decide)
    have uu : 83003 * u * u ≤ 83003 * (2 ^ 20) * (2 ^ 20) ∧ 0 ≤ 83003 * u * u := by
      have a1 : u * u ≤ 2 ^ 20 * 2 ^ 20 := Int.mul_le_mul (by omega) (by omega) hu (by decide)
      have a2 : 0 ≤ u * u := Int.mul_nonneg hu hu
      rw [Int.mul_assoc]
      omega
    have stir : ∀ c : Int, ∃ low high : Int, kPow (.int (c % 2147483587 + 47947 * u + 101)) (.int 5) = some (.int ((c % 2147483587 + 47947 * u + 101) ^ 5)) ∧ low = (c % 2147483587 + 47947 * u + 101) ^ 5 % 2147483647 ∧
        kMul (.int low) (.int (u + 36107)) = some (.int (low * (u + 36107))) ∧ kPow (.int (low * (u + 36107) + 83003 * u * u)) (.int 3) = some (.int ((low * (u + 36107) + 83003 * u * u) ^ 3)) ∧ high = (low * (u + 36107) + 83003 * u * u) ^ 3 % 2147483563 := fun c => by
      have c1 := Int.emod_nonneg c (show (2147483587 : Int) ≠ 0 by decide)
      have c2 := Int.emod_lt_of_pos c (show (0 : Int) < 2147483587 by decide)
      refine ⟨(c % 2147483587 + 47947 * u + 101) ^ 5 % 2147483647, ((c % 2147483587 + 47947 * u + 101) ^ 5 % 2147483647 * (u + 36107) + 83003 * u * u) ^ 3 % 2147483563, k_powS (n := 5) (by omega) (by omega), rfl, ?_⟩
      generalize (c % 2147483587 + 47947 * u + 101) ^ 5 = X
      have l1 := Int.emod_nonneg X (show (2147483647 : Int) ≠ 0 by decide)
      have l2 := Int.emod_lt_of_pos X (show (0 : Int) < 2147483647 by decide)
      generalize X % 2147483647 = low at *
      have lu : low * (u + 36107) ≤ 2147483647 * (2 ^ 20 + 36107) ∧ 0 ≤ low * (u + 36107) := ⟨Int.mul_le_mul (by omega) (by omega) (by omega) (by decide), Int.mul_nonneg l1 (by omega)⟩
      exact ⟨k_mulS (by omega) (by omega), k_powS (n := 3) (by omega) (by omega), rfl⟩
    by_cases hc : cs = []
    · subst hc
      obtain ⟨low, high, s1, s2, s3, s4, s5⟩ := stir (2203 * u + 107)
      have hlt : ¬ u < 0 := by omega
      have kne : kNe (.list []) (.list []) = some (.bool false) := rfl
      refine fin (d := high / 32 % m) (u' := u + 1) (r' := r) ?_ (Int.emod_nonneg _ (by omega)) (Int.emod_lt_of_pos _ hm) (by omega) (by omega) hr
      simp [g_law_pick, pen, h0, kd, km, m3, m4, m5, m6, n1, n2, n3, n6, kne, hlt, s1, ← s2, s3, s4, ← s5]
    · have hlen : 0 < (cs.length : Int) := by
        have := List.length_pos_iff.mpr hc
        omega
      have kne : kNe (.list (cs.map PyData.int)) (.list []) = some (.bool true) := by rw [k_neCells' cs]; simp [hc]
      obtain ⟨c, hix⟩ : ∃ c : Int, atI (cs.map PyData.int) (u % (cs.length : Int)) = some (.int c) := by
        have h1 := Int.emod_nonneg u (show (cs.length : Int) ≠ 0 by omega)
        have h2 := Int.emod_lt_of_pos u hlen
        have h3 : (u % (cs.length : Int)).toNat < cs.length := by omega
        refine ⟨cs[(u % (cs.length : Int)).toNat], ?_⟩
        have := at_n (n := (u % (cs.length : Int)).toNat) (xs := cs.map PyData.int) (x := .int cs[(u % (cs.length : Int)).toNat]) (by rw [List.getElem?_map, List.getElem?_eq_getElem h3]; rfl)
        rw [Int.toNat_of_nonneg h1] at this
        exact this
      have kml : kMod (.int u) (.int (cs.length : Int)) = some (.int (u % (cs.length : Int))) := k_modP hlen
      by_cases hb : u < (cs.length : Int) ∧ (10 : Int) ^ 18 ≤ (c.natAbs : Int)
      · obtain ⟨gr, hgr⟩ : ∃ gr : Int, gr = 2 * (c.natAbs : Int) + if c < 0 then 1 else 0 := ⟨_, rfl⟩
        have hg0 : 0 ≤ gr := by split at hgr <;> omega
        refine fin (d := gr % m) (u' := u + 1) (r' := gr / m) ?_ (Int.emod_nonneg _ (by omega)) (Int.emod_lt_of_pos _ hm) (by omega) (by omega) (Int.ediv_nonneg (by omega) (by omega))
        simp [g_law_pick, pen, h0, kd, km, m3, kne, hix, kml, e18, hb.1]
        rw [if_pos (by have := hb.2; omega)]
        simp [mb, kd, km, ← hgr]
      · obtain ⟨low, high, s1, s2, s3, s4, s5⟩ := stir c
        refine fin (d := high / 32 % m) (u' := u + 1) (r' := r) ?_ (Int.emod_nonneg _ (by omega)) (Int.emod_lt_of_pos _ hm) (by omega) (by omega) hr
        by_cases hu2 : u < (cs.length : Int)
        · have hb2 : ¬ (10 : Int) ^ 18 ≤ (c.natAbs : Int) := fun z => hb ⟨hu2, z⟩
          simp [g_law_pick, pen, h0, kd, km, m3, m4, m5, m6, n1, n2, n3, n6, kne, hix, kml, e18, hu2]
          rw [if_neg (by omega)]
          simp [kd, km, m4, m5, m6, n1, n2, n3, n6, s1, ← s2, s3, s4, ← s5]
        · simp [g_law_pick, pen, h0, kd, km, m3, m4, m5, m6, n1, n2, n3, n6, kne, hix, kml, hu2, s1, ← s2, s3, s4, ← s5]
theorem cut_ints (ns : List Int) : cutX (ns.map PyData.int) none (some 63) = (ns.take 63).map PyData.int := by
  rw [show (63 : Int) = ((63 : Nat) : Int) from rfl, cut_take, List.map_take]
theorem pen0 (ns : List Int) : PenOk 0 [.list (cutX (ns.map PyData.int) none (some 63)), .int 0, .int 0] := ⟨ns.take 63, 0, 0, by rw [cut_ints]; rfl, by omega, by omega, by omega⟩
theorem m_law_pen (l : List D) : mf_law_pen [.list l] = some (.new [.list (cutX l none (some 63)), .int 0, .int 0]) := by
  refine runP_map ?_
  simp [g_law_pen]
theorem popM_nat {i : Nat} {g : EF} {st st' : AS} {xs y : List D} {k : Nat} {x : D} (h0 : muC st i = some y) (h1 : g st = some (.int (k : Int), st')) (h2 : muC st' i = some xs) (h3 : xs[k]? = some x) (hk : k < 2 ^ 30) : popM i g st = some (x, putM st' i (xs.eraseIdx k)) := by
  have key : popM i g st = (muC st i).bind fun _ => (g st).bind fun b => (muC b.2 i).bind fun xs => (match b.1 with
    | .int k => if 0 ≤ k ∧ k < 2 ^ 63 then (xs[k.toNat]?).map fun z => (z, putM b.2 i (xs.eraseIdx k.toNat)) else none
    | _ => none) := rfl
  have gen : ∀ j : Int, g st = some (.int j, st') → 0 ≤ j → j < 2 ^ 30 → j.toNat = k → popM i g st = some (x, putM st' i (xs.eraseIdx k)) := fun j h j0 j1 jk => by
    rw [key, h0, h]
    simp only [Option.bind_some, h2]
    rw [if_pos (by omega), jk, h3]
    rfl
  exact gen k h1 (by omega) (by omega) (by omega)
theorem eraseIdx_map (l : List Int) (k : Nat) : (l.map PyData.int).eraseIdx k = (l.eraseIdx k).map PyData.int := by
  induction l generalizing k with
  | nil => rfl
  | cons x l ih => cases k with
    | zero => rfl
    | succ k => simp [List.eraseIdx, ih]
theorem mixed_loop {is : List Int} {L : D} : ∀ (ds : List D) (left : List Int) (n : Nat) (xs : List D), left.length = ds.length → (∀ z ∈ left, z ∈ is) → PenOk n xs → n + ds.length < 2 ^ 20 →
    ∃ (js : List Int) (ys : List D), js.length = ds.length ∧ (∀ z ∈ js, z ∈ is) ∧ PenOk (n + ds.length) ys ∧
      compL (setD 3) yesB (popM 2 (rvD (callQ mq_law_pick 0 (consA (lenM 2) nilA)))) [3] ds [.pen xs, .dat L, .own (left.map PyData.int), .no] = some (js.map PyData.int, [.pen ys, .dat L, .own [], .no])
  | [], left, n, xs, hl, _, hp, _ => by
    have : left = [] := List.eq_nil_of_length_eq_zero hl
    subst this
    exact ⟨[], xs, rfl, by simp, hp, rfl⟩
  | d :: ds, left, n, xs, hl, hm, hp, hn => by
    rw [List.length_cons] at hl hn
    obtain ⟨k, x1, e1, k0, k1, p1⟩ := pick_ok (m := (left.length : Int)) hp (by omega) (by omega) (by omega)
    obtain ⟨k, rfl⟩ : ∃ m : Nat, k = (m : Int) := ⟨k.toNat, by omega⟩
    have hk : k < left.length := by omega
    obtain ⟨js, ys, h1, h2, h3, h4⟩ := mixed_loop (is := is) (L := L) ds (left.eraseIdx k) (n + 1) x1 (by rw [List.length_eraseIdx_of_lt hk]; omega) (fun z hz => hm z (List.mem_of_mem_eraseIdx hz)) p1 (by omega)
    refine ⟨left[k] :: js, ys, by rw [List.length_cons, List.length_cons, h1], ?_, by rw [List.length_cons]; exact h3.mono (by omega), ?_⟩
    · intro z hz
      rcases List.mem_cons.mp hz with rfl | hz
      · exact hm _ (List.getElem_mem _)
      · exact h2 z hz
    · have te : popM 2 (rvD (callQ mq_law_pick 0 (consA (lenM 2) nilA))) [.pen xs, .dat L, .own (left.map PyData.int), .dat d] = some (.int left[k], [.pen x1, .dat L, .own ((left.eraseIdx k).map PyData.int), .dat d]) := by
        have g1 : rvD (callQ mq_law_pick 0 (consA (lenM 2) nilA)) [.pen xs, .dat L, .own (left.map PyData.int), .dat d] = some (.int (k : Int), [.pen x1, .dat L, .own (left.map PyData.int), .dat d]) := by
          simp [e1]
        have g3 : (left.map PyData.int)[k]? = some (.int left[k]) := by rw [List.getElem?_map, List.getElem?_eq_getElem hk]; rfl
        rw [popM_nat (xs := left.map PyData.int) (y := left.map PyData.int) rfl g1 rfl g3 (by omega), eraseIdx_map]
        rfl
      rw [compL_cons (s1 := [.pen xs, .dat L, .own (left.map PyData.int), .dat d]) (by simp) te]
      have : clr [.pen x1, .dat L, .own ((left.eraseIdx k).map PyData.int), .dat d] [3] = [.pen x1, .dat L, .own ((left.eraseIdx k).map PyData.int), .no] := rfl
      rw [this, h4]
      rfl
theorem appM_of {i : Nat} {g : EF} {st st' : AS} {xs y : List D} {x : D} (h0 : muC st i = some y) (h1 : g st = some (x, st')) (h2 : muC st' i = some xs) (hl : xs.length ≤ 1000000) : appM i g st = some (.none, putM st' i (xs ++ [x])) := by
  unfold appM
  rw [h0, h1]
  simp only [Option.bind_some, h2]
  rw [if_pos (by rw [sizeLine_eq]; omega)]
theorem at_ints {zs : List Int} {i : Int} (h0 : 0 ≤ i) (h1 : i < zs.length) : ∃ z ∈ zs, atI (zs.map PyData.int) i = some (.int z) := by
  have h3 : i.toNat < zs.length := by omega
  refine ⟨zs[i.toNat], List.getElem_mem _, ?_⟩
  have := at_n (n := i.toNat) (xs := zs.map PyData.int) (x := .int zs[i.toNat]) (by rw [List.getElem?_map, List.getElem?_eq_getElem h3]; rfl)
  rw [Int.toNat_of_nonneg h0] at this
  exact this
theorem at_bit {f : Int} (f0 : 0 ≤ f) (f1 : f < 2) (b : Bool) : ∃ z, (z = PyData.int 0 ∨ z = .int 1) ∧ atI [PyData.int f, .int (1 - f)] (if b then 1 else 0) = some z := by
  rcases (show f = 0 ∨ f = 1 by omega) with e | e <;> subst e <;> cases b
  · exact ⟨.int 0, .inl rfl, by simp⟩
  · exact ⟨.int 1, .inr rfl, by simp⟩
  · exact ⟨.int 1, .inr rfl, by simp⟩
  · exact ⟨.int 0, .inl rfl, by simp⟩
theorem m_law_mixed {is : List Int} {n : Nat} {xs : List D} (h : PenOk n xs) (hn : n + is.length < 2 ^ 20) (hl : is.length ≤ 1000) :
    ∃ (js : List Int) (ys : List D), js.length = is.length ∧ (∀ z ∈ js, z ∈ is) ∧ PenOk (n + is.length) ys ∧ mq_law_mixed xs [.list (is.map PyData.int)] = some (.new (js.map PyData.int), ys) := by
  obtain ⟨js, ys, h1, h2, h3, h4⟩ := mixed_loop (is := is) (L := .list (is.map PyData.int)) (is.map PyData.int) is n xs (by rw [List.length_map]) (fun z hz => hz) h (by rw [List.length_map]; omega)
  rw [List.length_map] at h1 h3
  refine ⟨js, ys, h1, h2, h3, ?_⟩
  have s1 : asgN 2 (toNew (rd 1)) (st1 4 xs [.list (is.map PyData.int)]) = some (.nx, [.pen xs, .dat (.list (is.map PyData.int)), .own (is.map PyData.int), .no]) := by simp
  have it : itD (rd 1) [.pen xs, .dat (.list (is.map PyData.int)), .own (is.map PyData.int), .no] = some (is.map PyData.int, [.pen xs, .dat (.list (is.map PyData.int)), .own (is.map PyData.int), .no]) := by simp
  have cp := (compF_of (u := setD 3) (tt := yesB) (te := popM 2 (rvD (callQ mq_law_pick 0 (consA (lenM 2) nilA)))) (vs := [3]) it rfl (sl_le (by rw [List.length_map]; omega))).trans h4
  have s2 : retN (compF (itD (rd 1)) (setD 3) yesB (popM 2 (rvD (callQ mq_law_pick 0 (consA (lenM 2) nilA)))) [3]) [.pen xs, .dat (.list (is.map PyData.int)), .own (is.map PyData.int), .no] = some (.ret (.new (js.map PyData.int)), [.pen ys, .dat (.list (is.map PyData.int)), .own [], .no]) := by
    simp only [e_retN, cp]
    rfl
  exact runQ_of ((seqS_nx s1).trans s2) rfl
theorem comp_invM {u : D → AS → Option AS} {te : EF} {vs : List Nat} {c N : Nat} {P : Nat → List D → Prop} {R Rd : D → Prop} {S : List D → AS} (h : ∀ n xs d, Rd d → P n xs → n + c ≤ N → ∃ s1 x ys s2, u d (S xs) = some s1 ∧ te s1 = some (x, s2) ∧ clr s2 vs = S ys ∧ R x ∧ P (n + c) ys) :
    ∀ (ds : List D) (n : Nat) (xs : List D), (∀ d ∈ ds, Rd d) → P n xs → n + c * ds.length ≤ N → ∃ (l ys : List D), l.length = ds.length ∧ (∀ x ∈ l, R x) ∧ P (n + c * ds.length) ys ∧ compL u yesB te vs ds (S xs) = some (l, S ys)
  | [], n, xs, _, hi, _ => ⟨[], xs, rfl, by simp, hi, rfl⟩
  | d :: ds, n, xs, hd, hi, hn => by
    rw [List.length_cons, Nat.mul_add, Nat.mul_one] at hn
    obtain ⟨s1, x, ys, s2, e1, e2, e3, hr, h2⟩ := h n xs d (hd d (.head _)) hi (by omega)
    obtain ⟨l, zs, hl, hg, h3, e4⟩ := comp_invM (S := S) (R := R) h ds (n + c) ys (fun x hx => hd x (.tail _ hx)) h2 (by omega)
    refine ⟨x :: l, zs, by rw [List.length_cons, List.length_cons, hl], ?_, ?_, ?_⟩
    · intro y hy
      rcases List.mem_cons.mp hy with rfl | hy
      · exact hr
      · exact hg y hy
    · rw [List.length_cons, Nat.mul_add, Nat.mul_one]
      have : n + (c * ds.length + c) = n + c + c * ds.length := by omega
      rw [this]
      exact h3
    · rw [compL_cons e1 e2, e3, e4]
      rfl
def Bit (d : D) : Prop := d = .int 0 ∨ d = .int 1
def Ent (d : D) : Prop := d = .none ∨ d = .int 0 ∨ d = .int 1
def RowOk (c : Nat) (r : List D) : Prop := r.length = c ∧ ∀ e ∈ r, Ent e
abbrev RS (xs : List D) (up c w : D) (fo : List D) (s5 s6 s7 s8 s9 s10 : Slot) : AS := [.pen xs, .dat up, .dat c, .dat w, .own fo, s5, s6, s7, s8, s9, s10, .no, .no]
noncomputable def rowS : SF := (seqS (asgS 7 (rvD (callQ mq_law_pick 0 (consA (bin2 kCat (rd 2) (cst (.int 1))) nilA)))) (seqS (asgS 8 (rvD (callQ mq_law_pick 0 (consA (cst (.int 2)) nilA)))) (seqS (asgS 9 (listE (compF (itR1 (rd 2)) (setD 11) yesB (bin2 kIx (lstF (consA (rd 8) (consA (bin2 kSub (cst (.int 1)) (rd 8)) nilA))) (un1 kInt (bin2 kGe (rd 11) (rd 7)))) [11]))) (seqS (ifS (valB (bin2 kGt (rd 3) (cst (.int 0)))) (asgS 9 (listE (compF (itD (rd 9)) (setD 12) yesB (ifE (valB (bin2 kEq (rvD (callQ mq_law_pick 0 (consA (rd 3) nilA))) (cst (.int 0)))) (rvD (callQ mq_law_pick 0 (consA (cst (.int 2)) nilA))) (rd 12)) [12]))) skipS) (dropS (appM 4 (un1 kTuple (listE (compF (itD (rd 9)) (setD 12) yesB (ifE (valB (bin2 kEq (rvD (callQ mq_law_pick 0 (consA (bin2 kIx (lstF (consA (cst (.int 9)) (consA (cst (.int 3)) (consA (cst (.int 5)) nilA)))) (bin2 kMod (rd 2) (cst (.int 3)))) nilA))) (cst (.int 0)))) (cst .none) (rd 12)) [12])))))))))
theorem row_turn {n c : Nat} {w : Int} {xs fo : List D} {up : D} {s5 s6 s7 s8 s9 s10 : Slot} (h : PenOk n xs) (hn : n + 20 < 2 ^ 20) (hc : 2 ≤ c ∧ c ≤ 6) (hw : 0 ≤ w ∧ w < 4) (hf : fo.length ≤ 1000) (h7 : npB s7 = true) (h8 : npB s8 = true) (h9 : npB s9 = true) :
    ∃ r ys d7 d8 d9, rowS (RS xs up (.int c) (.int w) fo s5 s6 s7 s8 s9 s10) = some (.nx, RS ys up (.int c) (.int w) (fo ++ [.tuple r]) s5 s6 (.dat d7) (.dat d8) (.dat d9) s10) ∧ RowOk c r ∧ PenOk (n + 20) ys := by
  obtain ⟨k, x1, e1, k0, k1, p1⟩ := pick_ok (m := (c : Int) + 1) h (by omega) (by omega) (by omega)
  obtain ⟨f, x2, e2, f0, f1, p2⟩ := pick_ok (m := 2) p1 (by omega) (by omega) (by omega)
  have t0 : (asgS 7 (rvD (callQ mq_law_pick 0 (consA (bin2 kCat (rd 2) (cst (.int 1))) nilA)))) (RS xs up (.int c) (.int w) fo s5 s6 s7 s8 s9 s10) = some (.nx, RS x1 up (.int c) (.int w) fo s5 s6 (.dat (.int k)) s8 s9 s10) := by
    simp [e1, h7]
  have t1 : (asgS 8 (rvD (callQ mq_law_pick 0 (consA (cst (.int 2)) nilA)))) (RS x1 up (.int c) (.int w) fo s5 s6 (.dat (.int k)) s8 s9 s10) = some (.nx, RS x2 up (.int c) (.int w) fo s5 s6 (.dat (.int k)) (.dat (.int f)) s9 s10) := by
    simp [e2, h8]
  obtain ⟨l1, x3, hl1, hg1, p3, c1⟩ := comp_invM (u := setD 11) (te := (bin2 kIx (lstF (consA (rd 8) (consA (bin2 kSub (cst (.int 1)) (rd 8)) nilA))) (un1 kInt (bin2 kGe (rd 11) (rd 7))))) (vs := [11]) (c := 0) (N := n + 2) (P := PenOk) (R := Bit) (Rd := fun d => ∃ j : Nat, d = .int j ∧ j < c) (S := fun xs => RS xs up (.int c) (.int w) fo s5 s6 (.dat (.int k)) (.dat (.int f)) s9 s10)
    (fun m zs d hd hp _ => by
      obtain ⟨j, rfl, _⟩ := hd
      obtain ⟨z, hz, ez⟩ := at_bit f0 f1 (decide (k ≤ (j : Int)))
      refine ⟨[.pen zs, .dat up, .dat (.int c), .dat (.int w), .own fo, s5, s6, .dat (.int k), .dat (.int f), s9, s10, .dat (.int j), .no], z, zs, [.pen zs, .dat up, .dat (.int c), .dat (.int w), .own fo, s5, s6, .dat (.int k), .dat (.int f), s9, s10, .dat (.int j), .no], by simp, ?_, rfl, hz, hp⟩
      simp only [e_bin2, e_lstF, e_consA, e_nilA, e_un1, e_rd, e_cst]
      simp
      simpa using ez) (rngD 0 c) (n + 2) x2 (fun d hd => rng_mem hd) p2 (by omega)
  rw [rng_len] at hl1
  have i1 : itR1 (rd 2) (RS x2 up (.int c) (.int w) fo s5 s6 (.dat (.int k)) (.dat (.int f)) s9 s10) = some (rngD 0 c, RS x2 up (.int c) (.int w) fo s5 s6 (.dat (.int k)) (.dat (.int f)) s9 s10) := itR1_nat (by simp) (by omega)
  have cp1 := (compF_of (u := setD 11) (tt := yesB) (te := (bin2 kIx (lstF (consA (rd 8) (consA (bin2 kSub (cst (.int 1)) (rd 8)) nilA))) (un1 kInt (bin2 kGe (rd 11) (rd 7))))) (vs := [11]) i1 rfl (sl_le (by rw [rng_len]; omega))).trans c1
  have t2 : (asgS 9 (listE (compF (itR1 (rd 2)) (setD 11) yesB (bin2 kIx (lstF (consA (rd 8) (consA (bin2 kSub (cst (.int 1)) (rd 8)) nilA))) (un1 kInt (bin2 kGe (rd 11) (rd 7)))) [11]))) (RS x2 up (.int c) (.int w) fo s5 s6 (.dat (.int k)) (.dat (.int f)) s9 s10) = some (.nx, RS x3 up (.int c) (.int w) fo s5 s6 (.dat (.int k)) (.dat (.int f)) (.dat (.list l1)) s10) := by
    simp only [e_asgS, e_listE, cp1]
    simp [h9]
  have n1 : l1.length = c := by omega
  obtain ⟨l2, x4, n2, hg2, p4, t3⟩ : ∃ l2 x4, l2.length = c ∧ (∀ e ∈ l2, Bit e) ∧ PenOk (n + 14) x4 ∧ (ifS (valB (bin2 kGt (rd 3) (cst (.int 0)))) (asgS 9 (listE (compF (itD (rd 9)) (setD 12) yesB (ifE (valB (bin2 kEq (rvD (callQ mq_law_pick 0 (consA (rd 3) nilA))) (cst (.int 0)))) (rvD (callQ mq_law_pick 0 (consA (cst (.int 2)) nilA))) (rd 12)) [12]))) skipS) (RS x3 up (.int c) (.int w) fo s5 s6 (.dat (.int k)) (.dat (.int f)) (.dat (.list l1)) s10) = some (.nx, RS x4 up (.int c) (.int w) fo s5 s6 (.dat (.int k)) (.dat (.int f)) (.dat (.list l2)) s10) := by
    by_cases h0 : 0 < w
    · obtain ⟨l2, x4, q1, q2, q3, q4⟩ := comp_invM (u := setD 12) (te := (ifE (valB (bin2 kEq (rvD (callQ mq_law_pick 0 (consA (rd 3) nilA))) (cst (.int 0)))) (rvD (callQ mq_law_pick 0 (consA (cst (.int 2)) nilA))) (rd 12))) (vs := [12]) (c := 2) (N := n + 14) (P := PenOk) (R := Bit) (Rd := Bit) (S := fun xs => RS xs up (.int c) (.int w) fo s5 s6 (.dat (.int k)) (.dat (.int f)) (.dat (.list l1)) s10)
        (fun m zs d hd hp hm => by
          obtain ⟨j, y1, g1, j0, j1, r1⟩ := pick_ok (m := w) hp (by omega) (by omega) (by omega)
          obtain ⟨b, y2, g2, b0, b1, r2⟩ := pick_ok (m := 2) r1 (by omega) (by omega) (by omega)
          by_cases hj : j = 0
          · refine ⟨[.pen zs, .dat up, .dat (.int c), .dat (.int w), .own fo, s5, s6, .dat (.int k), .dat (.int f), .dat (.list l1), s10, .no, .dat d], .int b, y2, [.pen y2, .dat up, .dat (.int c), .dat (.int w), .own fo, s5, s6, .dat (.int k), .dat (.int f), .dat (.list l1), s10, .no, .dat d], by simp, by simp [g1, g2, hj], rfl, ?_, r2⟩
            rcases (show b = 0 ∨ b = 1 by omega) with e | e <;> subst e
            · exact .inl rfl
            · exact .inr rfl
          · exact ⟨[.pen zs, .dat up, .dat (.int c), .dat (.int w), .own fo, s5, s6, .dat (.int k), .dat (.int f), .dat (.list l1), s10, .no, .dat d], d, y1, [.pen y1, .dat up, .dat (.int c), .dat (.int w), .own fo, s5, s6, .dat (.int k), .dat (.int f), .dat (.list l1), s10, .no, .dat d], by simp, by simp [g1, hj], rfl, hd, r1.mono (by omega)⟩) l1 (n + 2) x3 hg1 (p3.mono (by omega)) (by omega)
      have i2 : itD (rd 9) (RS x3 up (.int c) (.int w) fo s5 s6 (.dat (.int k)) (.dat (.int f)) (.dat (.list l1)) s10) = some (l1, RS x3 up (.int c) (.int w) fo s5 s6 (.dat (.int k)) (.dat (.int f)) (.dat (.list l1)) s10) := by simp
      have cp2 := (compF_of (u := setD 12) (tt := yesB) (te := (ifE (valB (bin2 kEq (rvD (callQ mq_law_pick 0 (consA (rd 3) nilA))) (cst (.int 0)))) (rvD (callQ mq_law_pick 0 (consA (cst (.int 2)) nilA))) (rd 12))) (vs := [12]) i2 rfl (sl_le (n := l1.length) (by omega))).trans q4
      refine ⟨l2, x4, by omega, q2, q3.mono (by omega), ?_⟩
      have cc : valB (bin2 kGt (rd 3) (cst (.int 0))) (RS x3 up (.int c) (.int w) fo s5 s6 (.dat (.int k)) (.dat (.int f)) (.dat (.list l1)) s10) = some (true, RS x3 up (.int c) (.int w) fo s5 s6 (.dat (.int k)) (.dat (.int f)) (.dat (.list l1)) s10) := by simp [h0]
      simp only [e_ifS, cc, Option.bind_some, e_asgS, e_listE, cp2]
      simp
    · exact ⟨l1, x3, n1, hg1, p3.mono (by omega), by simp [h0]⟩
  obtain ⟨mm, hmm, emm⟩ := at_ints (zs := [9, 3, 5]) (i := (c : Int) % 3) (by omega) (by simp; omega)
  have bmm : 0 < mm ∧ mm < 10 := by
    simp only [List.mem_cons, List.not_mem_nil, or_false] at hmm
    omega
  simp only [List.map_cons, List.map_nil] at emm
  have kc : kMod (.int (c : Int)) (.int 3) = some (.int ((c : Int) % 3)) := k_modP (by decide)
  obtain ⟨l3, x5, q1, q2, q3, q4⟩ := comp_invM (u := setD 12) (te := (ifE (valB (bin2 kEq (rvD (callQ mq_law_pick 0 (consA (bin2 kIx (lstF (consA (cst (.int 9)) (consA (cst (.int 3)) (consA (cst (.int 5)) nilA)))) (bin2 kMod (rd 2) (cst (.int 3)))) nilA))) (cst (.int 0)))) (cst .none) (rd 12))) (vs := [12]) (c := 1) (N := n + 20) (P := PenOk) (R := Ent) (Rd := Bit) (S := fun xs => RS xs up (.int c) (.int w) fo s5 s6 (.dat (.int k)) (.dat (.int f)) (.dat (.list l2)) s10)
    (fun m zs d hd hp hm => by
      obtain ⟨j, y1, g1, j0, j1, r1⟩ := pick_ok (m := mm) hp (by omega) (by omega) (by omega)
      by_cases hj : j = 0
      · exact ⟨[.pen zs, .dat up, .dat (.int c), .dat (.int w), .own fo, s5, s6, .dat (.int k), .dat (.int f), .dat (.list l2), s10, .no, .dat d], .none, y1, [.pen y1, .dat up, .dat (.int c), .dat (.int w), .own fo, s5, s6, .dat (.int k), .dat (.int f), .dat (.list l2), s10, .no, .dat d], by simp, by simp [kc, emm, g1, hj], rfl, .inl rfl, r1⟩
      · exact ⟨[.pen zs, .dat up, .dat (.int c), .dat (.int w), .own fo, s5, s6, .dat (.int k), .dat (.int f), .dat (.list l2), s10, .no, .dat d], d, y1, [.pen y1, .dat up, .dat (.int c), .dat (.int w), .own fo, s5, s6, .dat (.int k), .dat (.int f), .dat (.list l2), s10, .no, .dat d], by simp, by simp [kc, emm, g1, hj], rfl, .inr hd, r1⟩) l2 (n + 14) x4 hg2 p4 (by omega)
  have i3 : itD (rd 9) (RS x4 up (.int c) (.int w) fo s5 s6 (.dat (.int k)) (.dat (.int f)) (.dat (.list l2)) s10) = some (l2, RS x4 up (.int c) (.int w) fo s5 s6 (.dat (.int k)) (.dat (.int f)) (.dat (.list l2)) s10) := by simp
  have cp3 := (compF_of (u := setD 12) (tt := yesB) (te := (ifE (valB (bin2 kEq (rvD (callQ mq_law_pick 0 (consA (bin2 kIx (lstF (consA (cst (.int 9)) (consA (cst (.int 3)) (consA (cst (.int 5)) nilA)))) (bin2 kMod (rd 2) (cst (.int 3)))) nilA))) (cst (.int 0)))) (cst .none) (rd 12))) (vs := [12]) i3 rfl (sl_le (n := l2.length) (by omega))).trans q4
  have t4 : (dropS (appM 4 (un1 kTuple (listE (compF (itD (rd 9)) (setD 12) yesB (ifE (valB (bin2 kEq (rvD (callQ mq_law_pick 0 (consA (bin2 kIx (lstF (consA (cst (.int 9)) (consA (cst (.int 3)) (consA (cst (.int 5)) nilA)))) (bin2 kMod (rd 2) (cst (.int 3)))) nilA))) (cst (.int 0)))) (cst .none) (rd 12)) [12]))))) (RS x4 up (.int c) (.int w) fo s5 s6 (.dat (.int k)) (.dat (.int f)) (.dat (.list l2)) s10) = some (.nx, RS x5 up (.int c) (.int w) (fo ++ [.tuple l3]) s5 s6 (.dat (.int k)) (.dat (.int f)) (.dat (.list l2)) s10) := by
    have ge : (un1 kTuple (listE (compF (itD (rd 9)) (setD 12) yesB (ifE (valB (bin2 kEq (rvD (callQ mq_law_pick 0 (consA (bin2 kIx (lstF (consA (cst (.int 9)) (consA (cst (.int 3)) (consA (cst (.int 5)) nilA)))) (bin2 kMod (rd 2) (cst (.int 3)))) nilA))) (cst (.int 0)))) (cst .none) (rd 12)) [12]))) (RS x4 up (.int c) (.int w) fo s5 s6 (.dat (.int k)) (.dat (.int f)) (.dat (.list l2)) s10) = some (.tuple l3, RS x5 up (.int c) (.int w) fo s5 s6 (.dat (.int k)) (.dat (.int f)) (.dat (.list l2)) s10) := by
      simp only [e_un1, e_listE, cp3]
      rfl
    rw [e_dropS, appM_of (y := fo) (xs := fo) rfl ge rfl (by omega)]
    rfl
  exact ⟨l3, x5, .int k, .int f, .list l2, (seqS_nx t0).trans ((seqS_nx t1).trans ((seqS_nx t2).trans ((seqS_nx t3).trans t4))), ⟨by omega, q2⟩, q3.mono (by omega)⟩
end DwF
set_option Elab.async false
set_option linter.all false
set_option maxRecDepth 100000
namespace DwF
open PySem PySem.Spec PyProof.Rows L2 Xm
theorem sav_np {s : Slot} (h : savS (some s) = true) : npB s = true := by
  cases s <;> first | rfl | cases h
theorem rng_ints (c : Nat) : rngD 0 (c : Int) = ((List.range c).map fun (k : Nat) => (k : Int)).map PyData.int := by
  unfold rngD
  rw [List.map_map, Int.sub_zero, Int.toNat_natCast]
  congr 1
  funext k
  simp
theorem all_tup {Q : List D → Prop} : ∀ {l : List D}, (∀ x ∈ l, ∃ r, x = .tuple r ∧ Q r) → ∃ rows : List (List D), l = rows.map PyData.tuple ∧ ∀ r ∈ rows, Q r
  | [], _ => ⟨[], rfl, by simp⟩
  | x :: l, h => by
    obtain ⟨r, rfl, hr⟩ := h x (.head _)
    obtain ⟨rows, rfl, hq⟩ := all_tup fun y hy => h y (.tail _ hy)
    refine ⟨r :: rows, rfl, fun z hz => ?_⟩
    rcases List.mem_cons.mp hz with rfl | hz
    · exact hr
    · exact hq z hz
abbrev SS (xs : List D) (up c w L : D) (s5 s6 s7 s8 : Slot) (js : List Int) : AS := [.pen xs, .dat up, .dat c, .dat w, .dat L, s5, s6, s7, s8, .no, .dat (.list (js.map PyData.int)), .no, .no]
theorem shuffle {c : Nat} {xs : List D} {up c' w L : D} {s5 s6 s7 s8 : Slot} {js : List Int} {rows : List (List D)} (hr : ∀ r ∈ rows, RowOk c r) (hj : ∀ z ∈ js, 0 ≤ z ∧ z < c) (hl : js.length = c) (hc : c ≤ 1000) :
    ∃ rows' : List (List D), rows'.length = rows.length ∧ (∀ r ∈ rows', RowOk c r) ∧ compL (setD 9) yesB (un1 kTuple (listE (compF (itD (rd 10)) (setD 11) yesB (bin2 kIx (rd 9) (rd 11)) [11]))) [9] (rows.map PyData.tuple) (SS xs up c' w L s5 s6 s7 s8 js) = some (rows'.map PyData.tuple, SS xs up c' w L s5 s6 s7 s8 js) := by
  obtain ⟨l, ys, h1, h2, _, h4⟩ := comp_invM (u := setD 9) (te := (un1 kTuple (listE (compF (itD (rd 10)) (setD 11) yesB (bin2 kIx (rd 9) (rd 11)) [11])))) (vs := [9]) (c := 0) (N := 0) (P := fun _ _ => True) (R := fun d => ∃ r, d = .tuple r ∧ RowOk c r) (Rd := fun d => ∃ r, d = .tuple r ∧ RowOk c r) (S := fun _ => SS xs up c' w L s5 s6 s7 s8 js)
    (fun m zs d hd _ _ => by
      obtain ⟨r, rfl, hr⟩ := hd
      obtain ⟨l2, _, k1, k2, _, k4⟩ := comp_invM (u := setD 11) (te := (bin2 kIx (rd 9) (rd 11))) (vs := [11]) (c := 0) (N := 0) (P := fun _ _ => True) (R := Ent) (Rd := fun d => ∃ j : Nat, d = .int j ∧ j < c) (S := fun _ => [.pen xs, .dat up, .dat c', .dat w, .dat L, s5, s6, s7, s8, .dat (.tuple r), .dat (.list (js.map PyData.int)), .no, .no])
        (fun m zs d hd _ _ => by
          obtain ⟨j, rfl, hj⟩ := hd
          have hj' : j < r.length := by rw [hr.1]; exact hj
          have e : atI r (j : Int) = some r[j] := at_n (List.getElem?_eq_getElem hj')
          exact ⟨[.pen xs, .dat up, .dat c', .dat w, .dat L, s5, s6, s7, s8, .dat (.tuple r), .dat (.list (js.map PyData.int)), .dat (.int j), .no], r[j], [], [.pen xs, .dat up, .dat c', .dat w, .dat L, s5, s6, s7, s8, .dat (.tuple r), .dat (.list (js.map PyData.int)), .dat (.int j), .no], by simp, by simp [e], rfl, hr.2 _ (List.getElem_mem _), trivial⟩) (js.map PyData.int) 0 [] (fun d hd => by
            obtain ⟨z, hz, rfl⟩ := List.mem_map.mp hd
            have := hj z hz
            exact ⟨z.toNat, by rw [Int.toNat_of_nonneg this.1], by omega⟩) trivial (by omega)
      rw [List.length_map] at k1
      have it : itD (rd 10) [.pen xs, .dat up, .dat c', .dat w, .dat L, s5, s6, s7, s8, .dat (.tuple r), .dat (.list (js.map PyData.int)), .no, .no] = some (js.map PyData.int, [.pen xs, .dat up, .dat c', .dat w, .dat L, s5, s6, s7, s8, .dat (.tuple r), .dat (.list (js.map PyData.int)), .no, .no]) := by simp
      have cp := (compF_of (u := setD 11) (tt := yesB) (te := (bin2 kIx (rd 9) (rd 11))) (vs := [11]) it rfl (sl_le (n := (js.map PyData.int).length) (by rw [List.length_map]; omega))).trans k4
      refine ⟨[.pen xs, .dat up, .dat c', .dat w, .dat L, s5, s6, s7, s8, .dat (.tuple r), .dat (.list (js.map PyData.int)), .no, .no], .tuple l2, [], [.pen xs, .dat up, .dat c', .dat w, .dat L, s5, s6, s7, s8, .dat (.tuple r), .dat (.list (js.map PyData.int)), .no, .no], by simp, ?_, rfl, ⟨l2, rfl, by omega, k2⟩, trivial⟩
      simp only [e_un1, e_listE, cp]
      rfl) (rows.map PyData.tuple) 0 [] (fun d hd => by
        obtain ⟨r, hm, rfl⟩ := List.mem_map.mp hd
        exact ⟨r, rfl, hr r hm⟩) trivial (by omega)
  obtain ⟨rows', rfl, hq⟩ := all_tup h2
  rw [List.length_map, List.length_map] at h1
  exact ⟨rows', h1, hq, h4⟩
theorem rows_ok {n k : Nat} {xs : List D} (h : PenOk n xs) (hk : 1 ≤ k ∧ k ≤ 100) (hn : n + 20 * k + 40 < 2 ^ 20) :
    ∃ (c : Nat) (rows : List (List D)) (ys : List D), mq_law_rows xs [.int k] = some (.val (.tuple (rows.map PyData.tuple)), ys) ∧ 2 ≤ c ∧ c ≤ 6 ∧ 1 ≤ rows.length ∧ rows.length ≤ k ∧ (∀ r ∈ rows, RowOk c r) ∧ PenOk (n + 20 * k + 40) ys := by
  obtain ⟨a, x1, e1, a0, a1, p1⟩ := pick_ok (m := 5) h (by omega) (by omega) (by omega)
  obtain ⟨b, x2, e2, b0, b1, p2⟩ := pick_ok (m := 3) p1 (by omega) (by omega) (by omega)
  obtain ⟨c, hc, ec⟩ := at_ints (zs := [2 + a, 6, 3]) b0 (by simp; omega)
  have bc : 2 ≤ c ∧ c ≤ 6 := by
    simp only [List.mem_cons, List.not_mem_nil, or_false] at hc
    omega
  simp only [List.map_cons, List.map_nil] at ec
  obtain ⟨c, rfl⟩ : ∃ m : Nat, c = (m : Int) := ⟨c.toNat, by omega⟩
  obtain ⟨w, x3, e3, w0, w1, p3⟩ := pick_ok (m := 4) p2 (by omega) (by omega) (by omega)
  obtain ⟨d, x4, e4, d0, d1, p4⟩ := pick_ok (m := (k : Int)) p3 (by omega) (by omega) (by omega)
  obtain ⟨f, x5, e5, f0, f1, p5⟩ := pick_ok (m := 2) p4 (by omega) (by omega) (by omega)
  obtain ⟨m, hm, em⟩ := at_ints (zs := [1 + d, (k : Int)]) f0 (by simp; omega)
  have bm : 1 ≤ m ∧ m ≤ k := by
    simp only [List.mem_cons, List.not_mem_nil, or_false] at hm
    omega
  simp only [List.map_cons, List.map_nil] at em
  obtain ⟨m, rfl⟩ : ∃ j : Nat, m = (j : Int) := ⟨m.toNat, by omega⟩
  have t0 : (asgS 2 (bin2 kIx (lstF (consA (bin2 kCat (cst (.int 2)) (rvD (callQ mq_law_pick 0 (consA (cst (.int 5)) nilA)))) (consA (cst (.int 6)) (consA (cst (.int 3)) nilA)))) (rvD (callQ mq_law_pick 0 (consA (cst (.int 3)) nilA))))) (st1 13 xs [.int k]) = some (.nx, [.pen x2, .dat (.int k), .dat (.int c), .no, .no, .no, .no, .no, .no, .no, .no, .no, .no]) := by
    simp [e1, e2, ec]
  have t1 : (asgS 3 (rvD (callQ mq_law_pick 0 (consA (cst (.int 4)) nilA)))) [.pen x2, .dat (.int k), .dat (.int c), .no, .no, .no, .no, .no, .no, .no, .no, .no, .no] = some (.nx, [.pen x3, .dat (.int k), .dat (.int c), .dat (.int w), .no, .no, .no, .no, .no, .no, .no, .no, .no]) := by
    simp [e3]
  have t2 : (asgN 4 (newF nilA)) [.pen x3, .dat (.int k), .dat (.int c), .dat (.int w), .no, .no, .no, .no, .no, .no, .no, .no, .no] = some (.nx, RS x3 (.int k) (.int c) (.int w) [] .no .no .no .no .no .no) := by
    simp
  have it : (itR1 (bin2 kIx (lstF (consA (bin2 kCat (cst (.int 1)) (rvD (callQ mq_law_pick 0 (consA (rd 1) nilA)))) (consA (rd 1) nilA))) (rvD (callQ mq_law_pick 0 (consA (cst (.int 2)) nilA))))) (RS x3 (.int k) (.int c) (.int w) [] .no .no .no .no .no .no) = some (rngD 0 m, RS x5 (.int k) (.int c) (.int w) [] .no .no .no .no .no .no) := itR1_nat (by simp [e4, e5, em]) (by omega)
  let I : Nat → AS → Prop := fun q st => ∃ (xs : List D) (rows : List (List D)) (s5 s7 s8 s9 : Slot), st = RS xs (.int k) (.int c) (.int w) (rows.map PyData.tuple) s5 .no s7 s8 s9 .no ∧ PenOk q xs ∧ (∀ r ∈ rows, RowOk c r) ∧ q = n + 5 + 20 * rows.length ∧ savS (some s5) = true ∧ savS (some s7) = true ∧ savS (some s8) = true ∧ savS (some s9) = true
  obtain ⟨st', el, x6, rows, s5, s7, s8, s9, rfl, p6, hr, hq, h5, h7, h8, h9⟩ := loop_inv (u := setD 5) (b := rowS) (c := 20) (N := n + 5 + 20 * k) (I := I) (R := fun _ => True) (fun q st d _ hi hn => by
    obtain ⟨xs, rows, s5, s7, s8, s9, rfl, hp, hr, hq, h5, h7, h8, h9⟩ := hi
    obtain ⟨r, ys, d7, d8, d9, e, ho, hp2⟩ := row_turn (c := c) (w := w) (up := .int k) (s5 := .dat d) (s6 := .no) (s10 := .no) (fo := rows.map PyData.tuple) hp (by omega) (show 2 ≤ c ∧ c ≤ 6 by omega) ⟨w0, w1⟩ (by rw [List.length_map]; omega) (sav_np h7) (sav_np h8) (sav_np h9)
    refine ⟨RS xs (.int k) (.int c) (.int w) (rows.map PyData.tuple) (.dat d) .no s7 s8 s9 .no, _, by simp [sav_np h5], e, ys, rows ++ [r], .dat d, .dat d7, .dat d8, .dat d9, ?_, hp2, ?_, ?_, rfl, rfl, rfl, rfl⟩
    · rw [List.map_append]
      rfl
    · intro z hz
      rcases List.mem_append.mp hz with hz | hz
      · exact hr z hz
      · rw [List.mem_singleton.mp hz]
        exact ho
    · rw [List.length_append, List.length_singleton]
      omega) (rngD 0 m) (n + 5) (RS x5 (.int k) (.int c) (.int w) [] .no .no .no .no .no .no) (fun _ _ => trivial) ⟨x5, [], .no, .no, .no, .no, rfl, p5, by simp, by simp, rfl, rfl, rfl, rfl⟩ (by rw [rng_len]; omega)
  rw [rng_len] at hq p6
  have hl : rows.length = m := by omega
  have t3 := (forS_of (u := setD 5) (b := rowS) it).trans el
  obtain ⟨v, x7, e7, v0, v1, p7⟩ := pick_ok (m := 5) p6 (by omega) (by omega) (by omega)
  have t4 : (asgS 6 (rvD (callQ mq_law_pick 0 (consA (cst (.int 5)) nilA)))) (RS x6 (.int k) (.int c) (.int w) (rows.map PyData.tuple) s5 .no s7 s8 s9 .no) = some (.nx, RS x7 (.int k) (.int c) (.int w) (rows.map PyData.tuple) s5 (.dat (.int v)) s7 s8 s9 .no) := by
    simp [e7]
  obtain ⟨rows2, x8, s10, hl2, hr2, p8, t5⟩ : ∃ (rows2 : List (List D)) (x8 : List D) (s10 : Slot), rows2.length = m ∧ (∀ r ∈ rows2, RowOk c r) ∧ PenOk (n + 20 * k + 40) x8 ∧ (ifS (valB (bin2 kGt (rd 6) (cst (.int 1)))) (seqS (asgS 10 (rvD (callQ mq_law_mixed 0 (consA (listE (lstR1 (rd 2))) nilA)))) (asgN 4 (compR (itD (rd 4)) (setD 9) yesB (un1 kTuple (listE (compF (itD (rd 10)) (setD 11) yesB (bin2 kIx (rd 9) (rd 11)) [11]))) [9]))) skipS) (RS x7 (.int k) (.int c) (.int w) (rows.map PyData.tuple) s5 (.dat (.int v)) s7 s8 s9 .no) = some (.nx, RS x8 (.int k) (.int c) (.int w) (rows2.map PyData.tuple) s5 (.dat (.int v)) s7 s8 s9 s10) := by
    by_cases hv : 1 < v
    · obtain ⟨js, x8, j1, j2, p8, ej⟩ := m_law_mixed (is := (List.range c).map fun (k : Nat) => (k : Int)) p7 (by simp; omega) (by simp; omega)
      rw [← rng_ints] at ej
      have jl : js.length = c := by rw [j1]; simp
      have jr : ∀ z ∈ js, 0 ≤ z ∧ z < c := fun z hz => by
        obtain ⟨q, hq, rfl⟩ := List.mem_map.mp (j2 z hz)
        have := List.mem_range.mp hq
        omega
      obtain ⟨rows2, r1, r2, r3⟩ := shuffle (xs := x8) (up := .int k) (c' := .int c) (w := .int w) (L := .list (rows.map PyData.tuple)) (s5 := s5) (s6 := .dat (.int v)) (s7 := s7) (s8 := s8) hr jr jl (by omega)
      have lr : lstR1 (rd 2) (RS x7 (.int k) (.int c) (.int w) (rows.map PyData.tuple) s5 (.dat (.int v)) s7 s8 s9 .no) = some (rngD 0 c, RS x7 (.int k) (.int c) (.int w) (rows.map PyData.tuple) s5 (.dat (.int v)) s7 s8 s9 .no) := lstR1_nat (by simp) (by omega)
      have u0 : (asgS 10 (rvD (callQ mq_law_mixed 0 (consA (listE (lstR1 (rd 2))) nilA)))) (RS x7 (.int k) (.int c) (.int w) (rows.map PyData.tuple) s5 (.dat (.int v)) s7 s8 s9 .no) = some (.nx, RS x8 (.int k) (.int c) (.int w) (rows.map PyData.tuple) s5 (.dat (.int v)) s7 s8 s9 (.dat (.list (js.map PyData.int)))) := by
        simp only [e_asgS, e_rvD, e_callQ, e_consA, e_listE, e_nilA, lr]
        simp [ej]
      have ir : itD (rd 4) (RS x8 (.int k) (.int c) (.int w) (rows.map PyData.tuple) s5 (.dat (.int v)) s7 s8 s9 (.dat (.list (js.map PyData.int)))) = some (rows.map PyData.tuple, [.pen x8, .dat (.int k), .dat (.int c), .dat (.int w), .dat (.list (rows.map PyData.tuple)), s5, .dat (.int v), s7, s8, s9, .dat (.list (js.map PyData.int)), .no, .no]) := by simp
      have cp := compR_of (u := setD 9) (tt := yesB) (te := (un1 kTuple (listE (compF (itD (rd 10)) (setD 11) yesB (bin2 kIx (rd 9) (rd 11)) [11])))) (vs := [9]) ir (by unfold savB; simp [h9]) (sl_le (n := (rows.map PyData.tuple).length) (by rw [List.length_map]; omega))
      have cl : Xm.clr [.pen x8, .dat (.int k), .dat (.int c), .dat (.int w), .dat (.list (rows.map PyData.tuple)), s5, .dat (.int v), s7, s8, s9, .dat (.list (js.map PyData.int)), .no, .no] [9] = SS x8 (.int k) (.int c) (.int w) (.list (rows.map PyData.tuple)) s5 (.dat (.int v)) s7 s8 js := rfl
      simp only [cl, r3, Option.map_some] at cp
      have u1 : (asgN 4 (compR (itD (rd 4)) (setD 9) yesB (un1 kTuple (listE (compF (itD (rd 10)) (setD 11) yesB (bin2 kIx (rd 9) (rd 11)) [11]))) [9])) (RS x8 (.int k) (.int c) (.int w) (rows.map PyData.tuple) s5 (.dat (.int v)) s7 s8 s9 (.dat (.list (js.map PyData.int)))) = some (.nx, RS x8 (.int k) (.int c) (.int w) (rows2.map PyData.tuple) s5 (.dat (.int v)) s7 s8 s9 (.dat (.list (js.map PyData.int)))) := by
        show ((compR _ _ _ _ _ _).bind _) = _
        rw [cp]
        simp [Xm.rest]
      refine ⟨rows2, x8, .dat (.list (js.map PyData.int)), by omega, r2, p8.mono (by simp; omega), ?_⟩
      have cc : valB (bin2 kGt (rd 6) (cst (.int 1))) (RS x7 (.int k) (.int c) (.int w) (rows.map PyData.tuple) s5 (.dat (.int v)) s7 s8 s9 .no) = some (true, RS x7 (.int k) (.int c) (.int w) (rows.map PyData.tuple) s5 (.dat (.int v)) s7 s8 s9 .no) := by simp [hv]
      rw [e_ifS, cc]
      exact (seqS_nx u0).trans u1
    · exact ⟨rows, x7, .no, hl, hr, p7.mono (by omega), by simp [hv]⟩
  have t6 : (retS (un1 kTuple (rd 4))) (RS x8 (.int k) (.int c) (.int w) (rows2.map PyData.tuple) s5 (.dat (.int v)) s7 s8 s9 s10) = some (.ret (.val (.tuple (rows2.map PyData.tuple))), [.pen x8, .dat (.int k), .dat (.int c), .dat (.int w), .dat (.list (rows2.map PyData.tuple)), s5, .dat (.int v), s7, s8, s9, s10, .no, .no]) := by
    simp
  exact ⟨c, rows2, x8, runQ_of ((seqS_nx t0).trans ((seqS_nx t1).trans ((seqS_nx t2).trans ((seqS_nx t3).trans ((seqS_nx t4).trans ((seqS_nx t5).trans t6)))))) rfl, by omega, by omega, by omega, by omega, hr2, p8⟩
end DwF
set_option Elab.async false
set_option linter.all false
set_option maxRecDepth 100000
namespace CrF
open PySem PySem.Spec PyProof.Rows L2 Xm DwF
noncomputable section
def g_crossings_in : SF := (seqS (asgS 2 (listE (compF (itD (rd 1)) (setD 3) (valB (bin2 kIsNot (bin2 kIx (rd 0) (rd 3)) (cst .none))) (bin2 kIx (rd 0) (rd 3)) [3]))) (retS (un1 kLen (listE (compF (itZip (rd 2) (cutF (rd 2) (someO (cst (.int 1))) noO)) (tupT 2 (consT (setD 4) (consT (setD 5) nilT))) (valB (bin2 kNe (rd 4) (rd 5))) (cst (.int 1)) [4, 5])))))
def mf_crossings_in := runP g_crossings_in 6
theorem e_crossings_in : ∀ ds r, ds.length = 2 → mf_crossings_in ds = some r → Leaves g_crossings_in (st0 6 ds) r fun _ => True := runP_ok
def g_law_crossed : SF := (seqS (asgS 2 (cst (.int 0))) (seqS (forS (itD (rd 0)) (setD 3) (seqS (asgS 4 (cst .none)) (forS (itD (rd 1)) (setD 5) (ifS (valB (bin2 kIsNot (bin2 kIx (rd 3) (rd 5)) (cst .none))) (seqS (asgS 2 (bin2 kCat (rd 2) (un1 kInt (boolE (andB (valB (bin2 kIsNot (rd 4) (cst .none))) (valB (bin2 kNe (rd 4) (bin2 kIx (rd 3) (rd 5))))))))) (asgS 4 (bin2 kIx (rd 3) (rd 5)))) skipS)))) (retS (rd 2))))
def mf_law_crossed := runP g_law_crossed 6
theorem e_law_crossed : ∀ ds r, ds.length = 2 → mf_law_crossed ds = some r → Leaves g_law_crossed (st0 6 ds) r fun _ => True := runP_ok
def g_crossings : SF := (retS (un1 kSum (listE (compF (itD (rd 0)) (setD 2) yesB (rvD (callP mf_crossings_in [] (consA (rd 2) (consA (rd 1) nilA)))) [2]))))
def mf_crossings := runP g_crossings 3
theorem e_crossings : ∀ ds r, ds.length = 2 → mf_crossings ds = some r → Leaves g_crossings (st0 3 ds) r fun _ => True := runP_ok
end
def entI : D → Option Int
  | .int i => some i
  | _ => none
def kn (r : List D) (js : List Nat) : List Int := js.filterMap fun j => (r[j]?).bind entI
def alt : List Int → Nat
  | [] => 0
  | [_] => 0
  | x :: y :: l => (if x = y then 0 else 1) + alt (y :: l)
def cols (js : List Nat) : List D := js.map fun (j : Nat) => PyData.int (j : Int)
theorem cols_rev (js : List Nat) : (cols js).reverse = cols js.reverse := by
  unfold cols
  rw [List.map_reverse]
theorem ent_at {c : Nat} {r : List D} (h : RowOk c r) {j : Nat} (hj : j < c) : ∃ d, r[j]? = some d ∧ (d = .none ∨ d = .int 0 ∨ d = .int 1) := by
  have hj' : j < r.length := by rw [h.1]; exact hj
  exact ⟨r[j], List.getElem?_eq_getElem hj', h.2 _ (List.getElem_mem _)⟩
abbrev CS (r L s2 : Slot) : AS := [r, L, s2, .no, .no, .no]
theorem known_loop {c : Nat} {r : List D} {L : D} (h : RowOk c r) : ∀ js : List Nat, (∀ j ∈ js, j < c) →
    compL (setD 3) (valB (bin2 kIsNot (bin2 kIx (rd 0) (rd 3)) (cst .none))) (bin2 kIx (rd 0) (rd 3)) [3] (cols js) (CS (.dat (.tuple r)) (.dat L) .no) = some ((kn r js).map PyData.int, CS (.dat (.tuple r)) (.dat L) .no)
  | [], _ => rfl
  | j :: js, hj => by
    obtain ⟨d, e, hd⟩ := ent_at h (hj j (.head _))
    have ih := known_loop (L := L) h js fun x hx => hj x (.tail _ hx)
    have ea : atI r (j : Int) = some d := at_n e
    show compL _ _ _ _ (.int (j : Int) :: cols js) _ = _
    have sd : setD 3 (.int (j : Int)) (CS (.dat (.tuple r)) (.dat L) .no) = some [.dat (.tuple r), .dat L, .no, .dat (.int (j : Int)), .no, .no] := by simp
    have cl : Xm.clr [.dat (.tuple r), .dat L, .no, .dat (.int (j : Int)), .no, .no] [3] = CS (.dat (.tuple r)) (.dat L) .no := rfl
    have gt : (bin2 kIx (rd 0) (rd 3)) [.dat (.tuple r), .dat L, .no, .dat (.int (j : Int)), .no, .no] = some (d, [.dat (.tuple r), .dat L, .no, .dat (.int (j : Int)), .no, .no]) := by simp [ea]
    have kk : kn r (j :: js) = (match entI d with | some z => z :: kn r js | none => kn r js) := by
      unfold kn
      rw [List.filterMap_cons, e, Option.bind_some]
      cases entI d <;> rfl
    unfold compL
    rw [sd]
    simp only [Option.bind_some, e_valB, e_bin2 (f := bin2 kIx (rd 0) (rd 3)), gt, e_cst]
    rcases hd with rfl | rfl | rfl
    · have : kIsNot .none .none = some (.bool false) := rfl
      simp only [this, Option.map_some, Option.bind_some, cl, Bool.false_eq_true, if_false, ih, kk, entI]
    · have : kIsNot (.int 0) .none = some (.bool true) := rfl
      simp only [this, Option.map_some, Option.bind_some, if_true, gt, cl, ih, kk, entI]
      rfl
    · have : kIsNot (.int 1) .none = some (.bool true) := rfl
      simp only [this, Option.map_some, Option.bind_some, if_true, gt, cl, ih, kk, entI]
      rfl
theorem ones_loop {r L K : D} : ∀ (x : Int) (ks : List Int),
    compL (tupT 2 (consT (setD 4) (consT (setD 5) nilT))) (valB (bin2 kNe (rd 4) (rd 5))) (cst (.int 1)) [4, 5] (prD ((x :: ks).map PyData.int) (ks.map PyData.int)) [.dat r, .dat L, .dat K, .no, .no, .no] = some (List.replicate (alt (x :: ks)) (.int 1), [.dat r, .dat L, .dat K, .no, .no, .no])
  | x, [] => rfl
  | x, y :: ks => by
    have ih := ones_loop (r := r) (L := L) (K := K) y ks
    show compL _ _ _ _ (.tuple [.int x, .int y] :: prD ((y :: ks).map PyData.int) (ks.map PyData.int)) _ = _
    have sd : tupT 2 (consT (setD 4) (consT (setD 5) nilT)) (.tuple [.int x, .int y]) [.dat r, .dat L, .dat K, .no, .no, .no] = some [.dat r, .dat L, .dat K, .no, .dat (.int x), .dat (.int y)] := by
      simp [tupT, consT, nilT]
    have cl : Xm.clr [.dat r, .dat L, .dat K, .no, .dat (.int x), .dat (.int y)] [4, 5] = [.dat r, .dat L, .dat K, .no, .no, .no] := rfl
    have tt : valB (bin2 kNe (rd 4) (rd 5)) [.dat r, .dat L, .dat K, .no, .dat (.int x), .dat (.int y)] = some (!(x == y), [.dat r, .dat L, .dat K, .no, .dat (.int x), .dat (.int y)]) := by simp
    unfold compL
    rw [sd]
    simp only [Option.bind_some, tt, e_cst, cl, ih, alt]
    by_cases e : x = y
    · simp [e]
    · simp [e, Nat.add_comm 1, List.replicate_succ]
theorem m_crossings_in {c : Nat} {r : List D} (h : RowOk c r) {js : List Nat} (hj : ∀ j ∈ js, j < c) (hl : js.length ≤ 1000) : mf_crossings_in [.tuple r, .tuple (cols js)] = some (.val (.int (alt (kn r js)))) := by
  have it : itD (rd 1) (CS (.dat (.tuple r)) (.dat (.tuple (cols js))) .no) = some (cols js, CS (.dat (.tuple r)) (.dat (.tuple (cols js))) .no) := by simp
  have cp := (compF_of (u := setD 3) (tt := valB (bin2 kIsNot (bin2 kIx (rd 0) (rd 3)) (cst .none))) (te := bin2 kIx (rd 0) (rd 3)) (vs := [3]) it rfl (sl_le (n := (cols js).length) (by unfold cols; rw [List.length_map]; omega))).trans (known_loop h js hj)
  have s1 : (asgS 2 (listE (compF (itD (rd 1)) (setD 3) (valB (bin2 kIsNot (bin2 kIx (rd 0) (rd 3)) (cst .none))) (bin2 kIx (rd 0) (rd 3)) [3]))) (st0 6 [.tuple r, .tuple (cols js)]) = some (.nx, CS (.dat (.tuple r)) (.dat (.tuple (cols js))) (.dat (.list ((kn r js).map PyData.int)))) := by
    show asgS 2 (listE _) (CS (.dat (.tuple r)) (.dat (.tuple (cols js))) .no) = _
    simp only [e_asgS, e_listE, cp]
    simp
  have i2 : itZip (rd 2) (cutF (rd 2) (someO (cst (.int 1))) noO) (CS (.dat (.tuple r)) (.dat (.tuple (cols js))) (.dat (.list ((kn r js).map PyData.int)))) = some (prD ((kn r js).map PyData.int) ((kn r js).map PyData.int).tail, CS (.dat (.tuple r)) (.dat (.tuple (cols js))) (.dat (.list ((kn r js).map PyData.int)))) := by
    have ct : cutX ((kn r js).map PyData.int) (some 1) none = ((kn r js).map PyData.int).tail := by
      have := cut_drop ((kn r js).map PyData.int) 1
      rw [List.drop_one] at this
      exact this
    generalize (kn r js).map PyData.int = kl at *
    simp [ct]
  have o2 : compL (tupT 2 (consT (setD 4) (consT (setD 5) nilT))) (valB (bin2 kNe (rd 4) (rd 5))) (cst (.int 1)) [4, 5] (prD ((kn r js).map PyData.int) ((kn r js).map PyData.int).tail) (CS (.dat (.tuple r)) (.dat (.tuple (cols js))) (.dat (.list ((kn r js).map PyData.int)))) = some (List.replicate (alt (kn r js)) (.int 1), CS (.dat (.tuple r)) (.dat (.tuple (cols js))) (.dat (.list ((kn r js).map PyData.int)))) := by
    generalize kn r js = ks
    cases ks with
    | nil => rfl
    | cons x ks => exact ones_loop x ks
  have cp2 := (compF_of (u := tupT 2 (consT (setD 4) (consT (setD 5) nilT))) (tt := valB (bin2 kNe (rd 4) (rd 5))) (te := cst (.int 1)) (vs := [4, 5]) i2 rfl (sl_le (by
    show (prD _ _).length ≤ 1000000
    rw [prD_len, List.length_map]
    have : (kn r js).length ≤ js.length := List.length_filterMap_le _ _
    omega))).trans o2
  have s2 : (retS (un1 kLen (listE (compF (itZip (rd 2) (cutF (rd 2) (someO (cst (.int 1))) noO)) (tupT 2 (consT (setD 4) (consT (setD 5) nilT))) (valB (bin2 kNe (rd 4) (rd 5))) (cst (.int 1)) [4, 5])))) (CS (.dat (.tuple r)) (.dat (.tuple (cols js))) (.dat (.list ((kn r js).map PyData.int)))) = some (.ret (.val (.int (alt (kn r js)))), CS (.dat (.tuple r)) (.dat (.tuple (cols js))) (.dat (.list ((kn r js).map PyData.int)))) := by
    simp only [e_retS, e_un1, e_listE, cp2]
    simp
  exact runP_of ((seqS_nx s1).trans s2)
def tot (rows : List (List D)) (js : List Nat) : Int := (rows.map fun r => ((alt (kn r js) : Nat) : Int)).sum
theorem ints_map : ∀ zs : List Int, intsD (zs.map PyData.int) = some zs
  | [] => rfl
  | z :: zs => by simp [intsD, ints_map zs]
theorem m_crossings {c : Nat} {rows : List (List D)} (h : ∀ r ∈ rows, RowOk c r) {js : List Nat} (hj : ∀ j ∈ js, j < c) (hl : js.length ≤ 1000) (hr : rows.length ≤ 1000) : mf_crossings [.tuple (rows.map PyData.tuple), .tuple (cols js)] = some (.val (.int (tot rows js))) := by
  have cl : ∀ (rs : List (List D)) (R : D), (∀ r ∈ rs, RowOk c r) → compL (setD 2) yesB (rvD (callP mf_crossings_in [] (consA (rd 2) (consA (rd 1) nilA)))) [2] (rs.map PyData.tuple) [.dat R, .dat (.tuple (cols js)), .no] = some ((rs.map fun r => ((alt (kn r js) : Nat) : Int)).map PyData.int, [.dat R, .dat (.tuple (cols js)), .no]) := fun rs R hrs => by
    induction rs with
    | nil => rfl
    | cons r rs ih =>
      rw [List.map_cons, compL_cons (x := .int ((alt (kn r js) : Nat) : Int)) (s1 := [.dat R, .dat (.tuple (cols js)), .dat (.tuple r)]) (s2 := [.dat R, .dat (.tuple (cols js)), .dat (.tuple r)]) (by simp) (by simp [m_crossings_in (hrs r (.head _)) hj hl])]
      have : Xm.clr [.dat R, .dat (.tuple (cols js)), .dat (.tuple r)] [2] = [.dat R, .dat (.tuple (cols js)), .no] := rfl
      rw [this, ih fun x hx => hrs x (.tail _ hx)]
      rfl
  have it : itD (rd 0) [.dat (.tuple (rows.map PyData.tuple)), .dat (.tuple (cols js)), .no] = some (rows.map PyData.tuple, [.dat (.tuple (rows.map PyData.tuple)), .dat (.tuple (cols js)), .no]) := by simp
  have cp := (compF_of (u := setD 2) (tt := yesB) (te := rvD (callP mf_crossings_in [] (consA (rd 2) (consA (rd 1) nilA)))) (vs := [2]) it rfl (sl_le (n := (rows.map PyData.tuple).length) (by rw [List.length_map]; omega))).trans (cl rows _ h)
  have s1 : (retS (un1 kSum (listE (compF (itD (rd 0)) (setD 2) yesB (rvD (callP mf_crossings_in [] (consA (rd 2) (consA (rd 1) nilA)))) [2])))) (st0 3 [.tuple (rows.map PyData.tuple), .tuple (cols js)]) = some (.ret (.val (.int (tot rows js))), [.dat (.tuple (rows.map PyData.tuple)), .dat (.tuple (cols js)), .no]) := by
    show retS (un1 kSum (listE _)) [.dat (.tuple (rows.map PyData.tuple)), .dat (.tuple (cols js)), .no] = _
    simp only [e_retS, e_un1, e_listE, cp, Option.map_some, Option.bind_some]
    have : kSum (.list ((rows.map fun r => ((alt (kn r js) : Nat) : Int)).map PyData.int)) = some (.int (tot rows js)) := by
      unfold kSum
      simp only [ints_map, Option.map_some]
      rfl
    rw [this]
    rfl
  exact runP_of s1
def bD : Option Int → D
  | none => .none
  | some z => .int z
def altB : Option Int → List Int → Nat
  | none, ks => alt ks
  | some x, ks => alt (x :: ks)
def up1 : Option Int → Int → Int
  | none, _ => 0
  | some x, z => if x = z then 0 else 1
noncomputable def inS : SF := (ifS (valB (bin2 kIsNot (bin2 kIx (rd 3) (rd 5)) (cst .none))) (seqS (asgS 2 (bin2 kCat (rd 2) (un1 kInt (boolE (andB (valB (bin2 kIsNot (rd 4) (cst .none))) (valB (bin2 kNe (rd 4) (bin2 kIx (rd 3) (rd 5))))))))) (asgS 4 (bin2 kIx (rd 3) (rd 5)))) skipS)
abbrev X6 (S L : D) (f : Int) (r : List D) (b : Option Int) (s5 : Slot) : AS := [.dat S, .dat L, .dat (.int f), .dat (.tuple r), .dat (bD b), s5]
theorem in_loop {c : Nat} {r : List D} {S L : D} (h : RowOk c r) : ∀ (js : List Nat) (f : Int) (b : Option Int) (s5 : Slot), (∀ j ∈ js, j < c) → npB s5 = true →
    ∃ b' s5', loopS (setD 5) inS (cols js) (X6 S L f r b s5) = some (.nx, X6 S L (f + altB b (kn r js)) r b' s5') ∧ npB s5' = true
  | [], f, b, s5, _, h5 => ⟨b, s5, by
      have : altB b (kn r []) = 0 := by cases b <;> rfl
      rw [this]
      simp [cols, loopS], h5⟩
  | j :: js, f, b, s5, hj, h5 => by
    obtain ⟨d, e, hd⟩ := ent_at h (hj j (.head _))
    have ea : atI r (j : Int) = some d := at_n e
    have kk : kn r (j :: js) = (match entI d with | some z => z :: kn r js | none => kn r js) := by
      unfold kn
      rw [List.filterMap_cons, e, Option.bind_some]
      cases entI d <;> rfl
    have hj' : ∀ x ∈ js, x < c := fun x hx => hj x (.tail _ hx)
    have go : ∀ z : Int, d = .int z → ∃ b' s5', loopS (setD 5) inS (cols (j :: js)) (X6 S L f r b s5) = some (.nx, X6 S L (f + altB b (kn r (j :: js))) r b' s5') ∧ npB s5' = true := fun z hz => by
      subst hz
      obtain ⟨b', s5', e2, h2⟩ := in_loop (S := S) (L := L) h js (f + up1 b z) (some z) (.dat (.int (j : Int))) hj' rfl
      have st : inS [.dat S, .dat L, .dat (.int f), .dat (.tuple r), .dat (bD b), .dat (.int (j : Int))] = some (.nx, X6 S L (f + up1 b z) r (some z) (.dat (.int (j : Int)))) := by
        have n1 : kIsNot (.int z) .none = some (.bool true) := rfl
        cases b with
        | none =>
          have n0 : kIsNot .none .none = some (.bool false) := rfl
          simp [inS, ea, n1, n0, bD, up1]
        | some x =>
          have n2 : kIsNot (.int x) .none = some (.bool true) := rfl
          by_cases hx : x = z
          · simp [inS, ea, n1, n2, bD, hx, up1]
          · simp [inS, ea, n1, n2, bD, hx, up1]
      refine ⟨b', s5', ?_, h2⟩
      have al : (f + altB b (kn r (j :: js)) : Int) = f + up1 b z + altB (some z) (kn r js) := by
        rw [kk]
        cases b with
        | none =>
          show f + (alt (z :: kn r js) : Int) = f + 0 + (alt (z :: kn r js) : Int)
          omega
        | some x =>
          show f + ((alt (x :: z :: kn r js) : Nat) : Int) = f + (if x = z then 0 else 1) + ((alt (z :: kn r js) : Nat) : Int)
          simp only [alt]
          by_cases hx : x = z
          · simp [hx]
          · simp [hx]
            omega
      rw [al]
      exact (loopS_cons (s1 := [.dat S, .dat L, .dat (.int f), .dat (.tuple r), .dat (bD b), .dat (.int (j : Int))]) (by simp [h5]) st).trans e2
    rcases hd with hd | hd | hd
    · subst hd
      obtain ⟨b', s5', e2, h2⟩ := in_loop (S := S) (L := L) h js f b (.dat (.int (j : Int))) hj' rfl
      have n0 : kIsNot .none .none = some (.bool false) := rfl
      refine ⟨b', s5', ?_, h2⟩
      rw [kk]
      exact (loopS_cons (s1 := [.dat S, .dat L, .dat (.int f), .dat (.tuple r), .dat (bD b), .dat (.int (j : Int))]) (s2 := X6 S L f r b (.dat (.int (j : Int)))) (by simp [h5]) (by simp [inS, ea, n0])).trans e2
    · exact go 0 hd
    · exact go 1 hd
theorem out_loop {c : Nat} {S : D} {js : List Nat} (hj : ∀ j ∈ js, j < c) : ∀ (rows : List (List D)) (f : Int) (s3 s4 s5 : Slot), (∀ r ∈ rows, RowOk c r) → npB s3 = true → npB s4 = true → npB s5 = true →
    ∃ t3 t4 t5, loopS (setD 3) (seqS (asgS 4 (cst .none)) (forS (itD (rd 1)) (setD 5) inS)) (rows.map PyData.tuple) [.dat S, .dat (.tuple (cols js)), .dat (.int f), s3, s4, s5] = some (.nx, [.dat S, .dat (.tuple (cols js)), .dat (.int (f + tot rows js)), t3, t4, t5])
  | [], f, s3, s4, s5, _, _, _, _ => ⟨s3, s4, s5, by simp [loopS, tot]⟩
  | r :: rows, f, s3, s4, s5, hr, h3, h4, h5 => by
    obtain ⟨b', s5', e1, n5⟩ := in_loop (S := S) (L := .tuple (cols js)) (hr r (.head _)) js f none s5 hj h5
    have n4 : npB (.dat (bD b')) = true := rfl
    obtain ⟨t3, t4, t5, e2⟩ := out_loop (S := S) hj rows (f + altB none (kn r js)) (.dat (.tuple r)) (.dat (bD b')) s5' (fun x hx => hr x (.tail _ hx)) rfl n4 n5
    have it : itD (rd 1) (X6 S (.tuple (cols js)) f r none s5) = some (cols js, X6 S (.tuple (cols js)) f r none s5) := by simp
    have st : (seqS (asgS 4 (cst .none)) (forS (itD (rd 1)) (setD 5) inS)) [.dat S, .dat (.tuple (cols js)), .dat (.int f), .dat (.tuple r), s4, s5] = some (.nx, X6 S (.tuple (cols js)) (f + altB none (kn r js)) r b' s5') := by
      refine (seqS_nx (st' := X6 S (.tuple (cols js)) f r none s5) (by simp [h4, bD])).trans ?_
      exact (forS_of it).trans e1
    refine ⟨t3, t4, t5, ?_⟩
    have tt : f + tot (r :: rows) js = f + altB none (kn r js) + tot rows js := by
      show f + (((alt (kn r js) : Nat) : Int) + tot rows js) = _
      rw [Int.add_assoc]
      rfl
    rw [tt]
    exact (loopS_cons (s1 := [.dat S, .dat (.tuple (cols js)), .dat (.int f), .dat (.tuple r), s4, s5]) (by simp [h3]) st).trans e2
theorem m_law_crossed {c : Nat} {rows : List (List D)} (h : ∀ r ∈ rows, RowOk c r) {js : List Nat} (hj : ∀ j ∈ js, j < c) : mf_law_crossed [.tuple (rows.map PyData.tuple), .tuple (cols js)] = some (.val (.int (tot rows js))) := by
  obtain ⟨t3, t4, t5, e⟩ := out_loop (S := .tuple (rows.map PyData.tuple)) hj rows 0 .no .no .no h rfl rfl rfl
  rw [Int.zero_add] at e
  have s1 : (asgS 2 (cst (.int 0))) (st0 6 [.tuple (rows.map PyData.tuple), .tuple (cols js)]) = some (.nx, [.dat (.tuple (rows.map PyData.tuple)), .dat (.tuple (cols js)), .dat (.int 0), .no, .no, .no]) := by simp
  have it : itD (rd 0) [.dat (.tuple (rows.map PyData.tuple)), .dat (.tuple (cols js)), .dat (.int 0), .no, .no, .no] = some (rows.map PyData.tuple, [.dat (.tuple (rows.map PyData.tuple)), .dat (.tuple (cols js)), .dat (.int 0), .no, .no, .no]) := by simp
  have s3 : retS (rd 2) [.dat (.tuple (rows.map PyData.tuple)), .dat (.tuple (cols js)), .dat (.int (tot rows js)), t3, t4, t5] = some (.ret (.val (.int (tot rows js))), [.dat (.tuple (rows.map PyData.tuple)), .dat (.tuple (cols js)), .dat (.int (tot rows js)), t3, t4, t5]) := by simp
  exact runP_of ((seqS_nx s1).trans ((seqS_nx ((forS_of it).trans e)).trans s3))
theorem rk_sheet {c : Nat} {rows : List (List D)} (h : ∀ r ∈ rows, RowOk c r) (hc : c ≤ 6) (hl : rows.length ≤ 12) : ∃ s, kRepr (.tuple (rows.map PyData.tuple)) = some (.str s) := by
  have hrow : ∀ d ∈ rows.map PyData.tuple, Rk 1 5000 d := fun d hd => by
    obtain ⟨r, hr, rfl⟩ := List.mem_map.mp hd
    obtain ⟨h1, h2⟩ := h r hr
    refine (Rk.tuple (k := 0) (n := 600) fun e he => ?_).mono (by omega) (by rw [h1]; omega)
    rcases h2 e he with rfl | rfl | rfl
    · exact Rk.none
    · exact Rk.int (by decide +kernel)
    · exact Rk.int (by decide +kernel)
  exact ⟨_, k_reprT (Rk.tuple hrow) (by omega) (by rw [List.length_map]; omega)⟩
theorem rng_cols (c : Nat) : rngD 0 (c : Int) = cols (List.range c) := by
  unfold rngD cols
  rw [Int.sub_zero, Int.toNat_natCast]
  congr 1
  funext k
  simp
end CrF
set_option Elab.async false
set_option linter.all false
set_option maxRecDepth 100000
namespace Xm
open PySem PySem.Spec PyProof.Rows L2
def augS (i : Nat) (f : EF) : SF := fun st => match st[i]? with
  | some (.dat (.int a)) => (f st).bind fun b => match b.1 with
    | .int j => (setD i (.int (a + j)) b.2).map fun st' => (.nx, st')
    | _ => none
  | _ => none
section
variable {X : Cx} {C : Ct} {pos : Pos} {e : Expr} {f : EF}
end
@[simp] theorem e_augS {i : Nat} {f : EF} {st : AS} : augS i f st = (match st[i]? with
  | some (.dat (.int a)) => (f st).bind fun b => (match b.1 with
    | .int j => (setD i (.int (a + j)) b.2).map fun st' => (.nx, st')
    | _ => none)
  | _ => none) := rfl
def revM (i : Nat) : EF := fun st => (muC st i).map fun xs => (.none, putM st i xs.reverse)
section
variable {X : Cx} {C : Ct} {apos cpos : Pos} {o : Expr}
end
@[simp] theorem e_revM {i : Nat} {st : AS} : revM i st = (muC st i).map fun xs => (.none, putM st i xs.reverse) := rfl
def reprM (i : Nat) : EF := fun st => (muC st i).bind fun xs => (kRepr (.list xs)).map fun z => (z, st)
section
variable {X : Cx} {C : Ct} {pos p : Pos} {a : Expr}
end
@[simp] theorem e_reprM {i : Nat} {st : AS} : reprM i st = (muC st i).bind fun xs => (kRepr (.list xs)).map fun z => (z, st) := rfl
end Xm
set_option Elab.async false
set_option linter.all false
set_option maxRecDepth 100000
namespace Xm
open PySem PySem.Spec PyProof.Rows L2
def clrS (vs : List Nat) (b : SF) : SF := fun st => (b st).map fun w => match w.1 with
  | .nx => (.nx, clr w.2 vs)
  | .cont => (.cont, clr w.2 vs)
  | _ => w
theorem Rel.clrN {K : Kx} {C : Ct} {F H : Hp} {st : AS} {σ : L2.St} (R : Rel K C F st σ H) (vs : List Nat) : Rel K C F (Xm.clr st vs) σ H :=
  rel_mono_slots R (clr_len st vs) fun i s h => by
    rw [clr_get] at h
    split at h
    · cases h; exact .inl rfl
    · exact .inr h
theorem clrS_ok {K : Kx} {C : Ct} {vs : List Nat} {b : SF} {Z : Ends} {σ : L2.St} {H : Hp} (q : sOf K C (clrS vs b) Z σ H) : sOf K C b Z σ H := by
  obtain ⟨F, st, w, R, e, q⟩ := q
  obtain ⟨v, ev, e⟩ := Option.map_eq_some_iff.mp e
  refine ⟨F, st, v, R, ev, ?_⟩
  obtain ⟨fl, s2⟩ := v
  cases fl with
  | nx => cases e; exact fun σ' H' F' s1 R1 => q σ' H' F' s1 (R1.clrN vs)
  | cont => cases e; exact fun σ' H' F' s1 R1 => q σ' H' F' s1 (R1.clrN vs)
  | brk => cases e; exact q
  | ret r => cases e; exact q
section
variable {X : Cx} {C : Ct} {s : Stmt} {ss : List Stmt} {b : SF}
theorem xs_clr (vs : List Nat) (h : PS X s (sOf (kxOf X) C b)) : PS X s (sOf (kxOf X) C (clrS vs b)) := ps_wk h fun _ _ _ q => clrS_ok q
theorem xss_clr (vs : List Nat) (h : PSs X ss (sOf (kxOf X) C b)) : PSs X ss (sOf (kxOf X) C (clrS vs b)) := pss_wk h fun _ _ _ q => clrS_ok q
end
def Wp {α : Type} (f : AS → Option (α × AS)) (st : AS) (Q : α → AS → Prop) : Prop := ∃ a s, f st = some (a, s) ∧ Q a s
theorem ex_of {α : Type} {k : Option α} {z : α} {P : α → Prop} (h : k = some z) (q : P z) : ∃ z, k = some z ∧ P z := ⟨z, h, q⟩
theorem ite_t {b : Bool} {P R : Prop} (h : b = true) (p : P) : if b = true then P else R := by rw [if_pos h]; exact p
theorem ite_f {b : Bool} {P R : Prop} (h : b = false) (p : R) : if b = true then P else R := by rw [if_neg (by rw [h]; exact Bool.false_ne_true)]; exact p
theorem ex_bool {x : Bool} {P : Bool → Prop} (q : P x) : ∃ b, PyData.bool x = .bool b ∧ P b := ⟨x, rfl, q⟩
theorem ex_int {x : Int} {P : Int → Prop} (q : P x) : ∃ b, PyData.int x = .int b ∧ P b := ⟨x, rfl, q⟩
theorem ex_new {x : List D} {P : List D → Prop} (q : P x) : ∃ b, RV.new x = .new b ∧ P b := ⟨x, rfl, q⟩
theorem np_and {o : Option Slot} {P : Prop} (h : npO o = true) (q : P) : npO o = true ∧ P := ⟨h, q⟩
theorem len_and {n : Nat} {P : Prop} (h : n ≤ sizeLine) (q : P) : n ≤ sizeLine ∧ P := ⟨h, q⟩
theorem mu_and {st : AS} {i : Nat} {xs : List D} {P : List D → Prop} (h : muC st i = some xs) (q : P xs) : ∃ ys, muC st i = some ys ∧ P ys := ⟨xs, h, q⟩
theorem ix_t0 {x : D} {l : List D} : kIx (.tuple (x :: l)) (.int 0) = some x := at_0
theorem ix_t1 {x y : D} {l : List D} : kIx (.tuple (x :: y :: l)) (.int 1) = some y := at_1
theorem ix_t2 {x y z : D} {l : List D} : kIx (.tuple (x :: y :: z :: l)) (.int 2) = some z := at_2
theorem ix_l0 {x : D} {l : List D} : kIx (.list (x :: l)) (.int 0) = some x := at_0
theorem ix_l1 {x y : D} {l : List D} : kIx (.list (x :: y :: l)) (.int 1) = some y := at_1
theorem ix_l2 {x y z : D} {l : List D} : kIx (.list (x :: y :: z :: l)) (.int 2) = some z := at_2
theorem ix_sh0 {q : Rat} : kIx (sh q) (.int 0) = some (.int q.num) := rfl
theorem ix_sh1 {q : Rat} : kIx (sh q) (.int 1) = some (.int q.den) := rfl
def kCut (d : D) (lo hi : Option Int) : Option D := match d with
  | .list xs => some (.list (cutX xs lo hi))
  | .tuple xs => some (.tuple (cutX xs lo hi))
  | _ => none
theorem k_cutL {xs : List D} {lo hi : Option Int} : kCut (.list xs) lo hi = some (.list (cutX xs lo hi)) := rfl
theorem k_cutT {xs : List D} {lo hi : Option Int} : kCut (.tuple xs) lo hi = some (.tuple (cutX xs lo hi)) := rfl
theorem ex_arr {mf : List D → Option RV} {src : List (Nat ⊕ Nat)} {us ws ds : List D} {P : RV → Prop} (h : arr .none src us ws = ds) (q : ∃ r, mf ds = some r ∧ P r) : ∃ r, mf (arr .none src us ws) = some r ∧ P r := by rw [h]; exact q
theorem ite_nbt {b : Bool} {P R : Prop} (h : b = false) (p : P) : if (!b) = true then P else R := by rw [h]; exact p
theorem ite_nbf {b : Bool} {P R : Prop} (h : b = true) (p : R) : if (!b) = true then P else R := by rw [h]; exact p
theorem ite_nes {x : Str} {P R : Prop} (p : R) : if (!decide (x = x)) = true then P else R := by rw [decide_eq_true rfl]; exact p
theorem ite_eqs {x : Str} {P R : Prop} (p : P) : if (decide (x = x)) = true then P else R := by rw [decide_eq_true rfl]; exact p
theorem ite_nei {x : Int} {P R : Prop} (p : R) : if (!(x == x)) = true then P else R := by rw [beq_self_eq_true]; exact p
theorem ite_eqi {x : Int} {P R : Prop} (p : P) : if (x == x) = true then P else R := by rw [beq_self_eq_true]; exact p
theorem ite_tt {P R : Prop} (p : P) : if true = true then P else R := p
theorem ite_ff {P R : Prop} (p : R) : if false = true then P else R := p
theorem ite_nt {P R : Prop} (p : R) : if (!true) = true then P else R := p
theorem ite_nf {P R : Prop} (p : P) : if (!false) = true then P else R := p
section
variable {α : Type} {f g : EF} {u v c : BF} {a b : LF} {s t : SF} {st st' : AS} {i j l : Nat} {k : D → D → Option D} {h : D → Option D} {d : D} {QD : D → AS → Prop} {QB : Bool → AS → Prop} {QL : List D → AS → Prop} {QS : Fl → AS → Prop} {QR : RV → AS → Prop}
theorem Wp.imp {F : AS → Option (α × AS)} {Q Q' : α → AS → Prop} (w : Wp F st Q) (h : ∀ a s, Q a s → Q' a s) : Wp F st Q' := by
  obtain ⟨a, s, e, q⟩ := w
  exact ⟨a, s, e, h a s q⟩
theorem wp_of {F : AS → Option (α × AS)} {Q : α → AS → Prop} {x : α} (e : F st = some (x, st')) (q : Q x st') : Wp F st Q := ⟨x, st', e, q⟩
theorem wp_cst (q : QD d st) : Wp (cst d) st QD := ⟨d, st, rfl, q⟩
theorem wp_rd (e : st[i]? = some (.dat d)) (q : QD d st) : Wp (rd i) st QD := ⟨d, st, by rw [e_rd, e], q⟩
theorem wp_rdo {xs : List D} (e : st[i]? = some (.own xs)) (q : QD (.list xs) (st.set i (.dat (.list xs)))) : Wp (rd i) st QD := ⟨_, _, by rw [e_rd, e], q⟩
theorem wp_bin2 (w : Wp f st fun a s1 => Wp g s1 fun b s2 => ∃ z, k a b = some z ∧ QD z s2) : Wp (bin2 k f g) st QD := by
  obtain ⟨a, s1, e1, b, s2, e2, z, e3, q⟩ := w
  exact ⟨z, s2, by rw [e_bin2, e1]; simp only [Option.bind_some, e2, e3]; rfl, q⟩
theorem wp_un1 (w : Wp f st fun a s1 => ∃ z, h a = some z ∧ QD z s1) : Wp (un1 h f) st QD := by
  obtain ⟨a, s1, e1, z, e3, q⟩ := w
  exact ⟨z, s1, by rw [e_un1, e1]; simp only [Option.bind_some, e3]; rfl, q⟩
theorem wp_nilA (q : QL [] st) : Wp nilA st QL := ⟨[], st, rfl, q⟩
theorem wp_consA (w : Wp f st fun x s1 => Wp a s1 fun xs s2 => QL (x :: xs) s2) : Wp (consA f a) st QL := by
  obtain ⟨x, s1, e1, xs, s2, e2, q⟩ := w
  exact ⟨_, s2, by rw [e_consA, e1]; simp only [Option.bind_some, e2]; rfl, q⟩
theorem wp_tupF (w : Wp a st fun xs s1 => xs.length ≤ sizeLine ∧ QD (.tuple xs) s1) : Wp (tupF a) st QD := by
  obtain ⟨x, s1, e1, hl, q⟩ := w
  exact ⟨_, s1, by rw [e_tupF, e1]; simp only [Option.bind_some]; rw [if_pos hl], q⟩
theorem wp_lstF (w : Wp a st fun xs s1 => xs.length ≤ sizeLine ∧ QD (.list xs) s1) : Wp (lstF a) st QD := by
  obtain ⟨x, s1, e1, hl, q⟩ := w
  exact ⟨_, s1, by rw [e_lstF, e1]; simp only [Option.bind_some]; rw [if_pos hl], q⟩
theorem wp_newF (w : Wp a st fun xs s1 => xs.length ≤ sizeLine ∧ QL xs s1) : Wp (newF a) st QL := by
  obtain ⟨x, s1, e1, hl, q⟩ := w
  exact ⟨_, s1, by rw [e_newF, e1]; simp only [Option.bind_some]; rw [if_pos hl], q⟩
theorem wp_listE (w : Wp a st fun xs s1 => QD (.list xs) s1) : Wp (listE a) st QD := by
  obtain ⟨x, s1, e1, q⟩ := w
  exact ⟨_, s1, by rw [e_listE, e1]; rfl, q⟩
theorem wp_valB (w : Wp f st fun d s1 => ∃ b, d = .bool b ∧ QB b s1) : Wp (valB f) st QB := by
  obtain ⟨x, s1, e1, b, rfl, q⟩ := w
  exact ⟨b, s1, by rw [e_valB, e1]; rfl, q⟩
theorem wp_andB (w : Wp u st fun b s1 => if b = true then Wp v s1 QB else QB false s1) : Wp (andB u v) st QB := by
  obtain ⟨x, s1, e1, q⟩ := w
  split at q
  · rename_i hx
    obtain ⟨y, s2, e2, q⟩ := q
    exact ⟨y, s2, by rw [e_andB, e1]; simp only [Option.bind_some]; rw [if_pos hx]; exact e2, q⟩
  · rename_i hx
    exact ⟨false, s1, by rw [e_andB, e1]; simp only [Option.bind_some]; rw [if_neg hx], q⟩
theorem wp_orB (w : Wp u st fun b s1 => if b = true then QB true s1 else Wp v s1 QB) : Wp (orB u v) st QB := by
  obtain ⟨x, s1, e1, q⟩ := w
  split at q
  · rename_i hx
    exact ⟨true, s1, by rw [e_orB, e1]; simp only [Option.bind_some]; rw [if_pos hx], q⟩
  · rename_i hx
    obtain ⟨y, s2, e2, q⟩ := q
    exact ⟨y, s2, by rw [e_orB, e1]; simp only [Option.bind_some]; rw [if_neg hx]; exact e2, q⟩
theorem wp_notB (w : Wp u st fun b s1 => QB (!b) s1) : Wp (notB u) st QB := by
  obtain ⟨x, s1, e1, q⟩ := w
  exact ⟨_, s1, by rw [e_notB, e1]; rfl, q⟩
theorem wp_yesB (q : QB true st) : Wp yesB st QB := ⟨true, st, rfl, q⟩
theorem wp_boolE (w : Wp u st fun b s1 => QD (.bool b) s1) : Wp (boolE u) st QD := by
  obtain ⟨x, s1, e1, q⟩ := w
  exact ⟨_, s1, by rw [e_boolE, e1]; rfl, q⟩
theorem wp_ifE (w : Wp c st fun b s1 => if b = true then Wp f s1 QD else Wp g s1 QD) : Wp (ifE c f g) st QD := by
  obtain ⟨x, s1, e1, q⟩ := w
  split at q
  · rename_i hx
    obtain ⟨y, s2, e2, q⟩ := q
    exact ⟨y, s2, by rw [e_ifE, e1]; simp only [Option.bind_some]; rw [if_pos hx]; exact e2, q⟩
  · rename_i hx
    obtain ⟨y, s2, e2, q⟩ := q
    exact ⟨y, s2, by rw [e_ifE, e1]; simp only [Option.bind_some]; rw [if_neg hx]; exact e2, q⟩
theorem wp_callP {mf : List D → Option RV} {dvs : List D} (w : Wp a st fun xs s1 => ∃ r, mf (xs ++ dvs) = some r ∧ QR r s1) : Wp (callP mf dvs a) st QR := by
  obtain ⟨x, s1, e1, r, e2, q⟩ := w
  exact ⟨r, s1, by rw [e_callP, e1]; simp only [Option.bind_some, e2]; rfl, q⟩
theorem wp_callP0 {mf : List D → Option RV} (w : Wp a st fun xs s1 => ∃ r, mf xs = some r ∧ QR r s1) : Wp (callP mf [] a) st QR := wp_callP (by
  refine w.imp fun xs s q => ?_
  rw [List.append_nil]
  exact q)
theorem wp_callK {mf : List D → Option RV} {src : List (Nat ⊕ Nat)} (w : Wp a st fun xs s1 => Wp b s1 fun ys s2 => ∃ r, mf (arr .none src xs ys) = some r ∧ QR r s2) : Wp (callK mf src a b) st QR := by
  obtain ⟨x, s1, e1, y, s2, e2, r, e3, q⟩ := w
  exact ⟨r, s2, by unfold callK; rw [e1]; simp only [Option.bind_some, e2, e3]; rfl, q⟩
theorem wp_callQ {mq : List D → List D → Option (RV × List D)} {xs : List D} (e0 : muC st i = some xs) (w : Wp a st fun ds s1 => ∃ zs, muC s1 i = some zs ∧ ∃ r, mq zs ds = some r ∧ QR r.1 (putM s1 i r.2)) : Wp (callQ mq i a) st QR := by
  obtain ⟨x, s1, e1, zs, e2, r, e3, q⟩ := w
  exact ⟨r.1, _, by rw [e_callQ, e0]; simp only [Option.bind_some, e1, e2, e3]; rfl, q⟩
theorem wp_rvD {F : AS → Option (RV × AS)} (w : Wp F st fun r s1 => match r with
    | .val d => QD d s1
    | .new xs => QD (.list xs) s1
    | .dct _ => False
    | .exc _ => False) : Wp (rvD F) st QD := by
  obtain ⟨r, s1, e1, q⟩ := w
  cases r with
  | val d => exact ⟨_, s1, by rw [e_rvD, e1]; rfl, q⟩
  | new d => exact ⟨_, s1, by rw [e_rvD, e1]; rfl, q⟩
  | dct d => exact q.elim
  | exc x => exact q.elim
theorem wp_rvN {F : AS → Option (RV × AS)} (w : Wp F st fun r s1 => ∃ xs, r = .new xs ∧ QL xs s1) : Wp (rvN F) st QL := by
  obtain ⟨r, s1, e1, xs, rfl, q⟩ := w
  exact ⟨_, s1, by rw [e_rvN, e1]; rfl, q⟩
theorem wp_itD (w : Wp f st fun d s1 => ∃ xs, (d = .list xs ∨ d = .tuple xs) ∧ QL xs s1) : Wp (itD f) st QL := by
  obtain ⟨r, s1, e1, xs, (rfl | rfl), q⟩ := w <;> exact ⟨_, s1, by rw [e_itD, e1]; rfl, q⟩
theorem wp_noO {Q : Option Int → AS → Prop} (q : Q none st) : Wp noO st Q := ⟨none, st, rfl, q⟩
theorem wp_someO {Q : Option Int → AS → Prop} (w : Wp f st fun d s1 => ∃ i, d = .int i ∧ Q (some i) s1) : Wp (someO f) st Q := by
  obtain ⟨d, s1, e1, i, rfl, q⟩ := w
  exact ⟨_, s1, by rw [e_someO, e1]; rfl, q⟩
theorem wp_cutF {x y : OF} (w : Wp f st fun d s1 => Wp x s1 fun lo s2 => Wp y s2 fun hi s3 => ∃ z, kCut d lo hi = some z ∧ QD z s3) : Wp (cutF f x y) st QD := by
  obtain ⟨d, s1, e1, lo, s2, e2, hi, s3, e3, z, e4, q⟩ := w
  refine ⟨z, s3, ?_, q⟩
  rw [e_cutF, e1]
  simp only [Option.bind_some, e2, e3]
  unfold kCut at e4
  split at e4 <;> cases e4 <;> rfl
theorem wp_itR1 (w : Wp f st fun d s1 => ∃ k : Nat, d = .int k ∧ k ≤ 1000000 ∧ QL (rngD 0 k) s1) : Wp (itR1 f) st QL := by
  obtain ⟨d, s1, e1, k, rfl, hk, q⟩ := w
  exact ⟨_, s1, itR1_nat e1 hk, q⟩
theorem wp_ixM {xs : List D} (e0 : muC st i = some xs) (w : Wp g st fun b s1 => ∃ ys, muC s1 i = some ys ∧ ∃ z, kIx (.list ys) b = some z ∧ QD z s1) : Wp (ixM i g) st QD := by
  obtain ⟨r, s1, e1, ys, e2, z, e3, q⟩ := w
  exact ⟨z, s1, by rw [e_ixM, e0]; simp only [Option.bind_some, e1, e2, e3]; rfl, q⟩
theorem wp_lenM {xs : List D} (e0 : muC st i = some xs) (q : QD (.int xs.length) st) : Wp (lenM i) st QD := ⟨_, st, by rw [e_lenM, e0]; rfl, q⟩
theorem wp_appM {xs : List D} (e0 : muC st i = some xs) (w : Wp g st fun b s1 => ∃ ys, muC s1 i = some ys ∧ ys.length < sizeLine ∧ QD .none (putM s1 i (ys ++ [b]))) : Wp (appM i g) st QD := by
  obtain ⟨r, s1, e1, ys, e2, hl, q⟩ := w
  exact ⟨.none, _, by unfold appM; rw [e0]; simp only [Option.bind_some, e1, e2]; rw [if_pos hl], q⟩
theorem wp_extM {xs : List D} (e0 : muC st i = some xs) (w : Wp g st fun b s1 => ∃ ys zs, muC s1 i = some ys ∧ b = .list zs ∧ ys.length + zs.length ≤ sizeLine ∧ QD .none (putM s1 i (ys ++ zs))) : Wp (extM i g) st QD := by
  obtain ⟨r, s1, e1, ys, zs, e2, rfl, hl, q⟩ := w
  exact ⟨.none, _, by unfold extM; rw [e0]; simp only [Option.bind_some, e1, e2]; rw [if_pos hl], q⟩
theorem wp_popM {xs : List D} (e0 : muC st i = some xs) (w : Wp g st fun b s1 => ∃ (ys : List D) (j : Int) (z : D), muC s1 i = some ys ∧ b = .int j ∧ 0 ≤ j ∧ j < 2 ^ 30 ∧ ys[j.toNat]? = some z ∧ QD z (putM s1 i (ys.eraseIdx j.toNat))) : Wp (popM i g) st QD := by
  obtain ⟨r, s1, e1, ys, n, z, e2, rfl, h0, hn, hz, q⟩ := w
  have key : popM i g st = (muC st i).bind fun _ => (g st).bind fun b => (muC b.2 i).bind fun xs => (match b.1 with
    | .int k => if 0 ≤ k ∧ k < 2 ^ 63 then (xs[k.toNat]?).map fun z => (z, putM b.2 i (xs.eraseIdx k.toNat)) else none
    | _ => none) := rfl
  refine ⟨z, _, ?_, q⟩
  rw [key, e0]
  simp only [Option.bind_some, e1, e2]
  rw [if_pos (by omega), hz]
  rfl
theorem wp_revM {xs : List D} (e0 : muC st i = some xs) (q : QD .none (putM st i xs.reverse)) : Wp (revM i) st QD := ⟨_, _, by rw [e_revM, e0]; rfl, q⟩
theorem wp_reprM {xs : List D} (e0 : muC st i = some xs) (w : ∃ z, kRepr (.list xs) = some z ∧ QD z st) : Wp (reprM i) st QD := by
  obtain ⟨z, e, q⟩ := w
  exact ⟨z, st, by rw [e_reprM, e0]; simp only [Option.bind_some, e]; rfl, q⟩
theorem wp_seq (w : Wp s st fun fl s1 => match fl with
    | .nx => Wp t s1 QS
    | .brk => QS .brk s1
    | .cont => QS .cont s1
    | .ret r => QS (.ret r) s1) : Wp (seqS s t) st QS := by
  obtain ⟨fl, s1, e1, q⟩ := w
  cases fl with
  | nx =>
    obtain ⟨y, s2, e2, q⟩ := q
    exact ⟨y, s2, by rw [e_seqS, e1]; exact e2, q⟩
  | brk => exact ⟨_, s1, by rw [e_seqS, e1]; rfl, q⟩
  | cont => exact ⟨_, s1, by rw [e_seqS, e1]; rfl, q⟩
  | ret r => exact ⟨_, s1, by rw [e_seqS, e1]; rfl, q⟩
theorem wp_skip (q : QS .nx st) : Wp skipS st QS := ⟨_, st, rfl, q⟩
theorem wp_retS (w : Wp f st fun d s1 => QS (.ret (.val d)) s1) : Wp (retS f) st QS := by
  obtain ⟨x, s1, e1, q⟩ := w
  exact ⟨_, s1, by rw [e_retS, e1]; rfl, q⟩
theorem wp_retN (w : Wp a st fun d s1 => QS (.ret (.new d)) s1) : Wp (retN a) st QS := by
  obtain ⟨x, s1, e1, q⟩ := w
  exact ⟨_, s1, by rw [e_retN, e1]; rfl, q⟩
theorem wp_retM {xs : List D} (e0 : st[i]? = some (.own xs)) (q : QS (.ret (.new xs)) st) : Wp (retM i) st QS := ⟨_, st, by unfold retM; rw [e0], q⟩
theorem wp_retMd (e0 : st[i]? = some (.dat d)) (q : QS (.ret (.val d)) st) : Wp (retM i) st QS := ⟨_, st, by unfold retM; rw [e0], q⟩
theorem wp_drop (w : Wp f st fun _ s1 => QS .nx s1) : Wp (dropS f) st QS := by
  obtain ⟨x, s1, e1, q⟩ := w
  exact ⟨_, s1, by rw [e_dropS, e1]; rfl, q⟩
theorem wp_ifS (w : Wp c st fun b s1 => if b = true then Wp s s1 QS else Wp t s1 QS) : Wp (ifS c s t) st QS := by
  obtain ⟨x, s1, e1, q⟩ := w
  split at q
  · rename_i hx
    obtain ⟨y, s2, e2, q⟩ := q
    exact ⟨y, s2, by rw [e_ifS, e1]; simp only [Option.bind_some]; rw [if_pos hx]; exact e2, q⟩
  · rename_i hx
    obtain ⟨y, s2, e2, q⟩ := q
    exact ⟨y, s2, by rw [e_ifS, e1]; simp only [Option.bind_some]; rw [if_neg hx]; exact e2, q⟩
theorem wp_asg (w : Wp f st fun d s1 => npO s1[i]? = true ∧ QS .nx (s1.set i (.dat d))) : Wp (asgS i f) st QS := by
  obtain ⟨x, s1, e1, hn, q⟩ := w
  exact ⟨_, _, by rw [e_asgS, e1]; simp only [Option.bind_some, e_setD]; rw [if_pos hn]; rfl, q⟩
theorem wp_asgN (w : Wp a st fun d s1 => npO s1[i]? = true ∧ QS .nx (s1.set i (.own d))) : Wp (asgN i a) st QS := by
  obtain ⟨x, s1, e1, hn, q⟩ := w
  exact ⟨_, _, by rw [e_asgN, e1]; simp only [Option.bind_some, e_setO]; rw [if_pos hn]; rfl, q⟩
theorem wp_aug {x : Int} (e0 : st[i]? = some (.dat (.int x))) (w : Wp f st fun d s1 => ∃ y, d = .int y ∧ npO s1[i]? = true ∧ QS .nx (s1.set i (.dat (.int (x + y))))) : Wp (augS i f) st QS := by
  obtain ⟨d, s1, e1, y, rfl, hn, q⟩ := w
  exact ⟨_, _, by rw [e_augS, e0]; simp only [e1, Option.bind_some, e_setD]; rw [if_pos hn]; rfl, q⟩
theorem wp_setM {xs : List D} (e0 : muC st i = some xs) (w : Wp f st fun x s1 => ∃ ys, muC s1 i = some ys ∧ Wp g s1 fun b s2 => ∃ (zs : List D) (n : Nat), muC s2 i = some zs ∧ b = .int (n : Int) ∧ n < zs.length ∧ QS .nx (putM s2 i (zs.set n x))) : Wp (setM i f g) st QS := by
  obtain ⟨x, s1, e1, ys, e2, b, s2, e3, zs, n, e4, rfl, hn, q⟩ := w
  refine ⟨_, _, ?_, q⟩
  rw [e_setM, e0]
  simp only [e1, Option.bind_some, e2, e3, e4]
  have : ixN zs.length (n : Int) = some n := by
    unfold ixN
    rw [if_pos (by omega), if_pos (by omega), Int.toNat_natCast]
  rw [this]
  rfl
theorem wp_par2 (w : Wp a st fun ds s1 => ∃ x y, ds = [x, y] ∧ npO s1[i]? = true ∧ npO (s1.set i (.dat x))[j]? = true ∧ QS .nx ((s1.set i (.dat x)).set j (.dat y))) : Wp (par2 i j a) st QS := by
  obtain ⟨ds, s1, e1, x, y, rfl, h1, h2, q⟩ := w
  exact ⟨_, _, by rw [e_par2, e1]; simp only [Option.bind_some, e_setD]; rw [if_pos h1]; simp only [Option.bind_some]; rw [if_pos h2]; rfl, q⟩
theorem wp_asgT {g : D → AS → Option AS} (w : Wp f st fun d s1 => ∃ s2, g d s1 = some s2 ∧ QS .nx s2) : Wp (asgT f g) st QS := by
  obtain ⟨x, s1, e1, s2, e2, q⟩ := w
  exact ⟨_, _, by unfold asgT; rw [e1]; simp only [Option.bind_some, e2]; rfl, q⟩
theorem wp_clr {vs : List Nat} (w : Wp s st fun fl s1 => match fl with
    | .nx => QS .nx (clr s1 vs)
    | .cont => QS .cont (clr s1 vs)
    | .brk => QS .brk s1
    | .ret r => QS (.ret r) s1) : Wp (clrS vs s) st QS := by
  obtain ⟨fl, s1, e1, q⟩ := w
  cases fl with
  | nx => exact ⟨_, _, by unfold clrS; rw [e1]; rfl, q⟩
  | cont => exact ⟨_, _, by unfold clrS; rw [e1]; rfl, q⟩
  | brk => exact ⟨_, _, by unfold clrS; rw [e1]; rfl, q⟩
  | ret r => exact ⟨_, _, by unfold clrS; rw [e1]; rfl, q⟩
theorem wp_loop {u : D → AS → Option AS} {b : SF} (I : List D → AS → Prop) (hs : ∀ d ds s, I (d :: ds) s → ∃ s1, u d s = some s1 ∧ Wp b s1 fun fl s2 => match fl with
    | .nx => I ds s2
    | .cont => I ds s2
    | .brk => QS .nx s2
    | .ret r => QS (.ret r) s2) (he : ∀ s, I [] s → QS .nx s) : ∀ (ds : List D) (s : AS), I ds s → Wp (loopS u b ds) s QS
  | [], s, h => ⟨_, _, rfl, he s h⟩
  | d :: ds, s, h => by
    obtain ⟨s1, e1, fl, s2, e2, q⟩ := hs d ds s h
    cases fl with
    | nx =>
      obtain ⟨w, s3, e3, q⟩ := wp_loop I hs he ds s2 q
      exact ⟨w, s3, by simp only [loopS, e1, Option.bind_some, e2]; exact e3, q⟩
    | cont =>
      obtain ⟨w, s3, e3, q⟩ := wp_loop I hs he ds s2 q
      exact ⟨w, s3, by simp only [loopS, e1, Option.bind_some, e2]; exact e3, q⟩
    | brk => exact ⟨_, _, by simp only [loopS, e1, Option.bind_some, e2], q⟩
    | ret r => exact ⟨_, _, by simp only [loopS, e1, Option.bind_some, e2], q⟩
theorem wp_for {it : LF} {u : D → AS → Option AS} {b : SF} (w : Wp it st fun ds s1 => Wp (loopS u b ds) s1 QS) : Wp (forS it u b) st QS := by
  obtain ⟨ds, s1, e1, fl, s2, e2, q⟩ := w
  exact ⟨fl, s2, by unfold forS; rw [e1]; exact e2, q⟩
theorem wp_compL {u : D → AS → Option AS} {tt : BF} {te : EF} {vs : List Nat} (I : List D → List D → AS → Prop) (hs : ∀ d ds xs s, I (d :: ds) xs s → ∃ s1, u d s = some s1 ∧ Wp tt s1 fun b s2 => if b = true then Wp te s2 fun x s3 => I ds (xs ++ [x]) (clr s3 vs) else I ds xs (clr s2 vs)) :
    ∀ (ds xs : List D) (s : AS), I ds xs s → Wp (compL u tt te vs ds) s fun ys s' => I [] (xs ++ ys) s'
  | [], xs, s, h => ⟨_, _, rfl, by show I [] (xs ++ []) s; rw [List.append_nil]; exact h⟩
  | d :: ds, xs, s, h => by
    obtain ⟨s1, e1, b, s2, e2, q⟩ := hs d ds xs s h
    split at q
    · rename_i hb
      obtain ⟨x, s3, e3, q⟩ := q
      obtain ⟨ys, s4, e4, q⟩ := wp_compL I hs ds (xs ++ [x]) _ q
      refine ⟨x :: ys, s4, by simp only [compL, e1, Option.bind_some, e2]; rw [if_pos hb]; simp only [Option.bind_some, e3, e4]; rfl, ?_⟩
      rw [List.append_assoc] at q
      exact q
    · rename_i hb
      obtain ⟨ys, s4, e4, q⟩ := wp_compL I hs ds xs _ q
      exact ⟨ys, s4, by simp only [compL, e1, Option.bind_some, e2]; rw [if_neg hb]; exact e4, q⟩
theorem wp_compF {it : LF} {u : D → AS → Option AS} {tt : BF} {te : EF} {vs : List Nat} (w : Wp it st fun ds s1 => (allNo s1 vs = true ∧ ds.length ≤ sizeLine) ∧ Wp (compL u tt te vs ds) s1 QL) : Wp (compF it u tt te vs) st QL := by
  obtain ⟨ds, s1, e1, hc, ys, s2, e2, q⟩ := w
  exact ⟨ys, s2, by unfold compF; rw [e1]; simp only [Option.bind_some]; rw [if_pos hc]; exact e2, q⟩
theorem wp_compR {it : LF} {u : D → AS → Option AS} {tt : BF} {te : EF} {vs : List Nat} (w : Wp it st fun ds s1 => (savB s1 vs = true ∧ ds.length ≤ sizeLine) ∧ Wp (compL u tt te vs ds) (clr s1 vs) fun ys s2 => QL ys (rest s1 vs s2)) : Wp (compR it u tt te vs) st QL := by
  obtain ⟨ds, s1, e1, hc, ys, s2, e2, q⟩ := w
  exact ⟨ys, _, by unfold compR; rw [e1]; simp only [Option.bind_some]; rw [if_pos hc, e2]; rfl, q⟩
end
theorem runP_wp {g : SF} {N : Nat} {ds : List D} {r : RV} (w : Wp g (st0 N ds) fun fl _ => fl = .ret r) : runP g N ds = some r := by
  obtain ⟨fl, s, e, rfl⟩ := w
  exact runP_of e
end Xm
set_option Elab.async false
set_option linter.all false
set_option maxRecDepth 100000
namespace Xm
open PySem PySem.Spec PyProof.Rows L2
def raiseS (n : Str) : SF := fun st => some (.ret (.exc ⟨n, []⟩), st)
structure ExC (K : PySem.W.Frag) (mg : Str → Option Value) (n : Str) (C : Addr) (bmB : List Value) (newId : String) : Prop where
  mg : mg n = some (.ref C)
  q : PySem.W.excIn K C bmB newId = true
  keep : PySem.W.keepIn K (.ref C) = true
  sub : PySem.W.subIn K (.ref C) (.type "BaseException") = some true
  ty : PySem.W.typeIn K (.ref C) = some (.type "type")
section
variable {X : Cx} {C : Ct} {pos p p2 cpos : Pos}
end
def retX (c : AS → Option (RV × AS)) : SF := fun st => (c st).map fun r => (.ret r.1, r.2)
def asgX (i : Nat) (c : AS → Option (RV × AS)) : SF := fun st => (c st).bind fun r => match r.1 with
  | .exc x => some (.ret (.exc x), r.2)
  | .val d => (setD i d r.2).map fun st' => (.nx, st')
  | .new xs => (setD i (.list xs) r.2).map fun st' => (.nx, st')
  | .dct _ => none
def dropX (c : AS → Option (RV × AS)) : SF := fun st => (c st).map fun r => match r.1 with
  | .exc x => (.ret (.exc x), r.2)
  | _ => (.nx, r.2)
section
variable {X : Cx} {C : Ct} {j k n m i : Nat} {x y : Str} {p p1 pos : Pos} {e : Expr} {es : List Expr} {g : LF} {mf : List D → Option RV} {dds : List D} {c : AS → Option (RV × AS)}
end
def tryS (ct : Str → Option Bool) (b h : SF) : SF := fun st => (b st).bind fun w => match w.1 with
  | .ret (.exc x) => (match ct x.cls with
    | some true => h w.2
    | some false => some w
    | none => none)
  | _ => some w
section
variable {X : Cx} {C : Ct} {pos pos' np : Pos} {x : Str} {c : Value} {body suite : List Stmt} {b₀ : Stmt} {b h : SF} {ct : Str → Option Bool}
end
theorem FnG.sub {P : Program} {w : World} {K : PySem.W.Frag} {mg : Str → Option Value} {base : Heap} {CX : CXT} {k n : Nat} {f : Addr} {fd : FuncData} {ps : List Str} {mf mf' : List D → Option RV} (h : ∀ ds r, mf ds = some r → mf' ds = some r) (G : FnG P w K mg base CX k f fd ps (spP ⟨K, P, w, mg⟩ n mf')) :
    FnG P w K mg base CX k f fd ps (spP ⟨K, P, w, mg⟩ n mf) :=
  ⟨fun vs H Q E q => by
    obtain ⟨h1, F, ds, r, e1, e2, e3, e4⟩ := q
    exact G.arity vs H Q E ⟨h1, F, ds, r, e1, e2, h _ _ e3, e4⟩, fun A outer s H args us vs Q E hr gd en b v q => by
    obtain ⟨h1, F, ds, r, e1, e2, e3, e4⟩ := q
    exact G.go A outer s H args us vs Q E hr gd en b v ⟨h1, F, ds, r, e1, e2, h _ _ e3, e4⟩⟩
theorem Has.sub {P : Program} {w : World} {K : PySem.W.Frag} {mg : Str → Option Value} {base : Heap} {k n : Nat} {x : Str} {dds : List D} {mf mf' : List D → Option RV} (h : ∀ ds r, mf ds = some r → mf' ds = some r) (G : Has P w K mg base k x n dds mf') : Has P w K mg base k x n dds mf := by
  obtain ⟨f, fd, ps, dvs, ds, h1, h2⟩ := G.ex
  exact ⟨f, fd, ps, dvs, ds, h1.sub h, h2⟩
section
variable {c : AS → Option (RV × AS)} {st : AS} {i : Nat} {QS : Fl → AS → Prop} {b h : SF} {ct : Str → Option Bool}
theorem wp_raise {n : Str} (q : QS (.ret (.exc ⟨n, []⟩)) st) : Wp (raiseS n) st QS := ⟨_, _, rfl, q⟩
theorem wp_retX (w : Wp c st fun r s1 => QS (.ret r) s1) : Wp (retX c) st QS := by
  obtain ⟨r, s1, e, q⟩ := w
  exact ⟨_, _, by unfold retX; rw [e]; rfl, q⟩
theorem wp_asgX (w : Wp c st fun r s1 => match r with
    | .exc x => QS (.ret (.exc x)) s1
    | .val d => npO s1[i]? = true ∧ QS .nx (s1.set i (.dat d))
    | .new xs => npO s1[i]? = true ∧ QS .nx (s1.set i (.dat (.list xs)))
    | .dct kvs => False) : Wp (asgX i c) st QS := by
  obtain ⟨r, s1, e, q⟩ := w
  cases r with
  | exc x => exact ⟨_, _, by unfold asgX; rw [e]; rfl, q⟩
  | val d => exact ⟨_, _, by unfold asgX; rw [e]; simp only [Option.bind_some, e_setD]; rw [if_pos q.1]; rfl, q.2⟩
  | new d => exact ⟨_, _, by unfold asgX; rw [e]; simp only [Option.bind_some, e_setD]; rw [if_pos q.1]; rfl, q.2⟩
  | dct d => exact q.elim
theorem wp_dropX (w : Wp c st fun r s1 => match r with
    | .exc x => QS (.ret (.exc x)) s1
    | _ => QS .nx s1) : Wp (dropX c) st QS := by
  obtain ⟨r, s1, e, q⟩ := w
  cases r <;> exact ⟨_, _, by unfold dropX; rw [e]; rfl, q⟩
theorem wp_try (w : Wp b st fun fl s1 => match fl with
    | .ret (.exc x) => ∃ y, ct x.cls = some y ∧ if y = true then Wp h s1 QS else QS (.ret (.exc x)) s1
    | .ret (.val d) => QS (.ret (.val d)) s1
    | .ret (.new d) => QS (.ret (.new d)) s1
    | .ret (.dct d) => QS (.ret (.dct d)) s1
    | .nx => QS .nx s1
    | .brk => QS .brk s1
    | .cont => QS .cont s1) : Wp (tryS ct b h) st QS := by
  obtain ⟨fl, s1, e, q⟩ := w
  cases fl with
  | nx => exact ⟨_, _, by unfold tryS; rw [e]; rfl, q⟩
  | brk => exact ⟨_, _, by unfold tryS; rw [e]; rfl, q⟩
  | cont => exact ⟨_, _, by unfold tryS; rw [e]; rfl, q⟩
  | ret r =>
    cases r with
    | val d => exact ⟨_, _, by unfold tryS; rw [e]; rfl, q⟩
    | new d => exact ⟨_, _, by unfold tryS; rw [e]; rfl, q⟩
    | dct d => exact ⟨_, _, by unfold tryS; rw [e]; rfl, q⟩
    | exc x =>
      obtain ⟨y, hy, q⟩ := q
      cases y with
      | true =>
        rw [if_pos rfl] at q
        obtain ⟨fl, s2, e2, q⟩ := q
        exact ⟨fl, s2, by unfold tryS; rw [e]; simp only [Option.bind_some, hy]; exact e2, q⟩
      | false =>
        rw [if_neg Bool.false_ne_true] at q
        exact ⟨_, _, by unfold tryS; rw [e]; simp only [Option.bind_some, hy], q⟩
end
end Xm
set_option Elab.async false
set_option linter.all false
set_option maxRecDepth 100000
namespace Xm
open PySem PySem.Spec PyProof.Rows L2
def tLockv (t : TE) : TE := fun σ H Q => t σ H fun v H1 => Q v H1 ∨ ∃ d u, v = .ref d ∧ H1 d = some u ∧ Mut (some u) ∧ ∀ od, Q v (upd H1 d (.frz od u))
theorem pe_lockv {X : Cx} {e : Expr} {t : TE} (h : PE X e t) : PE X e (tLockv t) := by
  refine ⟨fun pins s σ H Q I hw => ?_⟩
  refine thn (h.run pins s σ _ _ I hw) fun v s1 ⟨x, H1, I1, r, z⟩ => ?_
  rcases z with q | ⟨d, u, e1, hd, mu, q⟩
  · exact ⟨x, H1, I1, r, q⟩
  · obtain ⟨od, I2⟩ := I1.lock hd mu
    exact ⟨x, _, I2, r, q od⟩
section
variable {X : Cx} {C : Ct} {pos : Pos}
end
section
variable {X : Cx} {C : Ct} {pos : Pos} {a b c : Expr} {f g h : EF} {r r' : R2} {k k' : D → D → Option D}
end
theorem wp_chE {k k' : D → D → Option D} {f g h : EF} {st : AS} {QD : D → AS → Prop} (w : Wp f st fun a s1 => Wp g s1 fun b s2 => ∃ z, k a b = some (.bool z) ∧ if z = true then Wp h s2 fun c s3 => ∃ y, k' b c = some y ∧ QD y s3 else QD (.bool false) s2) : Wp (chE k k' f g h) st QD := by
  obtain ⟨a, s1, e1, b, s2, e2, z, e3, q⟩ := w
  cases z with
  | true =>
    rw [if_pos rfl] at q
    obtain ⟨c, s3, e4, y, e5, q⟩ := q
    exact ⟨y, s3, by rw [e_chE, e1]; simp only [Option.bind_some, e2, e3, e4, e5]; rfl, q⟩
  | false =>
    rw [if_neg Bool.false_ne_true] at q
    exact ⟨_, s2, by rw [e_chE, e1]; simp only [Option.bind_some, e2, e3], q⟩
theorem ex_le {i j : Int} {P : Bool → Prop} (q : P (decide (i ≤ j))) : ∃ z, kLe (.int i) (.int j) = some (.bool z) ∧ P z := ⟨_, rfl, q⟩
theorem ex_lt {i j : Int} {P : Bool → Prop} (q : P (decide (i < j))) : ∃ z, kLt (.int i) (.int j) = some (.bool z) ∧ P z := ⟨_, rfl, q⟩
section
variable {X : Cx} {C : Ct} {pos : Pos} {a b e : Expr} {rest : List Expr} {f g : EF}
end
section
variable {f g : EF} {st : AS} {QD : D → AS → Prop} {QB : Bool → AS → Prop}
end
end Xm
set_option Elab.async false
set_option linter.all false
set_option maxRecDepth 100000
set_option maxHeartbeats 2000000
namespace Xm
open PySem PySem.Spec PyProof.Rows L2
def dStore (kvs : List (D × D)) (k v : D) : List (D × D) := if (kvs.any fun p => decide (keyOf p.1 = keyOf k)) = true then kvs.map fun p => if keyOf p.1 = keyOf k then (p.1, v) else p else kvs ++ [(k, v)]
def dPut (kvs : List (D × D)) (k v : D) : Option (List (D × D)) := if ((atomK k && kvs.all fun p => atomK p.1) || (tupK k && kvs.all fun p => tupK p.1)) = true ∧ kvs.length < sizeLine then some (dStore kvs k v) else none
theorem dStore_len (kvs : List (D × D)) (k v : D) : (dStore kvs k v).length ≤ kvs.length + 1 := by
  unfold dStore
  split
  · rw [List.length_map]; omega
  · rw [List.length_append, List.length_singleton]; omega
theorem dStore_all {P : D → Bool} {kvs : List (D × D)} {k v : D} (h : (kvs.all fun p => P p.1) = true) (hk : P k = true) : ((dStore kvs k v).all fun p => P p.1) = true := by
  unfold dStore
  rw [List.all_eq_true] at h ⊢
  split
  · intro p hp
    obtain ⟨q, hq, rfl⟩ := List.mem_map.mp hp
    split
    · exact h q hq
    · exact h q hq
  · intro p hp
    rcases List.mem_append.mp hp with hp | hp
    · exact h p hp
    · rw [List.mem_singleton.mp hp]; exact hk
section
variable {κ : Type} [DecidableEq κ] {K : Kx} {F : Hp} {kf : κ → NestedKey}
theorem any_rel (inj : ∀ a b, kf a = kf b → a = b) {kvs : List (D × D)} {vs : List (κ × Value)} {kd : D} {k : κ} (r : Paired (PairR K F kf) kvs vs) (ek : keyOf kd = some (kf k)) : (kvs.any fun p => decide (keyOf p.1 = keyOf kd)) = vs.any fun q => decide (q.1 = k) := by
  induction r with
  | nil => rfl
  | @cons p q ps qs h t ih =>
    rw [List.any_cons, List.any_cons, ih]
    congr 1
    rw [h.1, ek]
    exact decide_eq_decide.mpr ⟨fun z => inj _ _ (Option.some.inj z), fun z => by rw [z]⟩
theorem map_rel (inj : ∀ a b, kf a = kf b → a = b) {kvs : List (D × D)} {vs : List (κ × Value)} {kd d : D} {k : κ} {w : Value} {v : V} (r : Paired (PairR K F kf) kvs vs) (ek : keyOf kd = some (kf k)) (rv : RelV v w) (hv : Dp K F v d) :
    Paired (PairR K F kf) (kvs.map fun p => if keyOf p.1 = keyOf kd then (p.1, d) else p) (vs.map fun kv => if kv.1 = k then (kv.1, w) else kv) := by
  induction r with
  | nil => exact .nil
  | @cons p q ps qs h t ih =>
    refine .cons ?_ ih
    by_cases e : q.1 = k
    · have e2 : keyOf p.1 = keyOf kd := by rw [h.1, ek, e]
      show PairR K F kf (if keyOf p.1 = keyOf kd then (p.1, d) else p) (if q.1 = k then (q.1, w) else q)
      rw [if_pos e2, if_pos e]
      exact ⟨h.1, v, rv, hv⟩
    · have e2 : ¬ keyOf p.1 = keyOf kd := fun z => e (inj _ _ (Option.some.inj (by rw [← h.1, ← ek]; exact z)))
      show PairR K F kf (if keyOf p.1 = keyOf kd then (p.1, d) else p) (if q.1 = k then (q.1, w) else q)
      rw [if_neg e2, if_neg e]
      exact h
theorem store_rel (inj : ∀ a b, kf a = kf b → a = b) {kvs : List (D × D)} {vs : List (κ × Value)} {kd d : D} {k : κ} {w : Value} {v : V} (r : Paired (PairR K F kf) kvs vs) (ek : keyOf kd = some (kf k)) (rv : RelV v w) (hv : Dp K F v d) : Paired (PairR K F kf) (dStore kvs kd d) (stored vs k w) := by
  unfold dStore stored
  rw [any_rel inj r ek]
  by_cases h : (vs.any fun q => decide (q.1 = k)) = true
  · rw [if_pos h, if_pos h]
    exact map_rel inj r ek rv hv
  · rw [if_neg h, if_neg h]
    exact r.snoc ⟨ek, v, rv, hv⟩
end
theorem atom_inj {d : D} {q : Key} (h : atomK d = true) (e : keyOf d = some (keyN q)) : d = keyD q := by
  obtain ⟨q', rfl⟩ := atomK_key h
  rw [keyOf_keyD] at e
  rw [keyN_inj (Option.some.inj e)]
theorem unpair_mix {K : Kx} {F : Hp} {kvs : List (D × D)} {vs : List (Key × Value)} (r : Paired (PairR K F keyN) kvs vs) (h : (kvs.all fun p => atomK p.1) = true) : ∃ ps : List (Key × V), KV ps vs ∧ kvs.map (·.1) = ps.map (fun p => keyD p.1) ∧ DpAll K F (ps.map (·.2)) (kvs.map (·.2)) := by
  induction r with
  | nil => exact ⟨[], .nil, rfl, .nil⟩
  | @cons p q ps qs hq t ih =>
    simp only [List.all_cons, Bool.and_eq_true] at h
    obtain ⟨rs, h1, h2, h3⟩ := ih h.2
    obtain ⟨e, v, rv, hv⟩ := hq
    exact ⟨(q.1, v) :: rs, .cons ⟨rfl, rv⟩ h1, by simp only [List.map_cons, h2, atom_inj h.1 e], .cons hv h3⟩
def PairN (K : Kx) (F : Hp) (p : D × D) (x : NestedKey × Addr × Value) : Prop := keyOf p.1 = some x.1 ∧ x.1.depth ≤ 8 ∧ Dp K F (.ref x.2.1) p.1 ∧ ∃ v, RelV v x.2.2 ∧ Dp K F v p.2
theorem atKey_cons {p : NestedKey × Addr × Value} {ps : List (NestedKey × Addr × Value)} {k : NestedKey} : atKey (p :: ps) k = if p.1 = k then some p.2 else atKey ps k := by
  unfold atKey
  by_cases e : p.1 = k
  · rw [if_pos e, List.find?_cons_of_pos (by simpa using e)]; rfl
  · rw [if_neg e, List.find?_cons_of_neg (by simpa using e)]
section
variable {K : Kx} {F : Hp} {kvs : List (D × D)} {xs : List (NestedKey × Addr × Value)} {kd d : D} {k : NestedKey} {b : Addr} {w : Value} {v : V}
theorem anyN_rel (r : Paired (PairN K F) kvs xs) (ek : keyOf kd = some k) : (kvs.any fun p => decide (keyOf p.1 = keyOf kd)) = (atKey xs k).isSome := by
  induction r with
  | nil => rfl
  | @cons p q ps qs h t ih =>
    rw [List.any_cons, ih, atKey_cons]
    by_cases e : q.1 = k
    · rw [if_pos e, decide_eq_true (by rw [h.1, ek, e])]; rfl
    · rw [if_neg e, decide_eq_false (fun z => e (Option.some.inj (by rw [← h.1, ← ek]; exact z)))]; rfl
theorem mapN_rel (r : Paired (PairN K F) kvs xs) (ek : keyOf kd = some k) (rv : RelV v w) (hv : Dp K F v d) : Paired (PairN K F) (kvs.map fun p => if keyOf p.1 = keyOf kd then (p.1, d) else p) (xs.map (putAt k w)) := by
  induction r with
  | nil => exact .nil
  | @cons p q ps qs h t ih =>
    refine .cons ?_ ih
    by_cases e : q.1 = k
    · have e2 : keyOf p.1 = keyOf kd := by rw [h.1, ek, e]
      show PairN K F (if keyOf p.1 = keyOf kd then (p.1, d) else p) (putAt k w q)
      rw [if_pos e2]
      have : putAt k w q = (q.1, q.2.1, w) := by unfold putAt; rw [if_pos e]
      rw [this]
      exact ⟨h.1, h.2.1, h.2.2.1, v, rv, hv⟩
    · have e2 : ¬ keyOf p.1 = keyOf kd := fun z => e (Option.some.inj (by rw [← h.1, ← ek]; exact z))
      show PairN K F (if keyOf p.1 = keyOf kd then (p.1, d) else p) (putAt k w q)
      rw [if_neg e2]
      have : putAt k w q = q := by unfold putAt; rw [if_neg e]
      rw [this]
      exact h
theorem storeN_rel (r : Paired (PairN K F) kvs xs) (ek : keyOf kd = some k) (hd : k.depth ≤ 8) (hk : Dp K F (.ref b) kd) (rv : RelV v w) (hv : Dp K F v d) : Paired (PairN K F) (dStore kvs kd d) (storedH xs k b w) := by
  unfold dStore storedH
  rw [anyN_rel r ek]
  by_cases h : (atKey xs k).isSome = true
  · rw [if_pos h, if_pos h]
    exact mapN_rel r ek rv hv
  · rw [if_neg h, if_neg h]
    exact r.snoc ⟨ek, hd, hk, v, rv, hv⟩
theorem unpair_nest (r : Paired (PairN K F) kvs xs) : ∃ rows : List Row, Paired (fun (r : Row) (x : NestedKey × Addr × Value) => r.1 = x.1 ∧ r.2.1 = x.2.1 ∧ RelV r.2.2 x.2.2) rows xs ∧ keysOf (kvs.map (·.1)) = some (rows.map (·.1)) ∧ (∀ r ∈ rows, r.1.depth ≤ 8) ∧
    DpAll K F (rows.map fun r => V.ref r.2.1) (kvs.map (·.1)) ∧ DpAll K F (rows.map (·.2.2)) (kvs.map (·.2)) := by
  induction r with
  | nil => exact ⟨[], .nil, rfl, (fun r hr => nomatch hr), .nil, .nil⟩
  | @cons p q ps qs hq t ih =>
    obtain ⟨rs, h1, h2, h3, h4, h5⟩ := ih
    obtain ⟨e, hd, hk, v, rv, hv⟩ := hq
    refine ⟨(q.1, q.2.1, v) :: rs, .cons ⟨rfl, rfl, rv⟩ h1, by simp only [List.map_cons, keysOf, e, h2, Option.bind_some, Option.map_some], fun r hr => ?_, .cons hk h4, .cons hv h5⟩
    rcases List.mem_cons.mp hr with rfl | hr
    · exact hd
    · exact h3 r hr
end
section
variable {X : Cx} {pins : List (Addr × Obj)} {σ : L2.St} {H F : Hp} {s : Shared} {a : Addr} {u : HO} {kvs : List (D × D)} {A : Around} {E : Value → Shared → Prop} {k d : D} {yv vv : V} {y w : Value}
theorem rowsN {rows : List Row} {xs : List (NestedKey × Addr × Value)} {K : Kx} {kvs : List (D × D)} (r : Paired (fun (r : Row) (x : NestedKey × Addr × Value) => r.1 = x.1 ∧ r.2.1 = x.2.1 ∧ RelV r.2.2 x.2.2) rows xs) (ek : keysOf (kvs.map (·.1)) = some (rows.map (·.1))) (hd : ∀ r ∈ rows, r.1.depth ≤ 8)
    (hk : DpAll K F (rows.map fun r => V.ref r.2.1) (kvs.map (·.1))) (h : DpAll K F (rows.map (·.2.2)) (kvs.map (·.2))) : Paired (PairN K F) kvs xs := by
  induction r generalizing kvs with
  | nil =>
    cases kvs with
    | nil => exact .nil
    | cons p q => cases h
  | @cons p q ps qs hq t ih =>
    cases kvs with
    | nil => cases h
    | cons k ks =>
      simp only [List.map_cons, keysOf] at ek h hk
      obtain ⟨k0, e1, e⟩ := Option.bind_eq_some_iff.mp ek
      obtain ⟨ks', e2, e3⟩ := Option.map_eq_some_iff.mp e
      obtain ⟨e4, e5⟩ := List.cons.inj e3
      cases h with
      | cons h1 h2 =>
        cases hk with
        | cons k1 k2 =>
          have hd0 := hd p (.head _)
          have hq0 := hq.2.1
          exact .cons ⟨by rw [e1, e4, hq.1], by rw [← hq.1]; exact hd0, by rw [← hq0]; exact k1, p.2.2, hq.2.2, h1⟩ (ih (by rw [e2, e5]) (fun r hr => hd r (.tail _ hr)) k2 h2)
theorem dr_nestX (I : Inv X pins σ H s) (fh : Same F H) (hu : Rd H a u) (dr : DR (kxOf X) F a u kvs) (c : (kvs.all fun p => tupK p.1) = true) :
    ∃ xs, (a == sysModules) = false ∧ xs.length ≤ sizeLine ∧ s.heap.DictOfH (nestedKind X.prog X.w) a xs ∧ Paired (PairN (kxOf X) F) kvs xs := by
  rcases dr with ⟨rows, rfl, h2, h3, h4, h5, h6⟩ | ⟨ps, rfl, h2, h3, h4⟩
  · obtain ⟨⟨sm, nd, o, es, ep, xs, ho, hx, hd, he, pr⟩, _⟩ := rd_ok I hu
    have hn : (xs.map (·.1)).Nodup := by rw [← rows_keys pr]; exact nd
    exact ⟨xs, sm, by rw [← pr.length]; exact h2, ⟨o, es, ep, ho, hx, hd, he, vals_all I fh pr h3 h4 h5, hn⟩, rowsN pr h3 h4 h5 h6⟩
  · obtain ⟨z, sm, vs, rel, dd⟩ := dk_rd I.hok hu
    cases kvs with
    | nil =>
      have : ps = [] := by
        cases ps with
        | nil => rfl
        | cons r rs => cases h2
      subst this
      cases rel
      obtain ⟨o, es, ep, ho, hx, hd, _, pr, _⟩ := dd
      have he : es.toList = [] := by
        have := pr.length
        simpa using this
      exact ⟨[], sm, Nat.zero_le _, ⟨o, es, ep, ho, hx, hd, by simpa using he, (fun x hx => nomatch hx), List.nodup_nil⟩, .nil⟩
    | cons p q =>
      exfalso
      have := tup_not_atom (by simpa using (List.all_eq_true.mp c) p (.head _))
      cases ps with
      | nil => cases h2
      | cons r rs =>
        simp only [List.map_cons] at h2
        rw [(List.cons.inj h2).1] at this
        cases hk : r.1 <;> rw [hk] at this <;> cases this
theorem dtO_ok {P : Program} {w : World} {H : Hp} {h : Heap} {K : Kx} {rows : List Row} {xs : List (NestedKey × Addr × Value)} (hP : K.P = P) (hw : K.w = w) (sm : (a == sysModules) = false) (hm : h.DictOfH (nestedKind K.P K.w) a xs) (pr : Paired (fun (r : Row) (x : NestedKey × Addr × Value) => r.1 = x.1 ∧ r.2.1 = x.2.1 ∧ RelV r.2.2 x.2.2) rows xs) : ObjOk P w H h a (dtO K a rows) := by
  obtain ⟨o, es, ep, ho, hx, hd, he, _, hn⟩ := hm
  exact ⟨⟨sm, by rw [rows_keys pr]; exact hn, o, es, ep, xs, ho, hx, hd, he, pr⟩, ⟨o, ho⟩, fun h1 h2 ⟨sm, nd, o, es, ep, xs, ho, r⟩ st => ⟨sm, nd, o, es, ep, xs, st _ ho, r⟩⟩
theorem dr_mut {K : Kx} (hu : H a = some u) (dr : DR K F a u kvs) : Mut (H a) := by
  rw [hu]
  rcases dr with ⟨rows, rfl, _⟩ | ⟨ps, rfl, _⟩ <;> exact True.intro
theorem d_put {kvs' : List (D × D)} {Q : Unit → Shared → Prop} (hu : A.units + 65 < cLine) (I : Inv X pins σ H s) (fh : Same F H) (ha : H a = some u) (dr : DR (kxOf X) F a u kvs) (hk : Dp (kxOf X) F yv k) (ry : RelV yv y) (hv : Dp (kxOf X) F vv d) (rv : RelV vv w) (e : dPut kvs k d = some kvs')
    (h : ∀ u' s', Inv X pins σ (upd H a u') s' → DR (kxOf X) F a u' kvs' → Q () s') : wpAny (model X.prog X.w) A (setItem (.ref a) y w) Q E s := by
  unfold dPut at e
  split at e
  · rename_i hc
    cases e
    obtain ⟨hc, hl⟩ := hc
    have hl2 := dStore_len kvs k d
    simp only [Bool.or_eq_true, Bool.and_eq_true] at hc
    rcases hc with ⟨h1, h2⟩ | ⟨h1, h2⟩
    · obtain ⟨vs, m⟩ := dr_mix I (.inl ha) dr h2
      obtain ⟨q, rfl, rq⟩ := key_mix h1 hk ry
      refine wpAny_setItem_pairs (hsz := m.len) (kV_is rq) m.at_ fun h' dd' hs => ?_
      have he : ∃ q, h'.get? a = some q := let ⟨q, _, _, hq, _⟩ := dd'; ⟨q, hq⟩
      have r2 := store_rel (fun _ _ => keyN_inj) m.rel (keyOf_keyD q) rv hv
      have h3 := dStore_all (P := atomK) (k := keyD q) (v := d) h2 h1
      obtain ⟨ps, p1, p2, p3⟩ := unpair_mix r2 h3
      have lp : ps.length ≤ sizeLine := by
        have := congrArg List.length p2
        simp only [List.length_map] at this
        omega
      exact h (.dK ps) _ (d_write I (dr_mut ha dr) hs he (dk_new lp m.sm p1 dd')) (.inr ⟨ps, rfl, p2, lp, p3⟩)
    · obtain ⟨xs, sm, lx, hm, r⟩ := dr_nestX I fh (.inl ha) dr h2
      obtain ⟨ds, q, rfl, eq, hq8⟩ := tupK_key h1
      obtain ⟨b, q', rfl, eq', hq⟩ := key_nest I fh h1 hk ry
      obtain rfl : q = q' := Option.some.inj (eq.symm.trans eq')
      have hb : yv = .ref b := by
        cases hk with
        | tup hs _ => cases ry; rfl
      subst hb
      refine wpAny_setItem_heap (hsz := lx) (room_nested hu) hq hm fun h' dd' hs => ?_
      have he : ∃ q, h'.get? a = some q := let ⟨q, _, _, hq, _⟩ := dd'; ⟨q, hq⟩
      have r2 := storeN_rel r eq hq8 hk rv hv
      obtain ⟨rows, p1, p2, p3, p4, p5⟩ := unpair_nest r2
      have lp : rows.length ≤ sizeLine := by
        have := DpAll_len p5
        simp only [List.length_map] at this
        omega
      exact h (dtO (kxOf X) a rows) _ (d_write I (dr_mut ha dr) hs he (dtO_ok rfl rfl sm dd' p1)) (.inl ⟨rows, rfl, lp, p2, p3, p4, p5⟩)
  · cases e
end
end Xm
set_option Elab.async false
set_option linter.all false
set_option maxRecDepth 100000
set_option maxHeartbeats 2000000
namespace Xm
open PySem PySem.Spec PyProof.Rows L2
def dcC (st : AS) (i : Nat) : Option (List (D × D)) := match st[i]? with
  | some (.dct kvs) => some kvs
  | some (.pdc kvs) => some kvs
  | _ => none
def putC (st : AS) (i : Nat) (kvs : List (D × D)) : AS := match st[i]? with
  | some (.pdc _) => st.set i (.pdc kvs)
  | _ => st.set i (.dct kvs)
theorem dcC_eq {st : AS} {i : Nat} {kvs : List (D × D)} (h : dcC st i = some kvs) : (st[i]? = some (.dct kvs) ∧ ∀ ls, putC st i ls = st.set i (.dct ls)) ∨ (st[i]? = some (.pdc kvs) ∧ ∀ ls, putC st i ls = st.set i (.pdc ls)) := by
  unfold dcC at h
  unfold putC
  split at h
  · rename_i e
    cases h
    exact .inl ⟨e, fun ls => by rw [e]⟩
  · rename_i e
    cases h
    exact .inr ⟨e, fun ls => by rw [e]⟩
  · cases h
section
variable {K : Kx} {C : Ct} {F F' H H' : Hp} {st : AS} {σ : L2.St} {i : Nat} {kvs : List (D × D)} {a : Addr}
theorem dcC_lt (h : dcC st i = some kvs) : i < st.length := by
  rcases dcC_eq h with ⟨e, _⟩ | ⟨e, _⟩ <;> exact (List.getElem?_eq_some_iff.mp e).1
theorem dcC_mu (h : dcC st i = some kvs) : Mu st i := by
  rcases dcC_eq h with ⟨e, _⟩ | ⟨e, _⟩ <;> exact ⟨_, e, rfl⟩
theorem putC_len (ls : List (D × D)) : (putC st i ls).length = st.length := by
  unfold putC
  split <;> rw [List.length_set]
theorem putC_ne (ls : List (D × D)) {j : Nat} (e : j ≠ i) : (putC st i ls)[j]? = st[j]? := by
  unfold putC
  split <;> rw [List.getElem?_set_ne (Ne.symm e)]
theorem putC_mu (h : dcC st i = some kvs) (ls : List (D × D)) {j : Nat} (m : Mu (putC st i ls) j) : Mu st j := by
  by_cases e : j = i
  · subst e; exact dcC_mu h
  · unfold Mu at m ⊢
    rw [putC_ne ls e] at m
    exact m
theorem Rel.dct (R : Rel K C F st σ H) (h : dcC st i = some kvs) : ∃ a u, σ[i]? = some (some (.ref a)) ∧ (C.H0 a = none ∨ C.pen = some a) ∧ F a = none ∧ H a = some u ∧ DR K F a u kvs := by
  rcases dcC_eq h with ⟨e, _⟩ | ⟨e, _⟩
  · obtain ⟨a, h1, h2, h3, u, h4, h5⟩ := R.slot i _ e
    exact ⟨a, u, h1, .inl h2, h3, h4, h5⟩
  · obtain ⟨a, h1, h2, h3, u, h4, h5⟩ := R.slot i _ e
    exact ⟨a, u, h1, .inr h2, h3, h4, h5⟩
theorem mu_set_no {i j : Nat} (h : Mu (st.set i .no) j) : Mu st j ∧ j ≠ i := by
  obtain ⟨s, h, hm⟩ := h
  by_cases e : j = i
  · subst e
    by_cases hi : j < st.length
    · rw [List.getElem?_set_self hi] at h
      cases h
      cases hm
    · rw [List.getElem?_eq_none_iff.mpr (by rw [List.length_set]; omega)] at h
      cases h
  · rw [List.getElem?_set_ne (Ne.symm e)] at h
    exact ⟨⟨s, h, hm⟩, e⟩
theorem Rel.putD {u' : HO} {kvs' : List (D × D)} (R : Rel K C F st σ H) (h : dcC st i = some kvs) (ha : σ[i]? = some (some (.ref a))) (hd : DR K F a u' kvs') : Rel K C F (putC st i kvs') σ (upd H a u') := by
  obtain ⟨b, u, h1, h2, h3, h4, h5⟩ := R.dct h
  rw [ha] at h1
  cases h1
  have hi := dcC_lt h
  refine ⟨(putC_len _).trans R.len, R.f0, fun b o e => ?_, fun b o e hp => ?_, R.new, fun j s e => ?_, fun j k b hj hk e1 e2 => R.apart j k b (putC_mu h _ hj) (putC_mu h _ hk) e1 e2, R.penh, fun p hp => ?_⟩
  · have hb : b ≠ a := fun z => by subst z; rw [h3] at e; cases e
    rw [upd_ne hb]; exact R.fh b o e
  · have hb : b ≠ a := fun z => by
      subst z
      rcases h2 with q | q
      · rw [q] at e; cases e
      · exact hp q
    rw [upd_ne hb]; exact R.old b o e hp
  · by_cases ej : j = i
    · subst ej
      rcases dcC_eq h with ⟨g, q⟩ | ⟨g, q⟩
      · rw [q, List.getElem?_set_self hi] at e
        cases e
        obtain ⟨c, k1, k2, k3⟩ := R.slot j _ g
        rw [ha] at k1
        cases k1
        exact ⟨a, ha, k2, h3, u', upd_same, hd⟩
      · rw [q, List.getElem?_set_self hi] at e
        cases e
        obtain ⟨c, k1, k2, k3⟩ := R.slot j _ g
        rw [ha] at k1
        cases k1
        exact ⟨a, ha, k2, h3, u', upd_same, hd⟩
    · rw [putC_ne _ ej] at e
      have q := R.slot j s e
      have ne : ∀ b, σ[j]? = some (some (.ref b)) → Mu st j → b ≠ a := fun b q1 m z => by
        subst z
        exact ej (R.apart j i b m (dcC_mu h) q1 ha)
      cases s with
      | no => trivial
      | dat d => exact q
      | own zs =>
        obtain ⟨b, q1, q2, q3, ws, q4, q5⟩ := q
        exact ⟨b, q1, q2, q3, ws, by rw [upd_ne (ne b q1 ⟨_, e, rfl⟩)]; exact q4, q5⟩
      | pen zs =>
        obtain ⟨b, q1, q2, q3, ws, q4, q5⟩ := q
        exact ⟨b, q1, q2, q3, ws, by rw [upd_ne (ne b q1 ⟨_, e, rfl⟩)]; exact q4, q5⟩
      | dct zs =>
        obtain ⟨b, q1, q2, q3, ws, q4, q5⟩ := q
        exact ⟨b, q1, q2, q3, ws, by rw [upd_ne (ne b q1 ⟨_, e, rfl⟩)]; exact q4, q5⟩
      | pdc zs =>
        obtain ⟨b, q1, q2, q3, ws, q4, q5⟩ := q
        exact ⟨b, q1, q2, q3, ws, by rw [upd_ne (ne b q1 ⟨_, e, rfl⟩)]; exact q4, q5⟩
      | obj o => exact q
  · by_cases e : p = a
    · subst e; rw [upd_same]; simp
    · rw [upd_ne e]; exact R.pent p hp
theorem Rel.takeD (R : Rel K C F st σ H) (h : st[i]? = some (.dct kvs)) (ha : σ[i]? = some (some (.ref a))) : Rel K C F (st.set i .no) σ H ∧ Aside C F (st.set i .no) σ a := by
  obtain ⟨b, h1, h2, h3, u, h4, h5⟩ := R.slot i _ h
  rw [ha] at h1
  cases h1
  have hi : i < st.length := (List.getElem?_eq_some_iff.mp h).1
  refine ⟨rel_mono_slots R (List.length_set ..) fun j s e => ?_, h2, h3, fun z => ?_, fun j hj e => ?_⟩
  · by_cases ej : j = i
    · subst ej
      rw [List.getElem?_set_self hi] at e
      cases e
      exact .inl rfl
    · rw [List.getElem?_set_ne (Ne.symm ej)] at e
      exact .inr e
  · exact R.penh a z h2
  · obtain ⟨m, n⟩ := mu_set_no hj
    exact n (R.apart j i a m ⟨_, h, rfl⟩ e ha)
theorem Rel.backD (R : Rel K C F (st.set i .no) σ H) (A : Aside C F (st.set i .no) σ a) (hi : i < st.length) (ha : σ[i]? = some (some (.ref a))) (hd : Dct K F H a kvs) : Rel K C F (st.set i (.dct kvs)) σ H := by
  have get_ne : ∀ (s : Slot) (j : Nat), j ≠ i → (st.set i s)[j]? = st[j]? := fun s j e => List.getElem?_set_ne (Ne.symm e)
  have back : ∀ j, j ≠ i → Mu (st.set i (.dct kvs)) j → Mu (st.set i .no) j := fun j e h => by
    unfold Mu at h ⊢
    rw [get_ne _ j e] at h
    rw [get_ne _ j e]
    exact h
  refine ⟨by rw [List.length_set]; have := R.len; rwa [List.length_set] at this, R.f0, R.fh, R.old, R.new, fun j s hj => ?_, fun j k b hj hk e1 e2 => ?_, R.penh, R.pent⟩
  · by_cases e : j = i
    · subst e
      rw [List.getElem?_set_self hi] at hj
      cases hj
      exact ⟨a, ha, A.h0, hd⟩
    · refine R.slot j s ?_
      rw [get_ne _ j e] at hj
      rw [get_ne _ j e]
      exact hj
  · by_cases ej : j = i
    · by_cases ek : k = i
      · rw [ej, ek]
      · subst ej
        rw [ha] at e1
        cases e1
        exact absurd e2 (A.ap k (back k ek hk))
    · by_cases ek : k = i
      · subst ek
        rw [ha] at e2
        cases e2
        exact absurd e1 (A.ap j (back j ej hj))
      · exact R.apart j k b (back j ej hj) (back k ek hk) e1 e2
theorem Rel.freezeD (R : Rel K C F st σ H) (h : st[i]? = some (.dct kvs)) : ∃ a u, σ[i]? = some (some (.ref a)) ∧ H a = some u ∧ Mut (some u) ∧ ∀ od, ∃ F', Same F F' ∧ Rel K C F' (st.set i (.dat (.dict kvs))) σ (upd H a (.frz od u)) ∧ Dp K F' (.ref a) (.dict kvs) := by
  obtain ⟨a, h1, h2, h3, u, h4, h5⟩ := R.slot i _ h
  have mu := dr_mut h4 h5
  rw [h4] at mu
  refine ⟨a, u, h1, h4, mu, fun od => ?_⟩
  obtain ⟨R1, A⟩ := R.takeD h h1
  obtain ⟨ff, R2⟩ := (R1.write (o := .frz od u) A).freezeO A.h0 A.f upd_same A.ap
  have hi : i < st.length := (List.getElem?_eq_some_iff.mp h).1
  have hdp := h5.dp ff (upd_same (H := F) (a := a) (o := .frz od u))
  refine ⟨_, ff, ?_, hdp⟩
  have get_ne : ∀ (s : Slot) (j : Nat), j ≠ i → (st.set i s)[j]? = st[j]? := fun s j e => List.getElem?_set_ne (Ne.symm e)
  have back : ∀ j, Mu (st.set i (.dat (.dict kvs))) j → Mu (st.set i .no) j := fun j hj => by
    obtain ⟨m, n⟩ := mu_set_dat hj
    unfold Mu at m ⊢
    rw [get_ne _ j n]
    exact m
  refine ⟨by rw [List.length_set]; have := R2.len; rwa [List.length_set] at this, R2.f0, R2.fh, R2.old, R2.new, fun j s hj => ?_, fun j k b hj hk e1 e2 => R2.apart j k b (back j hj) (back k hk) e1 e2, R2.penh, R2.pent⟩
  by_cases e : j = i
  · subst e
    rw [List.getElem?_set_self hi] at hj
    cases hj
    exact ⟨_, h1, hdp⟩
  · refine R2.slot j s ?_
    rw [get_ne _ j e] at hj
    rw [get_ne _ j e]
    exact hj
end
def dcV (st : AS) (i : Nat) : Option (List (D × D)) := match st[i]? with
  | some (.dct kvs) => some kvs
  | some (.pdc kvs) => some kvs
  | some (.dat (.dict kvs)) => some kvs
  | _ => none
theorem Rel.dcv {K : Kx} {C : Ct} {F H : Hp} {st : AS} {σ : L2.St} {i : Nat} {kvs : List (D × D)} (R : Rel K C F st σ H) (h : dcV st i = some kvs) : ∃ v, σ[i]? = some (some v) ∧ RDict K F H v kvs := by
  unfold dcV at h
  split at h
  · rename_i ks e
    cases h
    obtain ⟨a, h1, h2, h3, u, h4, h5⟩ := R.slot i _ e
    exact ⟨.ref a, h1, a, u, rfl, .inl h4, h5, R.fh⟩
  · rename_i ks e
    cases h
    obtain ⟨a, h1, h2, h3, u, h4, h5⟩ := R.slot i _ e
    exact ⟨.ref a, h1, a, u, rfl, .inl h4, h5, R.fh⟩
  · rename_i ks e
    cases h
    obtain ⟨v, h1, h2⟩ := R.slot i _ e
    exact ⟨v, h1, rdict_of h2 R.fh⟩
  · cases h
def frz (i : Nat) : EF := fun st => match st[i]? with
  | some (.dct kvs) => some (.dict kvs, st.set i (.dat (.dict kvs)))
  | some (.dat (.dict kvs)) => some (.dict kvs, st)
  | _ => none
def putD (i : Nat) (f g : EF) : SF := fun st => (dcC st i).bind fun _ => (f st).bind fun a => (dcC a.2 i).bind fun _ => (g a.2).bind fun b => (dcC b.2 i).bind fun kvs => (dPut kvs b.1 a.1).map fun r => (.nx, putC b.2 i r)
def ixD (i : Nat) (g : EF) : EF := fun st => (dcV st i).bind fun _ => (g st).bind fun b => (dcV b.2 i).bind fun kvs => (dGet kvs b.1).bind fun o => o.map fun z => (z, b.2)
def rSetD (X : Cx) : V → V → V → Hp → (Hp → Prop) → Prop := fun o i v H Q => ∃ a F u kvs k d kvs', o = .ref a ∧ H a = some u ∧ DR (kxOf X) F a u kvs ∧ Same F H ∧ Dp (kxOf X) F i k ∧ Dp (kxOf X) F v d ∧ dPut kvs k d = some kvs' ∧ ∀ u', DR (kxOf X) F a u' kvs' → Q (upd H a u')
section
variable {X : Cx} {C : Ct} {pos spos : Pos} {o ix e : Expr} {f g : EF} {i : Nat}
theorem xd_frz (h : PE X e (tVar i)) : PE X e (dOf (kxOf X) C (frz i)) := pe_wk (pe_lockv h) fun σ H Q q => by
  obtain ⟨F, st, r, R, e, k⟩ := q
  unfold frz at e
  split at e
  · rename_i kvs e0
    cases e
    obtain ⟨a, u, h1, h2, mu, h3⟩ := R.freezeD e0
    refine ⟨.ref a, h1, .inr ⟨a, u, rfl, h2, mu, fun od => ?_⟩⟩
    obtain ⟨F', s1, R1, d1⟩ := h3 od
    exact k _ _ F' s1 R1 d1
  · rename_i kvs e0
    cases e
    obtain ⟨v, h1, d1⟩ := R.slot i _ e0
    exact ⟨v, h1, .inl (k v H F (Same.refl _) R d1)⟩
  · cases e
theorem set_dict (hu : X.A.units + 65 < cLine) : PSet X (rSetD X) := by
  intro pins s σ H o i v ov iv u Q I ro ri rv h
  obtain ⟨a, F, ob, kvs, k, d, kvs', rfl, ha, dr, fh, hk, hd, e, q⟩ := h
  cases ro
  exact Xm.d_put hu I fh ha dr hk ri hd rv e fun u' s' I' dr' => ⟨_, I', q u' dr'⟩
theorem xs_putD (hu : X.A.units + 65 < cLine) (ho : PE X o (tVar i)) (hx : PE X ix (dOf (kxOf X) C g)) (he : PE X e (dOf (kxOf X) C f))
    (ha : ∀ v, assign (.Subscript o ix spos) X.env v = (do
      let ov ← holding [v] (eval o X.env)
      let iv ← holding [v, ov] (eval ix X.env)
      standAt spos
      holding [v, ov, iv] (setItem ov iv v)
      release [v, ov, iv] []) := by intro _; rfl)
    (hs : swapsWithSole [.Subscript o ix spos] e pos.line X.env = pure false := by rfl) (hw : swappedStores [.Subscript o ix spos] e X.env = pure none := by rfl)
    (h1 : (assignEach [.Subscript o ix spos] X.env).map (·.2) = [assign (.Subscript o ix spos) X.env] := by rfl) : PS X (.Assign [.Subscript o ix spos] e pos) (sOf (kxOf X) C (putD i f g)) :=
  ps_wk (ps_asg he (pg_sub ho hx (set_dict hu) ha) hs hw h1) fun Z σ H q => by
    obtain ⟨F, st, w, R, e, q⟩ := q
    obtain ⟨x0, e0, e⟩ := Option.bind_eq_some_iff.mp e
    obtain ⟨a, ea, e⟩ := Option.bind_eq_some_iff.mp e
    obtain ⟨y0, e1, e⟩ := Option.bind_eq_some_iff.mp e
    obtain ⟨b, eb, e⟩ := Option.bind_eq_some_iff.mp e
    obtain ⟨kvs, ex, e⟩ := Option.bind_eq_some_iff.mp e
    obtain ⟨r, er, e⟩ := Option.map_eq_some_iff.mp e
    cases e
    refine ⟨F, st, a, R, ea, fun v H1 F1 s1 R1 d1 => ?_⟩
    obtain ⟨p, u1, h1, _⟩ := R1.dct e1
    refine ⟨.ref p, h1, F1, a.2, b, R1, eb, fun u H2 F2 s2 R2 d2 => ?_⟩
    obtain ⟨p', u2, h1', h2, h3, h4, h5⟩ := R2.dct ex
    rw [h1] at h1'
    cases h1'
    exact ⟨p, F2, u2, kvs, _, _, r, rfl, h4, h5, R2.fh, d2, Dp_up d1 s2, er, fun u' dr' => q σ _ F2 (s1.trans s2) (R2.putD ex h1 dr')⟩
theorem xd_ixD (hu : X.A.units + 65 < cLine) (ha : PE X o (tVar i)) (hb : PE X ix (dOf (kxOf X) C g)) (hs : PlainIx ix := by exact fun _ _ => rfl) : PE X (.Subscript o ix pos) (dOf (kxOf X) C (ixD i g)) :=
  pe_wk (pe_ix (ix_dict hu) ha hb hs) fun σ H Q q => by
    obtain ⟨F, st, w, R, e, q⟩ := q
    obtain ⟨x0, e0, e⟩ := Option.bind_eq_some_iff.mp e
    obtain ⟨b, eb, e⟩ := Option.bind_eq_some_iff.mp e
    obtain ⟨kvs, ex, e⟩ := Option.bind_eq_some_iff.mp e
    obtain ⟨oo, eo, e⟩ := Option.bind_eq_some_iff.mp e
    obtain ⟨z, ez, e⟩ := Option.map_eq_some_iff.mp e
    cases e
    cases ez
    obtain ⟨p, h1, _⟩ := R.dcv e0
    refine ⟨p, h1, F, st, b, R, eb, fun y H1 F1 s1 R1 d1 => ?_⟩
    obtain ⟨p', h1', rd⟩ := R1.dcv ex
    rw [h1] at h1'
    cases h1'
    exact ⟨F1, kvs, _, z, rd, d1, eo, fun v dv => q v H1 F1 s1 R1 dv⟩
end
def tGet2 (K : Kx) (td ty tx : TE) : TE := fun σ H Q => td σ H fun x H1 => (∃ F kvs, RDict K F H1 x kvs) ∧ ty σ H1 fun y H2 => tx σ H2 fun z H3 => ∃ F kvs k d o, RDict K F H3 x kvs ∧ Dp K F y k ∧ Dp K F z d ∧ dGet kvs k = some o ∧ ∀ v, Dp K F v (o.getD d) → Q v H3
def getD1 (i : Nat) (g : EF) : EF := fun st => (dcV st i).bind fun _ => (g st).bind fun b => (dcV b.2 i).bind fun kvs => (dGet kvs b.1).map fun o => (o.getD .none, b.2)
def getD2 (i : Nat) (g h : EF) : EF := fun st => (dcV st i).bind fun _ => (g st).bind fun b => (h b.2).bind fun c => (dcV c.2 i).bind fun kvs => (dGet kvs b.1).map fun o => (o.getD c.1, c.2)
section
variable {X : Cx} {C : Ct} {o e f : Expr} {apos cpos : Pos} {td ty tx : TE} {g h k : EF} {i : Nat}
theorem pe_get2 (hu : X.A.units + 65 < cLine) (ho : PE X o td) (he : PE X e ty) (hf : PE X f tx) (m : M2 X o "get" apos e f cpos) : PE X (.Call (.Attribute o "get" apos) [e, f] [] cpos) (tGet2 (kxOf X) td ty tx) := by
  refine ⟨fun pins s σ H Q I h => ?_⟩
  refine wpAny_Call_method m.base m.few m.line PySem.F.plainAttrs_dict PySem.F.slot_dict_get PySem.F.type_dict_get (thn (ho.run pins s σ H _ I h) fun u s1 ⟨x, H1, I1, rx, ⟨F, kvs, a, ob, ex, ha, dr, fh⟩, q1⟩ => ?_)
  subst ex
  obtain rfl : u = Value.ref a := rx
  obtain ⟨t1, t2, _⟩ := dr_obj I1 ha dr
  refine ⟨t1, fun b q => by cases q; exact t2, ?_⟩
  rw [m.trees]
  refine Calls.callWith_builtin rfl (Calls.evalArgs_plain (Calls.spliced_cons (thn (he.run pins s1 σ H1 _ I1 q1) fun iv s2 ⟨y, H2, I2, ry, q2⟩ =>
    Calls.spliced_cons (thn (hf.run pins s2 σ H2 _ I2 q2) fun fv s3 ⟨z, H3, I3, rz, F3, kvs3, k, d, o, ⟨a2, ob2, e2, ha2, dr2, fh2⟩, hk, hz, eg, q3⟩ => Calls.spliced_nil ?_))))
  cases e2
  exact Xm.d_get2 hu I3 fh2 ha2 dr2 hk ry hz rz eg fun v w s' I' rv dv => ⟨v, H3, I', rv, q3 v dv⟩
theorem xd_getD2 (hu : X.A.units + 65 < cLine) (ho : PE X o (tVar i)) (he : PE X e (dOf (kxOf X) C g)) (hf : PE X f (dOf (kxOf X) C h)) (m : M2 X o "get" apos e f cpos) : PE X (.Call (.Attribute o "get" apos) [e, f] [] cpos) (dOf (kxOf X) C (getD2 i g h)) :=
  pe_wk (pe_get2 hu ho he hf m) fun σ H Q q => by
    obtain ⟨F, st, w, R, e, q⟩ := q
    obtain ⟨x0, e0, e⟩ := Option.bind_eq_some_iff.mp e
    obtain ⟨b, eb, e⟩ := Option.bind_eq_some_iff.mp e
    obtain ⟨c, ec, e⟩ := Option.bind_eq_some_iff.mp e
    obtain ⟨kvs, ex, e⟩ := Option.bind_eq_some_iff.mp e
    obtain ⟨oo, eo, e⟩ := Option.map_eq_some_iff.mp e
    cases e
    obtain ⟨p, h1, rd0⟩ := R.dcv e0
    refine ⟨p, h1, ⟨F, x0, rd0⟩, F, st, b, R, eb, fun y H1 F1 s1 R1 d1 => ?_⟩
    refine ⟨F1, b.2, c, R1, ec, fun z H2 F2 s2 R2 d2 => ?_⟩
    obtain ⟨p', h1', rd⟩ := R2.dcv ex
    rw [h1] at h1'
    cases h1'
    exact ⟨F2, kvs, _, _, oo, rd, Dp_up d1 s2, d2, eo, fun v dv => q v H2 F2 (s1.trans s2) R2 dv⟩
end
abbrev MF := AS → Option (List (D × D) × AS)
def mOf (K : Kx) (C : Ct) (f : MF) : TE := fun σ H Q => ∃ F st r, Rel K C F st σ H ∧ f st = some r ∧ ∀ (a : Addr) (u : HO) H' F', Same F F' → Rel K C F' r.2 σ H' → C.H0 a = none → F' a = none → H' a = some u → DR K F' a u r.1 →
  (∀ j, Mu r.2 j → σ[j]? ≠ some (some (.ref a))) → Q (.ref a) H'
def empM : MF := fun st => some ([], st)
def dicE (f : MF) : EF := fun st => (f st).map fun a => (.dict a.1, a.2)
def noPen (st : AS) (i : Nat) : Bool := match st[i]? with
  | some (.pen _) => false
  | some _ => true
  | none => false
def asgM (i : Nat) (f : MF) : SF := fun st => (f st).bind fun a => if noPen a.2 i = true then some (.nx, a.2.set i (.dct a.1)) else none
theorem Rel.newD {K : Kx} {C : Ct} {F H : Hp} {st : AS} {σ : L2.St} {i : Nat} {kvs : List (D × D)} {a : Addr} (R : Rel K C F st σ H) (hi : noPen st i = true) (h0 : C.H0 a = none) (hd : Dct K F H a kvs) (hap : ∀ j, Mu st j → σ[j]? ≠ some (some (.ref a))) :
    Rel K C F (st.set i (.dct kvs)) (σ.set i (some (.ref a))) H := by
  have hil : i < st.length := by
    unfold noPen at hi
    cases e : st[i]? with
    | none => rw [e] at hi; cases hi
    | some s => exact (List.getElem?_eq_some_iff.mp e).1
  have hiσ : i < σ.length := by rw [← R.len]; exact hil
  have R1 : Rel K C F (st.set i .no) σ H := rel_mono_slots R (List.length_set ..) fun j s e => by
    by_cases ej : j = i
    · subst ej
      rw [List.getElem?_set_self hil] at e
      cases e
      exact .inl rfl
    · rw [List.getElem?_set_ne (Ne.symm ej)] at e
      exact .inr e
  have R2 : Rel K C F (st.set i .no) (σ.set i (some (.ref a))) H := R1.slots (List.length_set ..) fun j hj => by
    have : j ≠ i := fun z => by
      subst z
      exact hj (List.getElem?_set_self hil)
    rw [List.getElem?_set_ne (Ne.symm this)]
  have A : Aside C F (st.set i .no) (σ.set i (some (.ref a))) a := ⟨h0, hd.1, fun z => R.penh a z h0, fun j hj e => by
    obtain ⟨m, n⟩ := mu_set_no hj
    rw [List.getElem?_set_ne (Ne.symm n)] at e
    exact hap j m e⟩
  exact R2.backD A hil (List.getElem?_set_self hiσ) hd
section
variable {X : Cx} {C : Ct} {pos : Pos} {o e f : Expr} {apos cpos : Pos} {g h k : EF} {m : MF} {i : Nat}
theorem xm_emp : PE X (.Dict [] [] pos) (mOf (kxOf X) C empM) := pe_wk pe_dnewK fun σ H Q q => by
  obtain ⟨F, st, r, R, e, q⟩ := q
  cases e
  intro p hp
  obtain ⟨A, _⟩ := R.aside hp
  exact q p (.dK []) _ F (Same.refl _) (R.write A) A.h0 A.f upd_same (.inr ⟨[], rfl, rfl, Nat.zero_le _, .nil⟩) A.ap
theorem xs_setDct {i : Nat} {x : Str} {pos' : Pos} (hN : X.N.Nodup) (he : PE X e (mOf (kxOf X) C m)) (hi : X.N[i]? = some x) (hx : Loc X.env.scope x) (hs : swapsWith e (some (.Name x pos')) pos.line X.env = pure false := by rfl) (hf : X.fn x = true ∨ X.env.scope.names.lookup x = some .local := by first | exact .inl rfl | exact .inr rfl | assumption) :
    PS X (.Assign [.Name x pos'] e pos) (sOf (kxOf X) C (asgM i m)) := ps_wk (ps_set hN hi hx he hs hf) fun Z σ H q => by
  obtain ⟨F, st, w, R, e, q⟩ := q
  obtain ⟨a, ea, e⟩ := Option.bind_eq_some_iff.mp e
  split at e
  · rename_i hn
    cases e
    exact ⟨F, st, a, R, ea, fun p u H1 F1 s1 R1 h0 h1 h2 h3 h4 => q _ H1 F1 s1 (R1.newD hn h0 ⟨h1, u, h2, h3⟩ h4)⟩
  · cases e
end
section
variable {X : Cx} {C : Ct} {pos : Pos} {o e f : Expr} {apos cpos : Pos} {g h k : EF} {i : Nat}
end
section
variable {st : AS} {f g h k : EF} {m : MF} {i : Nat} {kvs : List (D × D)} {QD : D → AS → Prop} {QS : Fl → AS → Prop} {QM : List (D × D) → AS → Prop}
theorem wp_frz (e : st[i]? = some (.dct kvs)) (q : QD (.dict kvs) (st.set i (.dat (.dict kvs)))) : Wp (frz i) st QD := ⟨_, _, by unfold frz; rw [e], q⟩
theorem wp_frz2 (e : st[i]? = some (.dat (.dict kvs))) (q : QD (.dict kvs) st) : Wp (frz i) st QD := ⟨_, _, by unfold frz; rw [e], q⟩
theorem wp_putD (e : dcC st i = some kvs) (w : Wp f st fun v s1 => ∃ ks, dcC s1 i = some ks ∧ Wp g s1 fun b s2 => ∃ ls, dcC s2 i = some ls ∧ ∃ r, dPut ls b v = some r ∧ QS .nx (putC s2 i r)) : Wp (putD i f g) st QS := by
  obtain ⟨v, s1, e1, ks, e2, b, s2, e3, ls, e4, r, e5, q⟩ := w
  exact ⟨_, _, by unfold putD; simp only [e, e1, e2, e3, e4, e5, Option.bind_some, Option.map_some], q⟩
theorem wp_ixD (e : dcV st i = some kvs) (w : Wp g st fun b s1 => ∃ ks, dcV s1 i = some ks ∧ ∃ z, dGet ks b = some (some z) ∧ QD z s1) : Wp (ixD i g) st QD := by
  obtain ⟨b, s1, e1, ks, e2, z, e3, q⟩ := w
  exact ⟨_, _, by unfold ixD; simp only [e, e1, e2, e3, Option.bind_some, Option.map_some], q⟩
theorem wp_getD1 (e : dcV st i = some kvs) (w : Wp g st fun b s1 => ∃ ks, dcV s1 i = some ks ∧ ∃ o, dGet ks b = some o ∧ QD (o.getD .none) s1) : Wp (getD1 i g) st QD := by
  obtain ⟨b, s1, e1, ks, e2, o, e3, q⟩ := w
  exact ⟨_, _, by unfold getD1; simp only [e, e1, e2, e3, Option.bind_some, Option.map_some], q⟩
theorem wp_getD2 (e : dcV st i = some kvs) (w : Wp g st fun b s1 => Wp h s1 fun c s2 => ∃ ks, dcV s2 i = some ks ∧ ∃ o, dGet ks b = some o ∧ QD (o.getD c) s2) : Wp (getD2 i g h) st QD := by
  obtain ⟨b, s1, e1, c, s2, e2, ks, e3, o, e4, q⟩ := w
  exact ⟨_, _, by unfold getD2; simp only [e, e1, e2, e3, e4, Option.bind_some, Option.map_some], q⟩
theorem wp_dicE (w : Wp m st fun ks s1 => QD (.dict ks) s1) : Wp (dicE m) st QD := by
  obtain ⟨ks, s1, e, q⟩ := w
  exact ⟨_, _, by unfold dicE; rw [e]; rfl, q⟩
theorem wp_asgM (w : Wp m st fun ks s1 => noPen s1 i = true ∧ QS .nx (s1.set i (.dct ks))) : Wp (asgM i m) st QS := by
  obtain ⟨ks, s1, e, n, q⟩ := w
  exact ⟨_, _, by unfold asgM; simp only [e, Option.bind_some]; rw [if_pos n], q⟩
end
section
variable {X : Cx} {C : Ct} {pos : Pos} {o e : Expr} {g : EF} {i : Nat}
end
end Xm
set_option Elab.async false
set_option linter.all false
set_option maxRecDepth 100000
set_option maxHeartbeats 2000000
namespace Xm
open PySem PySem.Spec PyProof.Rows L2
section
variable {X : Cx} {pins : List (Addr × Obj)} {σ : L2.St} {H F : Hp} {s : Shared} {a : Addr} {u : HO} {kvs : List (D × D)}
theorem key_rel {k : Key} {v : Value} (h : keyIs k v = true) : RelV (kV k) v := by
  rcases keyIs_shape h with ⟨i, t, rfl, rfl⟩ | ⟨x, t, rfl, rfl⟩
  · exact ⟨t, rfl⟩
  · exact ⟨t, rfl⟩
theorem pairs_vals {P : Program} {w : World} {es : List DictEntry} {vs : List (Key × Value)} {ps : List (Key × V)} (r : Pairs (mixKind P w) es vs) (k : KV ps vs) : Vals (ps.map fun p => kV p.1) (es.map (·.key)) ∧ Vals (ps.map (·.2)) (es.map (·.val)) := by
  induction r generalizing ps with
  | nil => cases k; exact ⟨.nil, .nil⟩
  | @cons e kv es kvs h h2 t ih =>
    cases k with
    | @cons p _ l _ k1 k2 =>
      obtain ⟨i1, i2⟩ := ih k2
      have r1 : RelV (kV p.1) e.key := by rw [k1.1]; exact key_rel h
      have r2 : RelV p.2 e.val := by rw [h2]; exact k1.2
      exact ⟨.cons r1 i1, .cons r2 i2⟩
theorem rows_vals {knd : HeapKind X.prog X.w NestedKey} {rows : List Row} {xs : List (NestedKey × Addr × Value)} (r : Paired (fun (r : Row) (x : NestedKey × Addr × Value) => r.1 = x.1 ∧ r.2.1 = x.2.1 ∧ RelV r.2.2 x.2.2) rows xs) :
    Vals (rows.map fun r => V.ref r.2.1) ((xs.map (entryOfKey knd)).map (·.key)) ∧ Vals (rows.map (·.2.2)) ((xs.map (entryOfKey knd)).map (·.val)) := by
  induction r with
  | nil => exact ⟨.nil, .nil⟩
  | @cons r x rs xs h t ih =>
    have r1 : RelV (V.ref r.2.1) (entryOfKey knd x).key := by rw [h.2.1]; rfl
    have r2 : RelV r.2.2 (entryOfKey knd x).val := h.2.2
    exact ⟨.cons r1 ih.1, .cons r2 ih.2⟩
theorem keys_dp {K : Kx} : ∀ ps : List (Key × V), DpAll K F (ps.map fun p => kV p.1) (ps.map fun p => keyD p.1)
  | [] => .nil
  | p :: ps => by
    refine .cons ?_ (keys_dp ps)
    obtain ⟨k, v⟩ := p
    cases k
    · exact .int _
    · exact .str _
theorem dr_raw (I : Inv X pins σ H s) (ha : Rd H a u) (dr : DR (kxOf X) F a u kvs) : ∃ (es : Array DictEntry) (ep : Nat) (ks vs : List V), s.heap.DictRaw a es ep ∧ (a == sysModules) = false ∧ es.size ≤ sizeLine ∧ Vals ks (es.toList.map (·.key)) ∧ Vals vs (es.toList.map (·.val)) ∧ DpAll (kxOf X) F vs (kvs.map (·.2)) ∧
    DpAll (kxOf X) F ks (kvs.map (·.1)) := by
  rcases dr with ⟨rows, rfl, h2, h3, h4, h5, h6⟩ | ⟨ps, rfl, h2, h3, h4⟩
  · obtain ⟨⟨sm, nd, o, es, ep, xs, ho, hx, hd, he, pr⟩, _⟩ := rd_ok I ha
    obtain ⟨r1, r2⟩ := rows_vals (X := X) (knd := nestedKind X.prog X.w) pr
    refine ⟨es, ep, _, _, ⟨o, ho, hx, hd⟩, sm, ?_, by rw [he]; exact r1, by rw [he]; exact r2, h6, h5⟩
    have := pr.length
    rw [← Array.length_toList, he, List.length_map]
    omega
  · obtain ⟨z, sm, vs, rel, o, es, ep, ho, hx, hd, _, pr, _⟩ := dk_rd I.hok ha
    obtain ⟨r1, r2⟩ := pairs_vals pr rel
    refine ⟨es, ep, _, _, ⟨o, ho, hx, hd⟩, sm, ?_, r1, r2, h4, ?_⟩
    · have := r2.length
      rw [List.length_map, List.length_map] at this
      rw [← Array.length_toList]
      omega
    · rw [h2]
      exact keys_dp ps
theorem vals_items {es : Array DictEntry} {ks : List V} {acc : Array Value} (r : Vals ks (es.toList.map (·.key))) (hl : acc.size = es.size) (hi : ∀ (j : Nat) (v : Value), acc[j]? = some v → ∃ h : j < es.size, v = es[j].key) : Vals ks acc.toList := by
  have : acc.toList = es.toList.map (·.key) := by
    apply List.ext_getElem?
    intro j
    rw [Array.getElem?_toList, List.getElem?_map, Array.getElem?_toList]
    by_cases hj : j < es.size
    · have hj2 : j < acc.size := by omega
      rw [Array.getElem?_eq_getElem hj, Array.getElem?_eq_getElem hj2]
      obtain ⟨_, e⟩ := hi j acc[j] (Array.getElem?_eq_getElem hj2)
      rw [e]; rfl
    · rw [Array.getElem?_eq_none (by omega), Array.getElem?_eq_none (by omega)]; rfl
  rw [this]; exact r
theorem call_listK (hcalm : X.calm = true) : CallR X (.type "list") (fun xs H Q => ∃ x F kvs, xs = [x] ∧ RDict (kxOf X) F H x kvs ∧ ∀ l ks, H l = none → DpAll (kxOf X) F ks (kvs.map (·.1)) → Q (.ref l) (upd H l (.lst ks))) := by
  intro pins s σ H xs us Q I r q
  obtain ⟨x, F, kvs, rfl, ⟨a, ob, rfl, ha, dr, fh⟩, q⟩ := q
  obtain ⟨u, rfl, rx⟩ := vals1 r
  cases rx
  obtain ⟨es, ep, ks, vs, hm, lo, hz, rk, rv, dv, dk⟩ := dr_raw I ha dr
  refine PySem.W.kdl_call (KdlSrc.rawDict (es := es) (ep := ep) lo) (I.ok.hd hcalm) hm hz fun h' tk acc c' hk hD hacc => ?_
  have hv : Vals ks acc.toList := vals_items rk hacc.1 fun j v e => hacc.2 j v e
  have hl : ks.length ≤ sizeLine := by
    have := rk.length
    rw [List.length_map] at this
    have h2 : es.toList.length = es.size := Array.length_toList
    omega
  refine ⟨.ref s.heap.objs.size, upd H s.heap.objs.size (.lst ks), I.laid (t' := tk) hk (Nat.le_refl _)
    (show ObjOk X.prog X.w _ _ _ (.lst ks) from ⟨hl, acc.toList, c', hv, by rw [Array.toArray_toList]; exact hD⟩), rfl, q _ _ (I.hok.fresh (Nat.le_refl _)) dk⟩
end
def kListD : D → Option D
  | .dict kvs => some (.list (kvs.map (·.1)))
  | _ => none
section
variable {X : Cx} {C : Ct} {pos p : Pos} {a b : Expr} {f g : EF}
theorem xd_listD (hcalm : X.calm = true) (hm : X.mg "list" = none) (ha : PE X a (dOf (kxOf X) C f)) (hg : Gl X "list" := by rfl) (he : starEach [a] X.env = (false, eval a X.env) :: starEach [] X.env := by rfl) : PE X (.Call (.Name "list" p) [a] [] pos) (dOf (kxOf X) C (un1 kListD f)) :=
  xd_t1 (call_listK hcalm) (fun F H x a z Q fh ha e q => by
    unfold kListD at e; split at e <;> cases e
    exact ⟨x, F, _, rfl, rdict_of ha fh, fun l ks hl dk => q _ _ _ (Gr.new fh hl) (.lst (.inl (.inl upd_same)) (DpAll_up dk (same_upd (fh.free hl))))⟩) hm (by decide +kernel) ha hg (he := he)
end
def tMinR (K : Kx) (td : TE) : TE := fun σ H Q => td σ H fun x H1 => ∃ F kvs is, RDict K F H1 x kvs ∧ kvs.map (·.2) = is.map PyData.int ∧ is ≠ [] ∧ ∀ m, m ∈ is → (∀ j ∈ is, m ≤ j) → Q (.int m) H1
theorem ints_at {K : Kx} {F : Hp} : ∀ {vs : List V} {us : List Value} {is : List Int}, Vals vs us → DpAll K F vs (is.map PyData.int) → us.length = is.length ∧ ∀ i (v : Value), us[i]? = some v → ∃ t, v = .int (is.getD i 0) t
  | _, _, [], r, h => by
    cases h
    cases r
    exact ⟨rfl, fun i v e => by simp at e⟩
  | _, _, j :: is, r, h => by
    cases h with
    | cons h1 h2 =>
      cases r with
      | cons r1 r2 =>
        obtain ⟨l, a⟩ := ints_at r2 h2
        refine ⟨by simp [l], fun i v e => ?_⟩
        cases i with
        | zero =>
          cases h1
          obtain ⟨t, rt⟩ := r1
          simp at e
          subst e
          exact ⟨t, by rw [rt]; rfl⟩
        | succ i =>
          obtain ⟨t, rt⟩ := a i v (by simpa using e)
          exact ⟨t, by rw [rt]; simp⟩
section
variable {X : Cx} {o : Expr} {p pos apos mpos : Pos} {td : TE}
theorem pe_minR (hc : X.calm = true) (hg : Gl X "min") (hm : X.mg "min" = none) (hd : PE X o td) (hbase : attributeBase o "values" X.env (eval o X.env) = eval o X.env := by rfl) (hline : (apos.endLine == mpos.line) = true := by rfl)
    (hse : starEach [Expr.Call (.Attribute o "values" apos) [] [] mpos] X.env = [(false, eval (Expr.Call (.Attribute o "values" apos) [] [] mpos) X.env)] := by rfl) :
    PE X (.Call (.Name "min" p) [.Call (.Attribute o "values" apos) [] [] mpos] [] pos) (tMinR (kxOf X) td) := by
  refine ⟨fun pins s σ H Q I h => ?_⟩
  refine wpAny_Call_Name_kw (ld_blt I hg hm (u := .builtin "min") (by first | rfl | decide +kernel) ?_ (by first | decide +kernel | decide) (by first | decide +kernel | decide))
  rw [hse]
  refine PySem.callWith_builtin1 (wpAny_Call_method0_late hbase hline (thn (hd.run pins s σ H _ I h) fun v s1 ⟨x, H1, I1, r1, F, kvs, is, ⟨a, ob, ex, ha, dr, fh⟩, hv, hne, q⟩ => ?_))
  subst ex
  obtain rfl : v = Value.ref a := r1
  obtain ⟨t1, t2, _⟩ := dr_obj I1 ha dr
  obtain ⟨es, ep, ks, vs, hr, hsys, hz, rk, rv, dv, dk⟩ := dr_raw I1 ha dr
  refine ⟨"dict", "dict.values", PySem.F.plainAttrs_dict, PySem.F.slot_dict_values, PySem.F.type_dict_values, t1, fun b e => by cases e; exact t2, Calls.callWith_builtin rfl (PySem.evalArgs_none ?_)⟩
  refine call_meetsIn PySem.F.slot_dict_values t1 PySem.F.entry_dict_values (PySem.F.args_dict_values_1 _) (meets_dict_values_raw a hsys) ⟨⟨es, ep, hr⟩, ?_⟩
  rw [hv] at dv
  obtain ⟨li, hi⟩ := ints_at rv dv
  have hls : es.size = is.length := by
    rw [List.length_map] at li
    have h2 : es.toList.length = es.size := Array.length_toList
    omega
  have hlen : 0 < es.size := by rw [hls]; exact List.length_pos_iff.mpr hne
  have hval : ∀ (i : Nat) (v : Value), (∃ hi : i < es.size, v = es[i].val) → ∃ t, v = Value.int (is.getD i 0) t := fun i v ⟨hj, e⟩ => hi i v (by rw [List.getElem?_map, Array.getElem?_toList, Array.getElem?_eq_getElem hj, e]; rfl)
  have k1 : ∀ b u, s1.heap.get? b = some u → (s1.heap.push { cls := .type "dict_values", data := .fields #[.ref a] }).get? b = some u := fun b u e => Heap.get?_push_of_some _ e
  have hr1 : (s1.heap.push { cls := .type "dict_values", data := .fields #[.ref a] }).DictRaw a es ep := hr.at fun o e => k1 a o e
  have hlt : a < s1.heap.objs.size := let ⟨o, ho, _⟩ := hr; Heap.lt_size ho
  have hsz : (s1.heap.push { cls := .type "dict_values", data := .fields #[.ref a] }).objs.size = s1.heap.objs.size + 1 := Heap.size_push _ _
  refine call_min_walk (wpAny_pyIter_values_raw (v := s1.heap.objs.size) (d := a) ⟨_, Heap.get?_push_size _ rfl, rfl, rfl⟩ hr1 ?_)
  refine ⟨_, _, _, _, _, _, _, rfl, Walks.rawValues (A := X.A.in1) (I.ok.hd hc) (s1.heap.push { cls := .type "dict_values", data := .fields #[.ref a] }).objs.size a (by rw [hsz]; exact Nat.ne_of_lt (Nat.lt_succ_of_lt hlt)) es ep,
    ⟨⟨_, Heap.get?_push_size _ rfl, rfl, rfl⟩, hr1.at fun o e => Heap.get?_push_of_some _ e⟩, fun b hb => ?_, hlen, CmpOf.ints_lt (fun i => is.getD i 0) hval, fun v h' tk hP hk => ?_⟩
  · show b < ((s1.heap.push _).push _).objs.size
    rw [Heap.size_push, Heap.size_push]
    rw [hsz] at hb
    rcases List.mem_cons.mp hb with e | hb
    · rw [e]
      exact Nat.lt_succ_self _
    · have e : b = a := List.mem_singleton.mp hb
      rw [e]
      exact Nat.lt_succ_of_lt (Nat.lt_succ_of_lt hlt)
  · obtain ⟨t, rfl⟩ := hval _ v hP
    obtain ⟨b1, b2⟩ := argBest_lt (fun i => is.getD i 0) (es.size - 1)
    have hb : argBest (fun i j => decide (is.getD i 0 < is.getD j 0)) (es.size - 1) < is.length := by omega
    refine ⟨.int _, H1, I1.kept (t' := tk) fun b u e => hk b u (fun hmem => ?_) (Heap.get?_push_of_some _ (k1 b u e)), ⟨t, rfl⟩, q _ ?_ fun j hj => ?_⟩
    · have e1 : b = (s1.heap.push { cls := .type "dict_values", data := .fields #[.ref a] }).objs.size := List.mem_singleton.mp hmem
      have e2 := Heap.lt_size e
      rw [hsz] at e1
      rw [e1] at e2
      exact absurd e2 (Nat.not_lt.mpr (Nat.le_succ _))
    · rw [List.getD_eq_getElem?_getD, List.getElem?_eq_getElem hb]
      exact List.getElem_mem _
    · obtain ⟨i, hi', e⟩ := List.getElem_of_mem hj
      have z := b2 i (by omega)
      rw [List.getD_eq_getElem?_getD (l := is) (i := i), List.getElem?_eq_getElem hi'] at z
      rw [← e]
      exact z
end
theorem intsD_eq : ∀ {ds : List D} {is : List Int}, intsD ds = some is → ds = is.map PyData.int
  | [], is, e => by cases e; rfl
  | d :: ds, is, e => by
    cases d with
    | int i =>
      simp only [intsD] at e
      obtain ⟨js, ej, rfl⟩ := Option.map_eq_some_iff.mp e
      rw [intsD_eq ej]; rfl
    | _ => cases e
theorem intsD_map : ∀ is : List Int, intsD (is.map PyData.int) = some is
  | [] => rfl
  | i :: is => by simp only [List.map_cons, intsD, intsD_map is, Option.map_some]
def kMinV : D → Option D
  | .dict kvs => (intsD (kvs.map (·.2))).bind fun is => is.min?.map PyData.int
  | _ => none
section
variable {X : Cx} {C : Ct} {o : Expr} {p pos apos mpos : Pos} {f : EF}
theorem xd_minV (hc : X.calm = true) (hm : X.mg "min" = none) (ho : PE X o (dOf (kxOf X) C f)) (hg : Gl X "min" := by rfl) (hbase : attributeBase o "values" X.env (eval o X.env) = eval o X.env := by rfl) (hline : (apos.endLine == mpos.line) = true := by rfl)
    (hse : starEach [Expr.Call (.Attribute o "values" apos) [] [] mpos] X.env = [(false, eval (Expr.Call (.Attribute o "values" apos) [] [] mpos) X.env)] := by rfl) :
    PE X (.Call (.Name "min" p) [.Call (.Attribute o "values" apos) [] [] mpos] [] pos) (dOf (kxOf X) C (un1 kMinV f)) :=
  pe_wk (pe_minR hc hg hm ho hbase hline hse) fun σ H Q q => by
    obtain ⟨F, st, w, R, e, q⟩ := q
    obtain ⟨a, ea, e⟩ := Option.bind_eq_some_iff.mp e
    obtain ⟨z, ez, e⟩ := Option.map_eq_some_iff.mp e
    cases e
    unfold kMinV at ez
    split at ez
    · rename_i kvs hx
      obtain ⟨is, ei, ez⟩ := Option.bind_eq_some_iff.mp ez
      obtain ⟨m, em, rfl⟩ := Option.map_eq_some_iff.mp ez
      refine ⟨F, st, a, R, ea, fun x H1 F1 s1 R1 d1 => ?_⟩
      rw [hx] at d1
      refine ⟨F1, kvs, is, rdict_of d1 R1.fh, intsD_eq ei, (fun z => by subst z; cases em), fun m' h1 h2 => ?_⟩
      obtain ⟨k1, k2⟩ := List.min?_eq_some_iff.mp em
      have : m' = m := Int.le_antisymm (h2 m k1) (k2 m' h1)
      subst this
      exact q _ H1 F1 s1 R1 (.int _)
    · cases ez
end
end Xm
set_option Elab.async false
set_option linter.all false
set_option maxRecDepth 100000
set_option maxHeartbeats 2000000
namespace Xm
open PySem PySem.Spec PyProof.Rows L2
def Ikd (d : Addr) (o : Obj) (u : HO) (ks : List V) : It :=
  ⟨fun i H => H d = some (.frz o u) ∧ i < ks.length, fun i H x H' => H' = H ∧ ks[i]? = some x, fun i H => H d = some (.frz o u) ∧ ks.length ≤ i⟩
theorem vals_key {ks : List V} {es : Array DictEntry} (hv : Vals ks (es.toList.map (·.key))) : es.size = ks.length ∧ ∀ (i : Nat) (x : V), ks[i]? = some x → ∃ en, es[i]? = some en ∧ RelV x en.key := by
  have hl := hv.length
  rw [List.length_map, Array.length_toList] at hl
  refine ⟨hl.symm, fun i x e => ?_⟩
  obtain ⟨u, e1, e2⟩ := hv.get e
  rw [List.getElem?_map, Array.getElem?_toList] at e1
  obtain ⟨en, e3, rfl⟩ := Option.map_eq_some_iff.mp e1
  exact ⟨en, e3, e2⟩
theorem turn_kd {P : Program} {w : World} {K : PySem.W.Frag} {tg : Expr} {d : Addr} {o : Obj} {u : HO} {ks : List V} {es : Array DictEntry} {ep : Nat} (it : Addr) (hod : o.data = .dict es ep) (hv : Vals ks (es.toList.map (·.key))) : Turn P w K tg (Ikd d o u ks) [it] it (fun i h => h.IsKeyIter it d i ks.length ep) where
  mem := by simp
  obj := fun i h st b hb => by
    have e : b = it := by simpa using hb
    subst e
    obtain ⟨oi, e, c, dd⟩ := st
    exact ⟨oi, e, fun v z => by rw [dd] at z; cases z⟩
  keep := fun i h h' st k => st.at fun oi e => k it (by simp) oi e
  item := by
    intro X hP hw hK hc i pins s σ H E I hf st hg
    subst hP hw hK
    obtain ⟨hd, hi⟩ := hg
    obtain ⟨f0, f1, f2, f3, f4, f5⟩ := hf it (by simp)
    have hgd := (show ObjOk X.prog X.w H s.heap d (.frz o u) from I.hok d _ hd).1
    obtain ⟨hsz, ent⟩ := vals_key hv
    obtain ⟨x, hx⟩ : ∃ x, ks[i]? = some x := ⟨ks[i], List.getElem?_eq_getElem hi⟩
    obtain ⟨en, hen, hkey⟩ := ent i x hx
    refine next_key_item st hgd hod hsz hen fun h' st' sb => ?_
    have I1 : Inv X pins σ H { s with heap := h' } := I.turned (t' := s.toks) (fun b ob hb e => (sb.2 b hb).trans e) f0 f1 f3 f4 f5
    obtain ⟨oi, e, c, dd⟩ := id st'
    exact ⟨en.key, rfl, go_of (s := { s with heap := h' }) e c dd (by decide) ⟨x, H, I1, hkey, ⟨rfl, hx⟩, st', fun b hb => (hf b hb).1⟩⟩
  done := by
    intro X hP hw hK hc i pins s σ H E I hf st hg
    subst hP hw hK
    obtain ⟨hd, hi⟩ := hg
    obtain ⟨f0, f1, f2, f3, f4, f5⟩ := hf it (by simp)
    have hgd := (show ObjOk X.prog X.w H s.heap d (.frz o u) from I.hok d _ hd).1
    obtain ⟨hsz, ent⟩ := vals_key hv
    exact next_key_end (I.ok.hd hc) st hgd hod hsz hi fun h' eb => ⟨rfl, I.turned (t' := s.toks) (fun b ob hb e => eb b ob hb e) f0 f1 f3 f4 f5⟩
  self := fun A i s Q E st h => by
    refine wpAny_pyIter_slot st.typeIs F.slot_dict_keyiterator_iter (wpAny_call_entry F.slot_dict_keyiterator_iter st.typeIs F.entry_dict_keyiterator_iter ?_ (F.args_dict_keyiterator_iter_1 _))
    show wpAny _ _ (ret (.ref it)) _ _ s
    exact wpAny_pure ⟨_, rfl, "dict_keyiterator", _, st.typeIs, F.slot_dict_keyiterator_next.lookup, h⟩
def iKd (K : Kx) (td : TE) : TI := fun σ H R => td σ H fun x H1 => ∃ F kvs, Dp K F x (.dict kvs) ∧ Same F H1 ∧ ∀ J, ItOk K F J (kvs.map (·.1)) → R J H1
section
variable {X : Cx} {C : Ct} {tg e : Expr} {td : TE} {f : EF}
theorem ikd_ok {K : Kx} {F : Hp} {d : Addr} {o : Obj} {u : HO} {ks : List V} {ds : List D} (h : F d = some (.frz o u)) (hk : DpAll K F ks ds) : ItOk K F (Ikd d o u ks) ds where
  go := fun i H hi e => ⟨e _ _ h, by rw [DpAll_len hk]; exact hi⟩
  stop := fun H e => ⟨e _ _ h, by rw [DpAll_len hk]; exact Nat.le_refl _⟩
  yld := fun i H x H' dd hd e y => by
    obtain ⟨rfl, y⟩ := y
    obtain ⟨v, h1, h2⟩ := DpAll_get hk hd
    rw [h1] at y
    cases y
    exact ⟨fun _ => none, fun _ _ z => (nomatch z), Same.refl _, fun F1 s1 _ => Dp_up h2 s1⟩
theorem pi_kd (he : PE X e td) : PI X tg e (iKd (kxOf X) td) := by
  refine ⟨fun pins s σ H R I h => ?_⟩
  refine thn (he.run pins s σ H _ I h) fun u s1 ⟨x, H1, I1, rx, F, kvs, hd, fh, q⟩ => ?_
  obtain ⟨d, rfl⟩ := dp_dict hd
  obtain rfl : u = Value.ref d := rx
  obtain ⟨o, ob, hF, dr⟩ := dp_dr hd
  have hH := fh _ _ hF
  obtain ⟨es, ep, ks, vs, ⟨o', ho', hx, hdt⟩, hs, hz, rk, rv, dv, dk⟩ := dr_raw I1 (.inr ⟨o, hH⟩) dr
  have hgd := (show ObjOk X.prog X.w H1 s1.heap d (.frz o ob) from I1.hok d _ hH).1
  rw [hgd] at ho'
  cases ho'
  refine iter_keys hs hgd hx hdt (pi_one (tk := s1.toks) I1 _ (turn_kd _ hdt rk) ⟨_, Heap.get?_push_size _ rfl, rfl, ?_⟩ (q _ (ikd_ok hF dk)))
  rw [(vals_key rk).1] <;> rfl
def itK (f : EF) : LF := fun st => (f st).bind fun a => match a.1 with
  | .dict kvs => some (kvs.map (·.1), a.2)
  | _ => none
theorem xi_keys (h : PE X e (dOf (kxOf X) C f)) : PI X tg e (iOf (kxOf X) C (itK f)) := pi_wk (pi_kd h) fun σ H R q => by
  obtain ⟨F, st, w, Rl, ew, q⟩ := q
  obtain ⟨a, ea, ew⟩ := Option.bind_eq_some_iff.mp ew
  refine ⟨F, st, a, Rl, ea, fun v H1 F1 s1 R1 d1 => ?_⟩
  split at ew
  · rename_i kvs hx
    cases ew
    rw [hx] at d1
    exact ⟨F1, kvs, d1, R1.fh, fun J hJ => q J H1 F1 s1 R1 hJ⟩
  · cases ew
end
theorem wp_itK {st : AS} {f : EF} {QL : List D → AS → Prop} (w : Wp f st fun d s1 => ∃ kvs, d = .dict kvs ∧ QL (kvs.map (·.1)) s1) : Wp (itK f) st QL := by
  obtain ⟨d, s1, e, kvs, rfl, q⟩ := w
  exact ⟨_, _, by unfold itK; rw [e]; rfl, q⟩
section
variable {X : Cx}
def tDcG (ps : Addr → V → V → Hp → (Hp → Prop) → Prop) (wi : TI) (g : TG) (tt : TT) (tk tv : TE) (vs : List Nat) : TE := fun σ H Q => wi σ H fun J H1 => ∀ D, H1 D = none → ∃ W : Nat → Nat → Hp → Prop, (∃ m, W 0 m (upd H1 D (.dK []))) ∧ ∀ i m H, W i m H →
  (J.stop i H ∧ Q (.ref D) H) ∨ (J.go i H ∧ ∃ Nx : Hp → Prop, (∀ H', Nx H' → ∃ m', m' < m ∧ W (i + 1) m' H') ∧ ∀ x H', J.yld i H x H' → g x (wipe σ vs) H' fun σ2 H2 => wipe σ2 vs = wipe σ vs ∧ tt σ2 H2 fun b H3 =>
    if b = true then tk σ2 H3 fun y H4 => tv σ2 H4 fun z H5 => ps D y z H5 Nx else Nx H3)
def PDict (X : Cx) (ps : Addr → V → V → Hp → (Hp → Prop) → Prop) : Prop := ∀ (pins : List (Addr × Obj)) (σ : L2.St) (H : Hp) (s : Shared) (E : Value → Shared → Prop) (D : Addr) (y z : V) (u r : Value) (Nx : Hp → Prop), Inv X pins σ H s → RelV y u → RelV z r → ps D y z H Nx →
  wpAny (model X.prog X.w) X.A (dictSet D u r) (fun _ s' => ∃ H', Inv X pins σ H' s' ∧ Nx H') E s
theorem dc_coreG {ps : Addr → V → V → Hp → (Hp → Prop) → Prop} {pins : List (Addr × Obj)} {s : Shared} {σ : L2.St} {H : Hp} {Q : VK} {kx vx tg iter : Expr} {ifs : List Expr} {scope : Scope} {own : List (Str × Nat)} {pos pos' : Pos} {wi : TI} {g : TG} {tt : TT} {tk tv : TE} {use : Option (Value → Sem Unit)} {Qf : Value → Shared → Prop}
    (hc : X.calm = true) (hN : X.N.Nodup) (I : Inv X pins σ H s) (hi : PI X tg iter wi) (ok : BlkOk X.N X.env.scope scope own)
    (hps : ∀ (s : Shared) (H : Hp) (C : Addr) (cl : List (Str × Addr)) (fp : List Addr), PDict (X.blk s H scope (compEnvC scope cl C X.env) fp) ps)
    (hg : ∀ (s : Shared) (H : Hp) (C : Addr) (cl : List (Str × Addr)) (fp : List Addr), PG (X.blk s H scope (compEnvC scope cl C X.env) fp) tg g) (ht : ∀ (s : Shared) (H : Hp) (C : Addr) (cl : List (Str × Addr)) (fp : List Addr), PTs (X.blk s H scope (compEnvC scope cl C X.env) fp) ifs tt)
    (hk : ∀ (s : Shared) (H : Hp) (C : Addr) (cl : List (Str × Addr)) (fp : List Addr), PE (X.blk s H scope (compEnvC scope cl C X.env) fp) kx tk)
    (he : ∀ (s : Shared) (H : Hp) (C : Addr) (cl : List (Str × Addr)) (fp : List Addr), PE (X.blk s H scope (compEnvC scope cl C X.env) fp) vx tv) (hs : ∀ x, foldedSetIterable iter X.env x = pure x)
    (h : tDcG ps wi g tt tk tv (own.map (·.2)) σ H Q)
    (hRR : ∀ D C s' m H', Inv X pins σ H' s' → Q (.ref D) H' → s'.heap.Ns C m → FpOk X pins H' C → compPost (model X.prog X.w) X.A X.xe use Qf (.ref D) C (.ok .next) s') :
    wpAny (model X.prog X.w) X.A (comprehension (.DictComp kx vx [⟨tg, iter, ifs, 0⟩] scope pos) scope X.env pos' newDict false (eval iter X.env) use) Qf X.xe s := by
  have free : ∀ y ∈ scope.names, y.2 = .free → ∃ c, X.env.cells.lookup y.1 = some c := fun y hy e => I.ok.has _ (ok.free y hy e)
  refine wpAny_comprehension_free (use := use) rfl hs (closure_ok free) ok.kind (fun y hy e => by rw [ok.uniq y hy, e]) (thn (hi.run pins s σ H _ I h) fun xv s1 hx => thn hx fun itv s2 ⟨it, fp, tn, J, H2, e, I2, T, st2, f2, q⟩ => ?_)
  subst e
  refine wpAny_newObj_type (newEnv_comp ?_)
  obtain ⟨D, hD⟩ : ∃ D, s2.heap.objs.size = D := ⟨_, rfl⟩
  rw [hD]
  obtain ⟨W, ⟨m0, w0⟩, turn⟩ := q D (I2.hok.fresh (Nat.le_of_eq hD))
  obtain ⟨H3, hH3⟩ : ∃ H3, upd H2 D (.dK []) = H3 := ⟨_, rfl⟩
  obtain ⟨s3, hs3⟩ : ∃ s3 : Shared, { s2 with heap := s2.heap.push { cls := .type "dict", data := .dict #[] } } = s3 := ⟨_, rfl⟩
  have h3 : s3.heap = s2.heap.push { cls := .type "dict", data := .dict #[] } := by rw [← hs3]
  have I3 : Inv X pins σ H3 s3 := by
    rw [← hs3, ← hH3]
    refine I2.laid (t' := s2.toks) (fun b o e => Heap.get?_push_of_some _ e) (Nat.le_of_eq hD) ?_
    rw [← hD]
    exact dk_empty s2.heap I2.big
  have f3 : ∀ b ∈ fp, FpOk X pins H3 b ∧ b < s3.heap.objs.size := fun b hb => by
    obtain ⟨o, eo, _⟩ := T.obj _ _ st2 b hb
    have hlt : b < D := by rw [← hD]; exact Heap.lt_size eo
    obtain ⟨z1, z2⟩ := f2 b hb
    refine ⟨⟨by rw [← hH3, upd_ne (Nat.ne_of_lt hlt)]; exact z1, z2⟩, ?_⟩
    rw [h3, Heap.size_push, hD]
    exact Nat.lt_succ_of_lt hlt
  have st3 : tn 0 s3.heap := T.keep _ _ _ st2 fun b _ o e => by rw [h3]; exact Heap.get?_push_of_some _ e
  have I4 := block_start I3 ok hN f3
  obtain ⟨cl, hcl⟩ : ∃ cl, cellsFrom (s3.heap.objs.size + 1) scope.names (cloFrom X.env.cells scope.names []) = cl := ⟨_, rfl⟩
  rw [hcl] at I4
  have pg := hg s3 H3 s3.heap.objs.size cl fp
  have pt := ht s3 H3 s3.heap.objs.size cl fp
  have pk := hk s3 H3 s3.heap.objs.size cl fp
  have pe := he s3 H3 s3.heap.objs.size cl fp
  have pps := hps s3 H3 s3.heap.objs.size cl fp
  have cL : (compEnvC scope cl s3.heap.objs.size X.env).locals = s3.heap.objs.size := rfl
  generalize hce : compEnvC scope cl s3.heap.objs.size X.env = ce at I4 pg pt pk pe pps cL
  rw [hs3]
  show codeAny _ _ (.compStart (.DictComp kx vx [⟨tg, iter, ifs, 0⟩] scope pos) 0 (.ref it) (.ref D) (compEnvC scope (cellsFrom (s3.heap.objs.size + 1) scope.names (cloFrom X.env.cells scope.names [])) s3.heap.objs.size X.env)) (compPost (model X.prog X.w) X.A X.xe use Qf (.ref D) s3.heap.objs.size) { s3 with heap := pushCells (s3.heap.push { cls := .type "dict", data := .dict #[] }) scope.names }
  rw [hcl, hce]
  obtain ⟨s4, hs4⟩ : ∃ s4 : Shared, { s3 with heap := pushCells (s3.heap.push { cls := .type "dict", data := .dict #[] }) scope.names } = s4 := ⟨_, rfl⟩
  rw [hs4] at I4 ⊢
  have st4 : tn 0 s4.heap := T.keep _ _ _ st3 fun b _ o e => by rw [← hs4]; exact pushCells_keeps _ _ _ _ (Heap.get?_push_of_some _ e)
  have stat : ∀ {σ' : L2.St} {H' : Hp} {s' : Shared}, Inv (X.blk s3 H3 scope ce fp) [] σ' H' s' → (∀ b ∈ fp, H' b = none) → ∀ b ∈ fp, FpOk (X.blk s3 H3 scope ce fp) [] H' b := fun {σ' H' s'} I' hn b hb =>
    ⟨hn b hb, (I'.ok.exf b hb).1, I'.ok.exfs b hb, .inl hb, fun x c e => (I'.ok.exf b hb).2 x c e, fun p hp => absurd (show p ∈ ([] : List (Addr × Obj)) ++ [] from hp) (by simp)⟩
  have loop : codeAny (model X.prog X.w) X.A (.compLoop (.DictComp kx vx [⟨tg, iter, ifs, 0⟩] scope pos) 0 (.ref it) (.ref D) ce) (compPost (model X.prog X.w) X.A X.xe use Qf (.ref D) s3.heap.objs.size) s4 := by
    refine compLoop_anyD (fun n s' => ∃ i H', Inv (X.blk s3 H3 scope ce fp) [] (wipe σ (own.map (·.2))) H' s' ∧ tn i s'.heap ∧ (∀ b ∈ fp, H' b = none) ∧ W i n H') ?_ m0 ⟨0, H3, I4, st4, fun b hb => (f3 b hb).1.1, hH3 ▸ w0⟩
    rintro n s5 ⟨i, H5, I5, st5, n5, w5⟩
    rcases turn i n H5 w5 with ⟨stop, qq⟩ | ⟨go, Nx, hNx, step⟩
    · refine thnF (T.done (X.blk s3 H3 scope ce fp) rfl rfl rfl hc i [] s5 _ H5 (fun _ _ => False) I5 (stat I5 n5) st5 stop) fun r s6 ⟨hr, I6⟩ => ?_
      subst hr
      have I7 : Inv X pins σ H5 s6 := I3.call' (ch := fp) I6.os I6.base I6.hok I6.bare fun b hb => ⟨(f3 b hb).1.2.2.2.1, (f3 b hb).1.2.1, (f3 b hb).1.2.2.2.2.1, (f3 b hb).1.2.2.2.2.2⟩
      have nC : H5 s3.heap.objs.size = none := cL ▸ I6.free
      obtain ⟨m, hn, _⟩ := I6.loc
      exact hRR D s3.heap.objs.size s6 m H5 I7 qq (cL ▸ (show s6.heap.Ns ce.locals m from hn)) (I3.fpOk (Nat.le_refl _) nC)
    · refine thnF (T.item (X.blk s3 H3 scope ce fp) rfl rfl rfl hc i [] s5 _ H5 (fun _ _ => False) I5 (stat I5 n5) st5 go) fun r s6 ⟨u, hr, h6⟩ => ?_
      subst hr
      refine thnF h6 fun _ s7 ⟨x, H7, I7, r7, y7, st7, n7⟩ => ?_
      refine thnF (pg.run _ s7 _ H7 x u _ (I7.pinned (stat I7 n7) (T.obj _ _ st7)) r7 (step x H7 y7)) fun _ s8 ⟨σ8, H8, I8, hw8, q8⟩ => ?_
      refine thnF (pt.run _ s8 σ8 H8 _ I8 q8) fun b s9 ⟨H9, I9, q9⟩ => ?_
      have fin : ∀ {s' : Shared} {H' : Hp}, Inv (X.blk s3 H3 scope ce fp) ([] ++ pinsAt fp s7.heap) σ8 H' s' → Nx H' → ∃ m, m < n ∧ ∃ i H', Inv (X.blk s3 H3 scope ce fp) [] (wipe σ (own.map (·.2))) H' s' ∧ tn i s'.heap ∧ (∀ b ∈ fp, H' b = none) ∧ W i m H' := fun {s' H'} I' nx => by
        obtain ⟨m', hm, w'⟩ := hNx H' nx
        have pin : ∀ b ∈ fp, ∀ o, s7.heap.get? b = some o → s'.heap.get? b = some o ∧ H' b = none := fun b hb o e =>
          let z := I'.pin (b, o) (List.mem_append_right _ (List.mem_append_right _ (mem_pinsAt hb e)))
          ⟨z.1, z.2.1⟩
        refine ⟨m', hm, i + 1, H', (I'.unpinned (pins := [])).weak (by rw [← hw8, wipe_length]) (fun j v e => (wipe_some (hw8 ▸ e)).1), T.keep _ _ _ st7 fun b hb o e => (pin b hb o e).1, fun b hb => ?_, w'⟩
        obtain ⟨o, e, _⟩ := T.obj _ _ st7 b hb
        exact (pin b hb o e).2
      cases b with
      | false => exact fin I9 q9
      | true =>
        refine thnF (pk.run _ s9 σ8 H9 _ I9 q9) fun z s10 ⟨yk, H10, I10, r10, q10⟩ => ?_
        refine thnF (pe.run _ s10 σ8 H10 _ I10 q10) fun z2 s11 ⟨yv, H11, I11, r11, nx⟩ => ?_
        exact thnF (pps _ σ8 H11 s11 (fun _ _ => False) D yk yv z z2 Nx I11 r10 r11 nx) fun _ s12 ⟨H12, I12, nx2⟩ => fin I12 nx2
  exact codeAny_compStart_dict loop (T.self X.A 0 _ _ _ st4 loop)
theorem pe_dcG {ps : Addr → V → V → Hp → (Hp → Prop) → Prop} {kx vx tg iter : Expr} {ifs : List Expr} {scope : Scope} {own : List (Str × Nat)} {pos : Pos} {wi : TI} {g : TG} {tt : TT} {tk tv : TE} (hc : X.calm = true) (hN : X.N.Nodup) (hi : PI X tg iter wi) (ok : BlkOk X.N X.env.scope scope own)
    (hps : ∀ (s : Shared) (H : Hp) (C : Addr) (cl : List (Str × Addr)) (fp : List Addr), PDict (X.blk s H scope (compEnvC scope cl C X.env) fp) ps)
    (hg : ∀ (s : Shared) (H : Hp) (C : Addr) (cl : List (Str × Addr)) (fp : List Addr), PG (X.blk s H scope (compEnvC scope cl C X.env) fp) tg g) (ht : ∀ (s : Shared) (H : Hp) (C : Addr) (cl : List (Str × Addr)) (fp : List Addr), PTs (X.blk s H scope (compEnvC scope cl C X.env) fp) ifs tt)
    (hk : ∀ (s : Shared) (H : Hp) (C : Addr) (cl : List (Str × Addr)) (fp : List Addr), PE (X.blk s H scope (compEnvC scope cl C X.env) fp) kx tk)
    (he : ∀ (s : Shared) (H : Hp) (C : Addr) (cl : List (Str × Addr)) (fp : List Addr), PE (X.blk s H scope (compEnvC scope cl C X.env) fp) vx tv) (hs : ∀ x, foldedSetIterable iter X.env x = pure x := by intro _; rfl) :
    PE X (.DictComp kx vx [⟨tg, iter, ifs, 0⟩] scope pos) (tDcG ps wi g tt tk tv (own.map (·.2))) := by
  refine ⟨fun pins s σ H Q I h => ?_⟩
  rw [arm_eval_DictComp]
  refine dc_coreG hc hN I hi ok hps hg ht hk he hs h fun D C s' m H' I' q hn f => ⟨m, hn, fun h'' sb => ?_⟩
  obtain ⟨f0, f1, f2, f3, f4, f5⟩ := f
  exact ⟨.ref D, H', I'.turned (t' := s'.toks) (fun b o hb e => (sb.2 b hb).trans e) f0 f1 f3 f4 f5, rfl, q⟩
end
section
variable {X : Cx}
end
def psD (K : Kx) : Addr → V → V → Hp → (Hp → Prop) → Prop := fun D y z H Nx => ∃ F kvs u k d kvs', H D = some u ∧ DR K F D u kvs ∧ Same F H ∧ Dp K F y k ∧ Dp K F z d ∧ dPut kvs k d = some kvs' ∧ ∀ u', DR K F D u' kvs' → Nx (upd H D u')
section
variable {X : Cx}
theorem d_dset (hu : X.A.units + 65 < cLine) : PDict X (psD (kxOf X)) := by
  intro pins σ H s E a yv zv y w Nx I ry rv h
  obtain ⟨F, kvs, u, k, d, kvs', ha, dr, fh, hk, hv, e, q⟩ := h
  unfold dPut at e
  split at e
  · rename_i hc
    cases e
    obtain ⟨hc, hl⟩ := hc
    have hl2 := dStore_len kvs k d
    simp only [Bool.or_eq_true, Bool.and_eq_true] at hc
    rcases hc with ⟨h1, h2⟩ | ⟨h1, h2⟩
    · obtain ⟨vs, m⟩ := dr_mix I (.inl ha) dr h2
      obtain ⟨q', rfl, rq⟩ := key_mix h1 hk ry
      refine wpAny_dictSet_pairs (hsz := m.len) (kV_is rq) m.at_ fun h' dd' hs => ?_
      have he : ∃ q, h'.get? a = some q := let ⟨q, _, _, hq, _⟩ := dd'; ⟨q, hq⟩
      have r2 := store_rel (fun _ _ => keyN_inj) m.rel (keyOf_keyD q') rv hv
      have h3 := dStore_all (P := atomK) (k := keyD q') (v := d) h2 h1
      obtain ⟨ps, p1, p2, p3⟩ := unpair_mix r2 h3
      have lp : ps.length ≤ sizeLine := by
        have := congrArg List.length p2
        simp only [List.length_map] at this
        omega
      exact ⟨_, d_write I (dr_mut ha dr) hs he (dk_new lp m.sm p1 dd'), q (.dK ps) (.inr ⟨ps, rfl, p2, lp, p3⟩)⟩
    · obtain ⟨xs, sm, lx, hm, r⟩ := dr_nestX I fh (.inl ha) dr h2
      obtain ⟨ds, q', rfl, eq, hq8⟩ := tupK_key h1
      obtain ⟨b, q2, rfl, eq', hq⟩ := key_nest I fh h1 hk ry
      obtain rfl : q' = q2 := Option.some.inj (eq.symm.trans eq')
      have hb : yv = .ref b := by
        cases hk with
        | tup hs _ => cases ry; rfl
      subst hb
      refine wpAny_dictSet_heap (hsz := lx) (show X.A.units + 8 < cLine by omega) hq hm fun h' dd' hs => ?_
      have he : ∃ q, h'.get? a = some q := let ⟨q, _, _, hq, _⟩ := dd'; ⟨q, hq⟩
      have r2 := storeN_rel r eq hq8 hk rv hv
      obtain ⟨rows, p1, p2, p3, p4, p5⟩ := unpair_nest r2
      have lp : rows.length ≤ sizeLine := by
        have := DpAll_len p5
        simp only [List.length_map] at this
        omega
      exact ⟨_, d_write I (dr_mut ha dr) hs he (dtO_ok rfl rfl sm dd' p1), q (dtO (kxOf X) a rows) (.inl ⟨rows, rfl, lp, p2, p3, p4, p5⟩)⟩
  · cases e
end
def dcmL (u : D → AS → Option AS) (tt : BF) (tk tv : EF) (vs : List Nat) : List D → AS → List (D × D) → Option (List (D × D) × AS)
  | [], st, acc => some (acc, st)
  | d :: ds, st, acc => (u d st).bind fun st1 => (tt st1).bind fun c => if c.1 = true then (tk c.2).bind fun k => (tv k.2).bind fun x => (dPut acc k.1 x.1).bind fun acc' => dcmL u tt tk tv vs ds (clr x.2 vs) acc'
    else dcmL u tt tk tv vs ds (clr c.2 vs) acc
def compM (it : LF) (u : D → AS → Option AS) (tt : BF) (tk tv : EF) (vs : List Nat) : MF := fun st => (it st).bind fun a => if allNo a.2 vs = true then dcmL u tt tk tv vs a.1 a.2 [] else none
theorem dcm_ok {K : Kx} {C : Ct} {it : LF} {u : D → AS → Option AS} {ts : List Nat} {tt : BF} {tk tv : EF} {vs : List Nat} {σ : L2.St} {H : Hp} {Q : VK} (hts : ∀ j ∈ ts, j ∈ vs)
    (hg : TG) (ht : TT) (hk he : TE) (kg : ∀ C v σ H Q, gOf K C u ts v σ H Q → hg v σ H Q) (kt : ∀ C σ H Q, bOf K C tt σ H Q → ht σ H Q) (kk : ∀ C σ H Q, dOf K C tk σ H Q → hk σ H Q) (ke : ∀ C σ H Q, dOf K C tv σ H Q → he σ H Q)
    (q : mOf K C (compM it u tt tk tv vs) σ H Q) : tDcG (psD K) (iOf K C it) hg ht hk he vs σ H Q := by
  obtain ⟨F, st, w, R, e, q⟩ := q
  obtain ⟨a, ea, e⟩ := Option.bind_eq_some_iff.mp e
  split at e
  · rename_i hno
    have hno' := allNo_iff hno
    refine ⟨F, st, a, R, ea, fun J H1 F1 s1 R1 J1 => fun Dd hD => ?_⟩
    obtain ⟨A1, hF0⟩ := R1.aside hD
    have Rw : ∀ {F2 st2 H2}, Rel K C F2 st2 σ H2 → (∀ i ∈ vs, st2[i]? = some Slot.no) → Rel K C F2 st2 (wipe σ vs) H2 := fun R2 hn => R2.slots (wipe_length σ vs) fun i hi => by
      rw [wipe_get, if_neg]
      rintro ⟨z1, z2⟩
      exact hi (hn i z1)
    have apW : ∀ {st2 : AS}, (∀ j, Mu st2 j → σ[j]? ≠ some (some (.ref Dd))) → ∀ j, Mu st2 j → (wipe σ vs)[j]? ≠ some (some (.ref Dd)) := fun h j hj z => by
      rw [wipe_get] at z
      split at z
      · cases z
      · exact h j hj z
    refine ⟨fun i m H => m = a.1.length - i ∧ i ≤ a.1.length ∧ ∃ F2 st2 kvs ob, Same F1 F2 ∧ Rel K C F2 st2 (wipe σ vs) H ∧ H Dd = some ob ∧ Aside C F2 st2 (wipe σ vs) Dd ∧ DR K F2 Dd ob kvs ∧
      (∀ i ∈ vs, st2[i]? = some Slot.no) ∧ dcmL u tt tk tv vs (a.1.drop i) st2 kvs = some w,
      ⟨a.1.length, by simp, Nat.zero_le _, F1, a.2, [], .dK [], Same.refl _, Rw (R1.write A1) hno', upd_same, ⟨A1.h0, A1.f, A1.pn, apW A1.ap⟩, .inr ⟨[], rfl, rfl, Nat.zero_le _, .nil⟩, hno', e⟩, ?_⟩
    rintro i m H2 ⟨rfl, hi, F2, st2, kvs, ob, s2, R2, h2, A2, d2, n2, e2⟩
    by_cases hlt : i < a.1.length
    · refine .inr ⟨J1.go i H2 hlt (s2.trans R2.fh), ?_⟩
      have hd : a.1[i]? = some a.1[i] := List.getElem?_eq_getElem hlt
      rw [List.drop_eq_getElem_cons hlt] at e2
      obtain ⟨st3, e3, e4⟩ := Option.bind_eq_some_iff.mp e2
      obtain ⟨c, ec, e5⟩ := Option.bind_eq_some_iff.mp e4
      refine ⟨fun H' => ∃ F4 st4 kvs ob, Same F1 F4 ∧ Rel K C F4 st4 (wipe σ vs) H' ∧ H' Dd = some ob ∧ Aside C F4 st4 (wipe σ vs) Dd ∧ DR K F4 Dd ob kvs ∧
        (∀ i ∈ vs, st4[i]? = some Slot.no) ∧ dcmL u tt tk tv vs (a.1.drop (i + 1)) st4 kvs = some w, fun H' ⟨F4, st4, kvs, ob, k⟩ => ⟨a.1.length - (i + 1), by omega, rfl, hlt, F4, st4, kvs, ob, k⟩, fun x H3 hy => ?_⟩
      obtain ⟨G, hG, hh, hx⟩ := J1.yld i H2 x H3 _ hd (s2.trans R2.fh) hy
      obtain ⟨gr, sg⟩ := over_gr R2.fh hG hh
      have R3 := (R2.into A2 h2).grow gr
      refine kg (C.atO Dd ob) x (wipe σ vs) H3 _ ⟨over G F2, st2, _, st3, R3, hx _ (s2.trans gr.ff) sg, e3, fun σ4 H4 F4 s4 R4 l4 k4 => ⟨wipe_eq l4 k4 hts, ?_⟩⟩
      have up4 : Same F1 F4 := (s2.trans gr.ff).trans s4
      have w4 : wipe σ4 vs = wipe σ vs := wipe_eq l4 k4 hts
      have no_of : ∀ (stx : AS), stx.length = σ4.length → ∀ j ∈ vs, (Xm.clr stx vs)[j]? = some Slot.no := fun stx hlx j hj => by
        rw [clr_get, if_pos]
        refine ⟨hj, ?_⟩
        have z := (List.getElem?_eq_some_iff.mp (n2 j hj)).1
        have z2 := R2.len
        rw [hlx, l4]
        omega
      have apC : ∀ {stx : AS}, stx.length = σ4.length → (∀ j, Mu stx j → σ4[j]? ≠ some (some (.ref Dd))) → ∀ j, Mu (Xm.clr stx vs) j → (wipe σ vs)[j]? ≠ some (some (.ref Dd)) := fun {stx} hlx ap j hj z => by
        rw [← w4, wipe_get] at z
        split at z
        · cases z
        · rename_i hz
          refine ap j ?_ z
          unfold Mu at hj ⊢
          rw [clr_get, if_neg (fun q => hz ⟨q.1, by omega⟩)] at hj
          exact hj
      refine kt (C.atO Dd ob) σ4 H4 _ ⟨F4, st3, c, R4, ec, fun H5 F5 s5 R5 => ?_⟩
      have up5 : Same F1 F5 := up4.trans s5
      have u25 : Same F2 F5 := (gr.ff.trans s4).trans s5
      dsimp only
      split
      · rename_i hc
        rw [if_pos hc] at e5
        obtain ⟨ky, ek, e6⟩ := Option.bind_eq_some_iff.mp e5
        obtain ⟨y, ey, e7⟩ := Option.bind_eq_some_iff.mp e6
        obtain ⟨kvs', ep, e8⟩ := Option.bind_eq_some_iff.mp e7
        refine kk (C.atO Dd ob) σ4 H5 _ ⟨F5, c.2, ky, R5, ek, fun kv H6 F6 s6 R6 dk => ?_⟩
        refine ke (C.atO Dd ob) σ4 H6 _ ⟨F6, ky.2, y, R6, ey, fun yv H7 F7 s7 R7 dy => ?_⟩
        obtain ⟨R8, A8, h8⟩ := R7.outof A1.h0 hF0 A1.pn
        have u27 : Same F2 F7 := (u25.trans s6).trans s7
        refine ⟨F7, kvs, ob, ky.1, y.1, kvs', h8, d2.up u27, R8.fh, Dp_up dk s7, dy, ep, fun u' dr' => ?_⟩
        have R9 := (R8.write (o := u') A8).clr (vs := vs)
        rw [w4] at R9
        exact ⟨F7, Xm.clr y.2 vs, kvs', u', (up5.trans s6).trans s7, R9, upd_same, ⟨A8.h0, A8.f, A8.pn, apC R7.len A8.ap⟩, dr', no_of _ R7.len, e8⟩
      · rename_i hc
        rw [if_neg hc] at e5
        obtain ⟨R7, A7, h7⟩ := R5.outof A1.h0 hF0 A1.pn
        have R8 := R7.clr (vs := vs)
        rw [w4] at R8
        exact ⟨F5, Xm.clr c.2 vs, kvs, ob, up5, R8, h7, ⟨A7.h0, A7.f, A7.pn, apC R5.len A7.ap⟩, d2.up u25, no_of _ R5.len, e5⟩
    · have e3 : i = a.1.length := by omega
      subst e3
      rw [List.drop_length] at e2
      cases e2
      have Rb : Rel K C F2 st2 σ H2 := R2.slots (wipe_length σ vs).symm fun i hi => by
        rw [wipe_get, if_neg]
        rintro ⟨z1, z2⟩
        exact hi (n2 i z1)
      refine .inl ⟨J1.stop H2 (s2.trans R2.fh), q Dd ob H2 F2 (s1.trans s2) Rb A2.h0 A2.f h2 d2 (fun j hj z => ?_)⟩
      refine A2.ap j hj ?_
      rw [wipe_get, if_neg]
      · exact z
      · rintro ⟨z1, z2⟩
        have z3 := n2 j z1
        obtain ⟨s0, hx, hm⟩ := hj
        rw [z3] at hx
        cases hx
        cases hm
  · cases e
section
variable {X : Cx} {C : Ct} {pos spos py : Pos} {kx vx tg iter : Expr} {ifs : List Expr} {scope : Scope} {own : List (Str × Nat)} {it : LF} {u : D → AS → Option AS} {ts : List Nat} {tt : BF} {tk tv : EF} {vs : List Nat} {i : Nat} {y : Str}
theorem xm_dc (hu : X.A.units + 65 < cLine) (hN : X.N.Nodup) (hi : PI X tg iter (iOf (kxOf X) C it)) (ok : BlkOk X.N X.env.scope scope own)
    (hg : ∀ (C : Ct) (s : Shared) (H : Hp) (c : Addr) (cl : List (Str × Addr)) (fp : List Addr), PG (X.blk s H scope (compEnvC scope cl c X.env) fp) tg (gOf (kxOf X) C u ts))
    (ht : ∀ (C : Ct) (s : Shared) (H : Hp) (c : Addr) (cl : List (Str × Addr)) (fp : List Addr), PTs (X.blk s H scope (compEnvC scope cl c X.env) fp) ifs (bOf (kxOf X) C tt))
    (hk : ∀ (C : Ct) (s : Shared) (H : Hp) (c : Addr) (cl : List (Str × Addr)) (fp : List Addr), PE (X.blk s H scope (compEnvC scope cl c X.env) fp) kx (dOf (kxOf X) C tk))
    (he : ∀ (C : Ct) (s : Shared) (H : Hp) (c : Addr) (cl : List (Str × Addr)) (fp : List Addr), PE (X.blk s H scope (compEnvC scope cl c X.env) fp) vx (dOf (kxOf X) C tv))
    (hvs : own.map (·.2) = vs := by rfl) (hts : ∀ j ∈ ts, j ∈ vs := by decide) (hc : X.calm = true := by rfl) (hs : ∀ x, foldedSetIterable iter X.env x = pure x := by intro _; rfl) :
    PE X (.DictComp kx vx [⟨tg, iter, ifs, 0⟩] scope pos) (mOf (kxOf X) C (compM it u tt tk tv vs)) := by
  subst hvs
  exact pe_wk (pe_dcG (ps := psD (kxOf X)) (g := fun v σ H Q => ∃ C, gOf (kxOf X) C u ts v σ H Q) (tt := fun σ H Q => ∃ C, bOf (kxOf X) C tt σ H Q) (tk := fun σ H Q => ∃ C, dOf (kxOf X) C tk σ H Q) (tv := fun σ H Q => ∃ C, dOf (kxOf X) C tv σ H Q) hc hN hi ok
    (fun s H c cl fp => d_dset hu)
    (fun s H c cl fp => ⟨fun pins s1 σ H1 v uu Q I r ⟨C1, q⟩ => (hg C1 s H c cl fp).run pins s1 σ H1 v uu Q I r q⟩)
    (fun s H c cl fp => ⟨fun pins s1 σ H1 Q I ⟨C1, q⟩ => (ht C1 s H c cl fp).run pins s1 σ H1 Q I q⟩)
    (fun s H c cl fp => ⟨fun pins s1 σ H1 Q I ⟨C1, q⟩ => (hk C1 s H c cl fp).run pins s1 σ H1 Q I q⟩)
    (fun s H c cl fp => ⟨fun pins s1 σ H1 Q I ⟨C1, q⟩ => (he C1 s H c cl fp).run pins s1 σ H1 Q I q⟩) hs)
    fun σ H Q q => dcm_ok hts _ _ _ _ (fun C _ _ _ _ k => ⟨C, k⟩) (fun C _ _ _ k => ⟨C, k⟩) (fun C _ _ _ k => ⟨C, k⟩) (fun C _ _ _ k => ⟨C, k⟩) q
end
def enD (xs : List D) : List D := xs.mapIdx fun i x => .tuple [.int (i : Int), x]
def itEnumerate (f : EF) : LF := fun st => (f st).bind fun a => match a.1 with
  | .list xs => some (enD xs, a.2)
  | _ => none
theorem ite_ok {K : Kx} {F : Hp} {a : Addr} {vs : List V} {xs : List D} (hs : SqL K.K F a vs) (hv : DpAll K F vs xs) : ItOk K F (Ite K.K a) (enD xs) where
  go := fun i H hi e => by
    have hi : i < xs.length := by simpa [enD] using hi
    exact ⟨vs, vs[i]'(by rw [DpAll_len hv]; exact hi), sql_up e hs, by simp⟩
  stop := fun H e => ⟨vs, sql_up e hs, by simp [enD, DpAll_len hv]⟩
  yld := fun i H x H' d hd e y => by
    obtain ⟨T, x, rfl, hT, rfl, h⟩ := y
    unfold enD at hd
    rw [List.getElem?_mapIdx] at hd
    obtain ⟨dx, k1, rfl⟩ := Option.map_eq_some_iff.mp hd
    obtain ⟨v, g1, g2⟩ := DpAll_get hv k1
    have e1 := h vs (sql_up e hs)
    rw [g1] at e1
    cases e1
    exact pair_new (.int _) g2 hT
section
variable {X : Cx} {C : Ct} {pos p tpos : Pos} {elts : List Expr} {kk : Nat} {a : Expr} {f : EF}
theorem xi_enumerate (hm : X.mg "enumerate" = none) (ha : PE X a (dOf (kxOf X) C f)) (hg : Gl X "enumerate" := by rfl) (hs : starEach [a] X.env = [(false, eval a X.env)] := by rfl) :
    PI X (.Tuple elts kk tpos) (.Call (.Name "enumerate" p) [a] [] pos) (iOf (kxOf X) C (itEnumerate f)) :=
  pi_wk (pi_enum hg hm (pa_cons ha pa_nil hs) hs) fun σ H R q => by
    obtain ⟨F, st, w, Rl, e, q⟩ := q
    obtain ⟨x, ex, e⟩ := Option.bind_eq_some_iff.mp e
    refine ⟨F, st, x, Rl, ex, fun v H1 F1 s1 R1 d1 => ?_⟩
    split at e
    · rename_i xs hx
      cases e
      rw [hx] at d1
      cases d1 with
      | lst h1 h2 => exact ⟨_, _, rfl, sql_up R1.fh h1, q _ H1 F1 s1 R1 (ite_ok h1 h2)⟩
    · cases e
end
theorem wp_itEnum {st : AS} {f : EF} {QL : List D → AS → Prop} (w : Wp f st fun d s1 => ∃ xs, d = .list xs ∧ QL (enD xs) s1) : Wp (itEnumerate f) st QL := by
  obtain ⟨d, s1, e, xs, rfl, q⟩ := w
  exact ⟨_, _, by unfold itEnumerate; rw [e]; rfl, q⟩
theorem fnG_none {P : Program} {w : World} {K : PySem.W.Frag} {mg : Str → Option Value} {base : Heap} {CX : CXT} {k n : Nat} {f : Addr} {fd : FuncData} {ps : List Str} (h : ps.length = n) : FnG P w K mg base CX k f fd ps (spP ⟨K, P, w, mg⟩ n fun _ => none) where
  arity := fun vs H Q E q => q.1.trans h.symm
  go := fun A outer s H args us vs Q E _ _ _ _ _ q => by
    obtain ⟨_, F, ds, r, _, _, e, _⟩ := q
    cases e
def extN (i : Nat) (g : LF) : EF := fun st => (muC st i).bind fun _ => (g st).bind fun b => (muC b.2 i).bind fun xs => if xs.length + b.1.length ≤ sizeLine then some (.none, putM b.2 i (xs ++ b.1)) else none
section
variable {X : Cx} {C : Ct} {pos p apos cpos : Pos} {o e : Expr} {g : LF}
theorem xd_extendN {i : Nat} (ho : PE X o (tVar i)) (he : PE X e (nOf (kxOf X) C g)) (hs : starEach [e] X.env = (false, eval e X.env) :: starEach [] X.env := by rfl) (hbase : attributeBase o "extend" X.env (eval o X.env) = eval o X.env := by rfl)
    (hfew : ((backTo cpos (starEach [e] X.env)).all (fun x => !x.1) && (backToKw cpos (keywordEach [] X.env)).all (fun x => x.1.isSome) && decide ([e].length + ([] : List Keyword).length + (if ([] : List Keyword).isEmpty then 0 else 1) < 30)) = true := by rfl)
    (hline : (apos.endLine == cpos.line) = true := by rfl) (hplain : (backTo cpos (starEach [] X.env)).any (·.1) = false := by rfl) :
    PE X (.Call (.Attribute o "extend" apos) [e] [] cpos) (dOf (kxOf X) C (extN i g)) :=
  pe_wk (pe_bm PySem.F.plainAttrs_list PySem.F.slot_list_extend PySem.F.type_list_extend mt_extend ho (pa_cons he pa_nil hs) hbase hfew hline hs hplain) fun σ H Q q => by
    obtain ⟨F, st, w, R, e, q⟩ := q
    obtain ⟨x0, e0, e⟩ := Option.bind_eq_some_iff.mp e
    obtain ⟨b, eb, e⟩ := Option.bind_eq_some_iff.mp e
    obtain ⟨xs, ex, e⟩ := Option.bind_eq_some_iff.mp e
    split at e
    · rename_i hl
      cases e
      obtain ⟨a, h1, ⟨hF0, vs0, hH0, hv0⟩, _⟩ := R.mu e0
      refine ⟨.ref a, h1, .inl ⟨rfl, _, .inl (.inl hH0)⟩, F, st, b, R, eb, fun y ys H1 F1 s1 R1 hy0 hyF hyH hyA d1 => ?_⟩
      obtain ⟨a', h1', ⟨hF, vs, hH, hv⟩, _⟩ := R1.mu ex
      rw [h1] at h1'
      cases h1'
      exact ⟨a, y, vs, ys, rfl, rfl, hH, hyH, by rw [DpAll_len hv, DpAll_len d1]; exact hl, q .non _ F1 s1 (R1.put ex h1 (DpAll_app hv d1)) .non⟩
    · cases e
end
theorem wp_extN {st : AS} {g : LF} {i : Nat} {xs : List D} {QD : D → AS → Prop} (e0 : muC st i = some xs) (w : Wp g st fun ys s1 => ∃ zs, muC s1 i = some zs ∧ zs.length + ys.length ≤ sizeLine ∧ QD .none (putM s1 i (zs ++ ys))) : Wp (extN i g) st QD := by
  obtain ⟨ys, s1, e1, zs, e2, h, q⟩ := w
  exact ⟨_, _, by unfold extN; simp only [e0, e1, e2, Option.bind_some]; rw [if_pos h], q⟩
end Xm
set_option Elab.async false
set_option linter.all false
set_option maxRecDepth 100000
set_option maxHeartbeats 2000000
namespace Xm
open PySem PySem.Spec PyProof.Rows L2
def seqB : D → Bool
  | .tuple _ => true
  | .list _ => true
  | _ => false
def cmpB (a b : D) : Bool := seqB a && PySem.W.alike a b && a.plain && b.plain && decide (a.depth ≤ 60) && decide (b.depth ≤ 60)
structure Cmp (a b : D) : Prop where
  ne : a ≠ .none
  al : PySem.W.alike a b = true
  pa : a.plain = true
  pb : b.plain = true
  da : a.depth ≤ 60
  db : b.depth ≤ 60
theorem cmp_of {a b : D} (h : cmpB a b = true) : Cmp a b := by
  simp only [cmpB, Bool.and_eq_true, decide_eq_true_eq] at h
  obtain ⟨⟨⟨⟨⟨h1, h2⟩, h3⟩, h4⟩, h5⟩, h6⟩ := h
  exact ⟨(fun z => by subst z; cases h1), h2, h3, h4, h5, h6⟩
def rLtD (K : Kx) : R2 := fun x y H Q => ∃ F d e, Same F H ∧ Dp K F x d ∧ Dp K F y e ∧ Cmp d e ∧ Q (.bl (PySem.W.dataLt d e)) H
def kLtT (a b : D) : Option D := if cmpB a b = true then some (.bool (PySem.W.dataLt a b)) else none
section
variable {X : Cx}
theorem op_ltD (hu : X.A.units + 65 < cLine) : OpR X (compareOp .Lt) (rLtD (kxOf X)) := by
  intro pins s σ H x y v u Q I rx ry h
  obtain ⟨F, d, e, fh, hd, he, c, q⟩ := h
  obtain ⟨as, r1⟩ := Dp.reads I d x v c.pa (Dp_up hd fh) rx
  obtain ⟨bs, r2⟩ := Dp.reads I e y u c.pb (Dp_up he fh) ry
  have := Nat.min_le_left d.depth e.depth
  have := c.da
  exact PySem.W.lt_data r1 r2 c.al c.ne (by omega) ⟨.bl _, H, I, rfl, q⟩
end
theorem ok_ltT {K : Kx} : Ok2 K (rLtD K) kLtT := fun F H x y a b z Q fh hx hy e q => by
  unfold kLtT at e
  split at e <;> cases e
  rename_i h
  exact ⟨F, a, b, fh, hx, hy, cmp_of h, q _ F H (Gr.refl fh) (.bl _)⟩
section
variable {X : Cx} {C : Ct} {pos : Pos} {a b : Expr} {f g : EF}
theorem xt_ltT (hu : X.A.units + 65 < cLine) (ha : PE X a (dOf (kxOf X) C f)) (hb : PE X b (dOf (kxOf X) C g)) : PT X (.Compare a [.Lt] [b] pos) (bOf (kxOf X) C (valB (bin2 kLtT f g))) := xt_cmp (op_ltD hu) ok_ltT ha hb (nomark _)
end
section
variable {prog : Program} {w : World} {A : Around} {E : Value → Shared → Prop} {s : Shared}
end
section
variable {X : Cx}
end
section
variable {X : Cx} {C : Ct} {pos p : Pos} {a b : Expr} {g : LF}
end
def lexN : List Nat → List Nat → Bool
  | [], [] => false
  | [], _ :: _ => true
  | _ :: _, [] => false
  | x :: r, y :: t => decide (x < y) || (decide (x = y) && lexN r t)
end Xm
set_option Elab.async false
set_option linter.all false
set_option maxRecDepth 100000
set_option maxHeartbeats 2000000
namespace Xm
open PySem PySem.Spec PyProof.Rows L2 PySem.W PySem.F
section
variable {prog : Program} {w : World} {A : Around} {E : Value → Shared → Prop} {s : Shared}
end
section
variable {X : Cx} {C : Ct} {pos p : Pos} {a : Expr} {f : EF}
end
end Xm
set_option Elab.async false
set_option linter.all false
set_option maxRecDepth 100000
namespace ExF
open PySem PySem.Spec PyProof.Rows L2 Xm DwF CrF
noncomputable section
end
def swN (js : List Nat) (i j : Nat) : List Nat := js.take i ++ ((js.drop i).take (j + 1 - i)).reverse ++ js.drop (j + 1)
def exN (js : List Nat) : List (List Nat) := ((List.range js.length).map fun i => (List.range (js.length - (i + 1))).map fun k => swN js i (i + 1 + k)).flatten
theorem len_cols (js : List Nat) : (cols js).length = js.length := by unfold cols; simp
def fw (rows : List (List D)) (js : List Nat) : List (List Nat) := (exN js).filter fun l => decide (tot rows l < tot rows js)
theorem Rk.shaped {k n : Nat} {d : D} (h : Rk k n d) (hk : k ≤ 64) : SeqAt.shaped d = true := by
  unfold SeqAt.shaped
  rw [h.cl, decide_eq_true (Nat.le_trans h.dp hk)]
  rfl
theorem rk_cols {l : List Nat} (h : ∀ x ∈ l, x < 6) : ∃ n, Rk 1 n (.tuple (cols l)) := ⟨_, Rk.tuple (k := 0) (n := 600) fun d hd => by
  unfold cols at hd
  obtain ⟨x, hx, rfl⟩ := List.mem_map.mp hd
  have := h x hx
  refine Rk.int (Nat.lt_of_lt_of_le (m := 2 ^ 3) ?_ (Nat.pow_le_pow_right (by omega) (by omega)))
  omega⟩
theorem alt_le : ∀ l : List Int, alt l ≤ l.length
  | [] => Nat.le_refl _
  | [_] => Nat.zero_le _
  | x :: y :: l => by
    have := alt_le (y :: l)
    simp only [alt, List.length_cons] at this ⊢
    split <;> omega
theorem tot_le {js : List Nat} (hl : js.length ≤ 6) : ∀ rows : List (List D), tot rows js ≤ 6 * rows.length
  | [] => by simp [tot]
  | r :: rows => by
    have h := tot_le hl rows
    have a := alt_le (kn r js)
    have b : (kn r js).length ≤ js.length := List.length_filterMap_le _ _
    show ((alt (kn r js) : Nat) : Int) + tot rows js ≤ _
    rw [List.length_cons]
    omega
end ExF
set_option Elab.async false
set_option linter.all false
set_option maxRecDepth 100000
namespace LxF
open PySem PySem.Spec PyProof.Rows L2 Xm DwF CrF ExF
abbrev tc (l : List Nat) : D := .tuple (cols l)
theorem dlt_cols : ∀ a b : List Nat, PyProof.Rows.lexLt itemOrd (PySem.W.keyToksAll (cols a)) (PySem.W.keyToksAll (cols b)) = lexN a b
  | [], [] => by rfl
  | [], y :: t => by rfl
  | x :: r, [] => by rfl
  | x :: r, y :: t => by
    have ih := dlt_cols r t
    show PyProof.Rows.lexLt itemOrd (.inl 1 :: .inl (x : Int) :: PySem.W.keyToksAll (cols r)) (.inl 1 :: .inl (y : Int) :: PySem.W.keyToksAll (cols t)) = _
    rw [PyProof.Rows.lex_self (O := itemOrd), PyProof.Rows.lex_cons (O := itemOrd), ih]
    show (decide ((x : Int) < y) || (!decide ((y : Int) < x) && lexN r t)) = (decide (x < y) || (decide (x = y) && lexN r t))
    by_cases h1 : x < y
    · have : (x : Int) < y := by omega
      simp [h1, this]
    · by_cases h2 : x = y
      · subst h2; simp
      · have h3 : y < x := by omega
        have : (y : Int) < x := by omega
        have h4 : ¬ (x : Int) < y := by omega
        simp [h1, h2, this, h4]
theorem dlt (a b : List Nat) : PySem.W.dataLt (tc a) (tc b) = lexN a b := dlt_cols a b
theorem alike_cols : ∀ a b : List Nat, PySem.W.alikeAll (cols a) (cols b) = true
  | [], b => by unfold cols; simp [PySem.W.alikeAll]
  | x :: r, [] => by unfold cols; simp [PySem.W.alikeAll]
  | x :: r, y :: t => by
    have := alike_cols r t
    unfold cols at this ⊢
    simp [PySem.W.alikeAll, PySem.W.alike, this]
theorem alike_tc (a b : List Nat) : PySem.W.alike (tc a) (tc b) = true := by
  show PySem.W.alikeAll (cols a) (cols b) = true
  exact alike_cols a b
theorem plain_cols : ∀ a : List Nat, PyData.plainAll (cols a) = true ∧ PyData.depthAll (cols a) = 0
  | [] => ⟨rfl, rfl⟩
  | x :: r => by
    obtain ⟨h1, h2⟩ := plain_cols r
    refine ⟨?_, ?_⟩
    · show (PyData.plain (.int x) && PyData.plainAll (cols r)) = true
      rw [h1]; rfl
    · show max (PyData.depth (.int x)) (PyData.depthAll (cols r)) = 0
      rw [h2]; rfl
theorem plain_tc (a : List Nat) : (tc a).plain = true ∧ (tc a).depth ≤ 1 := ⟨(plain_cols a).1, by
  show (PyData.depthAll (cols a)) + 1 ≤ 1
  rw [(plain_cols a).2]
  omega⟩
theorem cmp_tc (a b : List Nat) : cmpB (tc a) (tc b) = true := by
  have h1 := plain_tc a
  have h2 := plain_tc b
  unfold cmpB
  rw [alike_tc, h1.1, h2.1, decide_eq_true (by omega : (tc a).depth ≤ 60), decide_eq_true (by omega : (tc b).depth ≤ 60)]
  rfl
theorem k_ltT (a b : List Nat) : kLtT (tc a) (tc b) = some (.bool (lexN a b)) := by
  unfold kLtT
  rw [if_pos (cmp_tc a b), dlt]
theorem lex_tri : ∀ a b : List Nat, lexN a b = true ∨ a = b ∨ lexN b a = true
  | [], [] => .inr (.inl rfl)
  | [], _ :: _ => .inl rfl
  | _ :: _, [] => .inr (.inr rfl)
  | x :: r, y :: t => by
    rcases Nat.lt_trichotomy x y with h | h | h
    · exact .inl (by simp [lexN, h])
    · subst h
      rcases lex_tri r t with h | h | h
      · exact .inl (by simp [lexN, h])
      · subst h; exact .inr (.inl rfl)
      · exact .inr (.inr (by simp [lexN, h]))
    · exact .inr (.inr (by simp [lexN, h]))
def leN (a b : List Nat) : Bool := !lexN b a
def srt (ls : List (List Nat)) : List (List Nat) := ls.mergeSort leN
theorem srt_perm (ls : List (List Nat)) : (srt ls).Perm ls := List.mergeSort_perm ls leN
theorem dle (a b : List Nat) : PySem.W.dataLe false id (tc a) (tc b) = leN a b := by
  show (!PyProof.Rows.lexLt itemOrd (PySem.W.keyToksAll (cols b)) (PySem.W.keyToksAll (cols a))) = _
  rw [dlt_cols]
  rfl
theorem dSort_lines (ls : List (List Nat)) : dSort (ls.map tc) = (srt ls).map tc := by
  unfold dSort srt
  rw [List.map_mergeSort (r := leN) (s := PySem.W.dataLe false id) (f := tc)]
  intro a _ b _
  exact (dle a b).symm
theorem k_sortedL {ls : List (List Nat)} (h : ls.length ≤ sizeLine) (hn : ∀ l ∈ ls, l ≠ []) : kSorted (.list (ls.map tc)) = some (.list ((srt ls).map tc)) := by
  show (if allAlikeB (ls.map tc) = true ∧ sortableB (ls.map tc) = true ∧ (ls.map tc).length ≤ sizeLine ∧ (ls.map tc).all (fun d => decide (d.depth ≤ 60) && d.plain) = true then some (PyData.list (dSort (ls.map tc))) else none) = _
  rw [if_pos, dSort_lines]
  refine ⟨?_, ?_, by rw [List.length_map]; exact h, ?_⟩
  · unfold allAlikeB
    rw [List.all_eq_true]
    intro d hd
    rw [List.all_eq_true]
    intro d' hd'
    obtain ⟨i, _, rfl⟩ := List.mem_map.mp hd
    obtain ⟨j, _, rfl⟩ := List.mem_map.mp hd'
    exact alike_tc i j
  · unfold sortableB
    rw [Bool.or_eq_true]
    refine .inl (List.all_eq_true.mpr fun d hd => ?_)
    obtain ⟨l, hl, rfl⟩ := List.mem_map.mp hd
    cases l with
    | nil => exact absurd rfl (hn [] hl)
    | cons x r => rfl
  · refine List.all_eq_true.mpr fun d hd => ?_
    obtain ⟨l, _, rfl⟩ := List.mem_map.mp hd
    have := plain_tc l
    rw [this.1, decide_eq_true (by omega)]
    rfl
theorem not_pal {l : List Nat} (h : l.Nodup) (h2 : 2 ≤ l.length) : l ≠ l.reverse := fun e => by
  have h0 : 0 < l.length := by omega
  have e1 : l[0]? = l.reverse[0]? := by rw [← e]
  rw [List.getElem?_reverse h0, List.getElem?_eq_getElem h0, List.getElem?_eq_getElem (by omega)] at e1
  exact List.pairwise_iff_getElem.mp h 0 (l.length - 1 - 0) h0 (by omega) (by omega) (Option.some.inj e1)
theorem one_way {l : List Nat} (h : l.Nodup) (h2 : 2 ≤ l.length) : lexN l l.reverse = true ∨ lexN l.reverse l.reverse.reverse = true := by
  rcases lex_tri l l.reverse with h1 | h1 | h1
  · exact .inl h1
  · exact absurd h1 (not_pal h h2)
  · exact .inr (by rw [List.reverse_reverse]; exact h1)
def allN : Nat → List Nat → List (List Nat)
  | 0, _ => []
  | k + 1, l => if l = [] then [[]] else (l.zipIdx.map fun p => (allN k (l.take p.2 ++ l.drop (p.2 + 1))).map (p.1 :: ·)).flatten
theorem out_perm {l : List Nat} {i : Nat} {x : Nat} (h : l[i]? = some x) : l.Perm (x :: (l.take i ++ l.drop (i + 1))) := by
  obtain ⟨hi, rfl⟩ := List.getElem?_eq_some_iff.mp h
  have e : l = l.take i ++ l[i] :: l.drop (i + 1) := by
    rw [List.getElem_cons_drop hi, List.take_append_drop]
  exact (List.Perm.of_eq e).trans List.perm_middle
theorem zip_mem {l : List Nat} {p : Nat × Nat} : p ∈ l.zipIdx ↔ l[p.2]? = some p.1 := by
  obtain ⟨x, i⟩ := p
  rw [List.mem_zipIdx_iff_getElem?]
theorem all_mem : ∀ (k : Nat) (l p : List Nat), l.length < k → (p ∈ allN k l ↔ p.Perm l)
  | 0, l, p, h => by omega
  | k + 1, l, p, h => by
    unfold allN
    by_cases e : l = []
    · subst e
      rw [if_pos rfl, List.mem_singleton]
      exact ⟨fun h => by rw [h], fun h => h.eq_nil⟩
    · rw [if_neg e, List.mem_flatten]
      constructor
      · rintro ⟨ls, h1, h2⟩
        obtain ⟨⟨x, i⟩, hp, rfl⟩ := List.mem_map.mp h1
        obtain ⟨q, hq, rfl⟩ := List.mem_map.mp h2
        have hx := zip_mem.mp hp
        have hi := (List.getElem?_eq_some_iff.mp hx).1
        have ih := (all_mem k (l.take i ++ l.drop (i + 1)) q (by simp; omega)).mp hq
        exact (List.Perm.cons x ih).trans (out_perm hx).symm
      · intro hp
        cases p with
        | nil => exact absurd hp.symm.eq_nil e
        | cons x q =>
          obtain ⟨i, hi, rfl⟩ := List.getElem_of_mem (hp.subset (.head _))
          have hx : l[i]? = some l[i] := List.getElem?_eq_getElem hi
          refine ⟨_, List.mem_map.mpr ⟨(l[i], i), zip_mem.mpr hx, rfl⟩, List.mem_map.mpr ⟨q, ?_, rfl⟩⟩
          exact (all_mem k _ q (by simp; omega)).mpr ((List.perm_cons _).mp (hp.trans (out_perm hx)))
theorem all_nodup : ∀ (k : Nat) (l : List Nat), l.Nodup → (allN k l).Nodup
  | 0, l, _ => List.nodup_nil
  | k + 1, l, h => by
    unfold allN
    by_cases e : l = []
    · rw [if_pos e]; simp
    · rw [if_neg e]
      unfold List.Nodup
      rw [List.pairwise_flatten]
      refine ⟨fun ls hl => ?_, ?_⟩
      · obtain ⟨⟨x, i⟩, hp, rfl⟩ := List.mem_map.mp hl
        have hx := zip_mem.mp hp
        have h2 : (l.take i ++ l.drop (i + 1)).Nodup := (List.nodup_cons.mp ((out_perm hx).nodup_iff.mp h)).2
        rw [List.pairwise_map]
        exact (all_nodup k _ h2).imp fun {a b} hab z => hab (List.cons.inj z).2
      · rw [List.pairwise_map]
        have hz : l.zipIdx.Pairwise fun p q => p.1 ≠ q.1 := by
          have : (l.zipIdx.map Prod.fst).Pairwise (· ≠ ·) := by rw [List.zipIdx_map_fst]; exact h
          exact List.pairwise_map.mp this
        refine hz.imp fun {p q} hpq a ha b hb z => ?_
        obtain ⟨a', _, rfl⟩ := List.mem_map.mp ha
        obtain ⟨b', _, rfl⟩ := List.mem_map.mp hb
        exact hpq (List.cons.inj z).1
theorem all_len : ∀ (k : Nat) (l : List Nat), l.length ≤ 6 → (allN k l).length ≤ 6 ^ l.length
  | 0, l, _ => Nat.zero_le _
  | k + 1, l, h => by
    unfold allN
    by_cases e : l = []
    · subst e; simp
    · rw [if_neg e, List.length_flatten, List.map_map]
      have hl : 1 ≤ l.length := List.length_pos_iff.mpr e
      have gen : ∀ zs : List (Nat × Nat), (∀ p ∈ zs, p ∈ l.zipIdx) → (zs.map (List.length ∘ fun p : Nat × Nat => (allN k (l.take p.2 ++ l.drop (p.2 + 1))).map (p.1 :: ·))).sum ≤ zs.length * 6 ^ (l.length - 1) := fun zs => by
        induction zs with
        | nil => intro _; simp
        | cons p zs ih =>
          intro hz
          have i2 := ih fun q hq => hz q (.tail _ hq)
          have hx := zip_mem.mp (hz p (.head _))
          have hi := (List.getElem?_eq_some_iff.mp hx).1
          have hle : (l.take p.2 ++ l.drop (p.2 + 1)).length = l.length - 1 := by simp; omega
          have i1 := all_len k (l.take p.2 ++ l.drop (p.2 + 1)) (by omega)
          rw [hle] at i1
          simp only [List.map_cons, List.sum_cons, Function.comp, List.length_map, List.length_cons] at i2 ⊢
          rw [Nat.succ_mul]
          omega
      have := gen l.zipIdx fun _ h => h
      rw [List.length_zipIdx] at this
      refine Nat.le_trans this ?_
      have e2 : 6 ^ l.length = 6 * 6 ^ (l.length - 1) := by
        conv => lhs; rw [show l.length = (l.length - 1) + 1 by omega]
        rw [Nat.pow_succ, Nat.mul_comm]
      rw [e2]
      exact Nat.mul_le_mul_right _ h
end LxF
set_option Elab.async false
set_option linter.all false
set_option maxRecDepth 100000
namespace BoF
open PySem PySem.Spec PyProof.Rows L2 Xm DwF CrF ExF LxF
theorem eqv_cols : ∀ a b : List Nat, PyData.eqvAll (cols a) (cols b) = decide (a = b)
  | [], [] => by rfl
  | [], y :: t => by simp [cols, PyData.eqvAll]
  | x :: r, [] => by simp [cols, PyData.eqvAll]
  | x :: r, y :: t => by
    have ih := eqv_cols r t
    unfold cols at ih ⊢
    simp only [List.map_cons, PyData.eqvAll, ih]
    have : PyData.eqv (.int (x : Int)) (.int (y : Int)) = decide (x = y) := by
      simp only [PyData.eqv]
      by_cases h : x = y
      · subst h; simp
      · have : ¬ (x : Int) = y := by omega
        simp [h, this]
    rw [this]
    by_cases h : x = y <;> by_cases h2 : r = t <;> simp [h, h2]
theorem shaped_tc (a : List Nat) (h : ∀ x ∈ a, x < 6) : SeqAt.shaped (tc a) = true := by
  obtain ⟨n, r⟩ := rk_cols h
  exact ExF.Rk.shaped r (by omega)
end BoF
set_option Elab.async false
set_option linter.all false
set_option maxRecDepth 100000
set_option maxHeartbeats 2000000
namespace BoF
open PySem PySem.Spec PyProof.Rows L2 Xm DwF CrF ExF LxF
noncomputable section
def g_all_orders (mf_all_orders : List D → Option RV) : SF := (seqS (ifS (valB (bin2 kEq (rd 0) (lstF nilA))) (retN (newF (consA (tupF nilA) nilA))) skipS) (seqS (asgN 1 (newF nilA)) (seqS (forS (itEnumerate (rd 0)) (tupT 2 (consT (setD 2) (consT (setD 3) nilT))) (clrS [2, 3] (dropS (extN 1 (compF (itD (rvD (callP mf_all_orders [] (consA (bin2 kCat (cutF (rd 0) noO (someO (rd 2))) (cutF (rd 0) (someO (bin2 kCat (rd 2) (cst (.int 1)))) noO)) nilA)))) (setD 4) yesB (bin2 kCat (tupF (consA (rd 3) nilA)) (rd 4)) [4]))))) (retM 1))))
def mr_all_orders : Nat → List D → Option RV
  | 0 => fun _ => none
  | k + 1 => runP (g_all_orders (mr_all_orders k)) 5
def mf_all_orders := mr_all_orders 8
theorem e_all_orders (k : Nat) : ∀ ds r, ds.length = 1 → mr_all_orders (k + 1) ds = some r → Leaves (g_all_orders (mr_all_orders k)) (st0 5 ds) r fun _ => True := runP_ok
def g_orders_of : SF := (retN (compF (itD (rvD (callP mf_all_orders [] (consA (listE (lstR1 (rd 0))) nilA)))) (setD 1) (valB (bin2 kLtT (rd 1) (revA (rd 1)))) (rd 1) [1]))
def mf_orders_of := runP g_orders_of 2
theorem e_orders_of : ∀ ds r, ds.length = 1 → mf_orders_of ds = some r → Leaves g_orders_of (st0 2 ds) r fun _ => True := runP_ok
def g_best_orders : SF := (seqS (asgM 1 (compM (itD (rvD (callP mf_orders_of [] (consA (un1 kLen (bin2 kIx (rd 0) (cst (.int 0)))) nilA)))) (setD 3) yesB (rd 3) (rvD (callP mf_crossings [] (consA (rd 0) (consA (rd 3) nilA)))) [3])) (seqS (asgS 2 (un1 kMinV (frz 1))) (retS (tupF (consA (rd 2) (consA (un1 kSorted (listE (compF (itK (frz 1)) (setD 3) (valB (bin2 kEq (ixD 1 (rd 3)) (rd 2))) (rd 3) [3]))) nilA))))))
def mf_best_orders := runP g_best_orders 4
theorem e_best_orders : ∀ ds r, ds.length = 1 → mf_best_orders ds = some r → Leaves g_best_orders (st0 4 ds) r fun _ => True := runP_ok
end
theorem wp_bN {k : List D → Option D} {g : LF} {st : AS} {QD : D → AS → Prop} (w : Wp g st fun xs s1 => ∃ z, k xs = some z ∧ QD z s1) : Wp (bN k g) st QD := by
  obtain ⟨xs, s1, e, z, ez, q⟩ := w
  exact ⟨z, s1, by unfold bN; rw [e]; simp only [Option.bind_some, ez]; rfl, q⟩
theorem compL_map {α : Type} {u : D → AS → Option AS} {tt : BF} {te : EF} {vs : List Nat} (f : α → D) (p : α → Bool) (g : α → D) (S : AS) : ∀ as : List α, (∀ a ∈ as, ∃ s1, u (f a) S = some s1 ∧ tt s1 = some (p a, s1) ∧ (p a = true → ∃ s2, te s1 = some (g a, s2) ∧ Xm.clr s2 vs = S) ∧ (p a = false → Xm.clr s1 vs = S)) →
    compL u tt te vs (as.map f) S = some ((as.filter p).map g, S)
  | [], _ => rfl
  | a :: as, h => by
    have ih := compL_map f p g S as fun x hx => h x (.tail _ hx)
    obtain ⟨s1, e1, e2, h1, h2⟩ := h a (.head _)
    rw [List.map_cons]
    unfold compL
    rw [e1]
    simp only [Option.bind_some, e2]
    cases hp : p a with
    | true =>
      obtain ⟨s2, e3, e4⟩ := h1 hp
      rw [if_pos rfl, e3]
      simp only [Option.bind_some, e4, ih, Option.map_some, List.filter_cons, hp, if_pos]
      rfl
    | false =>
      rw [if_neg Bool.false_ne_true, h2 hp, ih, List.filter_cons, hp]
      rfl
theorem compL_all {α : Type} {u : D → AS → Option AS} {te : EF} {vs : List Nat} (f : α → D) (g : α → D) (S : AS) (as : List α) (h : ∀ a ∈ as, ∃ s1, u (f a) S = some s1 ∧ ∃ s2, te s1 = some (g a, s2) ∧ Xm.clr s2 vs = S) :
    compL u yesB te vs (as.map f) S = some (as.map g, S) := by
  have := compL_map (u := u) (tt := yesB) (te := te) (vs := vs) f (fun _ => true) g S as fun a ha => by
    obtain ⟨s1, e1, s2, e2, e3⟩ := h a ha
    exact ⟨s1, e1, rfl, fun _ => ⟨s2, e2, e3⟩, fun z => by cases z⟩
  rw [List.filter_eq_self.mpr fun _ _ => rfl] at this
  exact this
theorem k_eqNil (l : List Nat) (h : ∀ x ∈ l, x < 6) : kEq (.list (cols l)) (.list []) = some (.bool (decide (l = []))) := by
  show kEqD _ _ = _
  unfold kEqD
  have hs := shaped_tc l h
  have hs2 : SeqAt.shaped (.list (cols l)) = true := by
    unfold SeqAt.shaped at hs ⊢
    rw [Bool.and_eq_true] at hs ⊢
    exact ⟨hs.1, hs.2⟩
  rw [if_pos ⟨hs2, rfl⟩]
  show some (PyData.bool (PyData.eqvAll (cols l) (cols []))) = _
  rw [eqv_cols]
abbrev zf (p : Nat × Nat) : D := .tuple [.int (p.2 : Int), .int (p.1 : Int)]
theorem enD_cols (l : List Nat) : enD (cols l) = l.zipIdx.map zf := by
  unfold enD cols
  apply List.ext_getElem?
  intro i
  rw [List.getElem?_mapIdx, List.getElem?_map, List.getElem?_map, List.getElem?_zipIdx]
  cases l[i]? with
  | none => rfl
  | some x => simp
theorem k_catL0 {xs ys : List D} (h : xs.length + ys.length ≤ 1000000) : kCat (.list xs) (.list ys) = some (.list (xs ++ ys)) := by
  show (if xs.length + ys.length ≤ sizeLine then some (PyData.list (xs ++ ys)) else none) = _
  rw [if_pos (sl_le h)]
theorem k_catT0 {xs ys : List D} (h : xs.length + ys.length ≤ 1000000) : kCat (.tuple xs) (.tuple ys) = some (.tuple (xs ++ ys)) := by
  show (if xs.length + ys.length ≤ sizeLine then some (PyData.tuple (xs ++ ys)) else none) = _
  rw [if_pos (sl_le h)]
theorem cols_take (l : List Nat) (n : Nat) : (cols l).take n = cols (l.take n) := by unfold cols; rw [List.map_take]
theorem cols_drop (l : List Nat) (n : Nat) : (cols l).drop n = cols (l.drop n) := by unfold cols; rw [List.map_drop]
theorem cols_app (a b : List Nat) : cols a ++ cols b = cols (a ++ b) := by unfold cols; rw [List.map_append]
theorem pow6 {n : Nat} (h : n ≤ 6) : 6 ^ n ≤ 46656 := Nat.le_trans (Nat.pow_le_pow_right (by omega) h) (by omega)
abbrev A5 (L : D) (o : List D) : AS := [.dat L, .own o, .no, .no, .no]
theorem m_all : ∀ (k : Nat) (l : List Nat), l.length < k → l.length ≤ 6 → (∀ x ∈ l, x < 6) → mr_all_orders k [.list (cols l)] = some (.new ((allN k l).map tc))
  | 0, l, h, _, _ => by omega
  | k + 1, l, h, h6, hx => by
    have ih := m_all k
    have hke := k_eqNil l hx
    have htot := all_len (k + 1) l h6
    have htot2 := pow6 h6
    refine runP_wp ?_
    unfold g_all_orders
    by_cases e : l = []
    · subst e
      have h1 : cols [] = [] := rfl
      have h2 : allN (k + 1) [] = [[]] := by simp [allN]
      rw [h1] at hke
      rw [h1, h2]
      have hk : kEq (.list []) (.list []) = some (.bool true) := rfl
      clear hke
      repeat (first
        | with_reducible refine Xm.wp_seq ?_
        | with_reducible refine Xm.wp_asg ?_
        | with_reducible refine Xm.wp_bin2 ?_
        | with_reducible refine Xm.wp_un1 ?_
        | with_reducible refine Xm.wp_consA ?_
        | with_reducible refine Xm.wp_nilA ?_
        | with_reducible refine Xm.wp_cst ?_
        | with_reducible refine Xm.wp_valB ?_
        | with_reducible refine Xm.wp_ifS ?_
        | with_reducible refine Xm.wp_rvD ?_
        | with_reducible refine Xm.wp_rvN ?_
        | with_reducible refine Xm.wp_callP0 ?_
        | with_reducible refine Xm.wp_callP ?_
        | with_reducible refine Xm.wp_callK ?_
        | with_reducible refine Xm.wp_skip ?_
        | with_reducible refine Xm.wp_retS ?_
        | with_reducible refine Xm.wp_retN ?_
        | with_reducible refine Xm.wp_drop ?_
        | with_reducible refine Xm.wp_asgN ?_
        | with_reducible refine Xm.wp_andB ?_
        | with_reducible refine Xm.wp_orB ?_
        | with_reducible refine Xm.wp_notB ?_
        | with_reducible refine Xm.wp_yesB ?_
        | with_reducible refine Xm.wp_boolE ?_
        | with_reducible refine Xm.wp_ifE ?_
        | with_reducible refine Xm.wp_tupF ?_
        | with_reducible refine Xm.wp_lstF ?_
        | with_reducible refine Xm.wp_newF ?_
        | with_reducible refine Xm.wp_listE ?_
        | with_reducible refine Xm.wp_itD ?_
        | with_reducible refine Xm.wp_for ?_
        | with_reducible refine Xm.wp_clr ?_
        | with_reducible refine Xm.wp_par2 ?_
        | with_reducible refine Xm.wp_asgT ?_
        | with_reducible refine Xm.wp_compF ?_
        | with_reducible refine Xm.wp_compR ?_
        | with_reducible refine Xm.wp_itR1 ?_
        | with_reducible refine Xm.wp_cutF ?_
        | with_reducible refine Xm.wp_noO ?_
        | with_reducible refine Xm.wp_someO ?_
        | with_reducible refine Xm.wp_chE ?_
        | with_reducible refine Xm.wp_raise ?_
        | with_reducible refine Xm.wp_retX ?_
        | with_reducible refine Xm.wp_asgX ?_
        | with_reducible refine Xm.wp_dropX ?_
        | with_reducible refine Xm.wp_try ?_
        | with_reducible refine Xm.wp_itK ?_
        | with_reducible refine Xm.wp_itEnum ?_
        | with_reducible refine Xm.wp_asgM ?_
        | with_reducible refine Xm.wp_dicE ?_
        | with_reducible refine Xm.wp_bN ?_
        | with_reducible refine Xm.wp_itEnumA ?_
        | with_reducible refine Xm.wp_rvM ?_
        | with_reducible refine Xm.wp_retD ?_
        | with_reducible refine Xm.wp_compM ?_
        | with_reducible refine Xm.ite_tt ?_
        | with_reducible refine Xm.ite_ff ?_
        | with_reducible refine Xm.ite_nt ?_
        | with_reducible refine Xm.ite_nf ?_
        | with_reducible refine Xm.ite_nes ?_
        | with_reducible refine Xm.ite_eqs ?_
        | with_reducible refine Xm.ite_nei ?_
        | with_reducible refine Xm.ite_eqi ?_
        | with_reducible refine Xm.ex_le ?_
        | with_reducible refine Xm.ex_lt ?_
        | with_reducible refine Xm.ex_bool ?_
        | with_reducible refine Xm.ex_new ?_
        | with_reducible refine Xm.ex_int ?_
        | with_reducible refine Xm.ex_of Xm.k_cat ?_
        | with_reducible refine Xm.ex_of Xm.k_sub ?_
        | with_reducible refine Xm.ex_of Xm.k_lt ?_
        | with_reducible refine Xm.ex_of Xm.k_le ?_
        | with_reducible refine Xm.ex_of Xm.k_gt ?_
        | with_reducible refine Xm.ex_of Xm.k_ge ?_
        | with_reducible refine Xm.ex_of Xm.k_eqI ?_
        | with_reducible refine Xm.ex_of Xm.k_neI ?_
        | with_reducible refine Xm.ex_of Xm.k_eqStr ?_
        | with_reducible refine Xm.ex_of Xm.k_neStr ?_
        | with_reducible refine Xm.ex_of Xm.k_neg ?_
        | with_reducible refine Xm.ex_of Xm.k_abs ?_
        | with_reducible refine Xm.ex_of Xm.k_lenL ?_
        | with_reducible refine Xm.ex_of Xm.k_lenT ?_
        | with_reducible refine Xm.ex_of Xm.k_list ?_
        | with_reducible refine Xm.ex_of Xm.k_listT ?_
        | with_reducible refine Xm.ex_of Xm.k_tupL ?_
        | with_reducible refine Xm.ex_of Xm.k_tupT ?_
        | with_reducible refine Xm.ex_of Xm.k_intB ?_
        | with_reducible refine Xm.ex_of Xm.ix_t0 ?_
        | with_reducible refine Xm.ex_of Xm.ix_t1 ?_
        | with_reducible refine Xm.ex_of Xm.ix_t2 ?_
        | with_reducible refine Xm.ex_of Xm.ix_l0 ?_
        | with_reducible refine Xm.ex_of Xm.ix_l1 ?_
        | with_reducible refine Xm.ex_of Xm.ix_l2 ?_
        | with_reducible refine Xm.ex_of Xm.k_isa ?_
        | with_reducible refine Xm.ex_of Xm.k_cutL ?_
        | with_reducible refine Xm.ex_of Xm.k_cutT ?_
        | with_reducible refine Xm.ex_of Xm.ix_sh0 ?_
        | with_reducible refine Xm.ex_of Xm.ix_sh1 ?_
        | with_reducible refine Xm.ex_of (Xm.k_eqS _ _) ?_
        | ((with_reducible apply Xm.ex_of); · with_reducible assumption)
        | ((with_reducible apply Xm.ex_arr); · (simp only [arr, List.map_cons, List.map_nil, List.getD_cons_zero, List.getD_cons_succ]; rfl))
        | ((with_reducible apply Xm.np_and); · rfl)
        | ((with_reducible apply Xm.np_and); · (show npB _ = true; with_reducible assumption))
        | ((with_reducible apply Xm.len_and); · exact Nat.le_of_ble_eq_true rfl)
        | ((with_reducible apply Xm.mu_and); · rfl)
        | ((with_reducible apply Xm.ite_t); · with_reducible assumption)
        | ((with_reducible apply Xm.ite_f); · with_reducible assumption)
        | ((with_reducible apply Xm.ite_nbt); · with_reducible assumption)
        | ((with_reducible apply Xm.ite_nbf); · with_reducible assumption)
        | ((with_reducible apply Xm.ex_oo); · with_reducible assumption)
        | ((with_reducible apply Xm.dcv_and); · rfl)
        | ((with_reducible apply Xm.dcc_and); · rfl)
        | with_reducible refine Xm.ex_dct ?_
        | ((with_reducible apply Xm.nop_and); · rfl)
        | ((with_reducible apply Xm.wp_rd); · rfl)
        | ((with_reducible apply Xm.wp_rdo); · rfl)
        | ((with_reducible apply Xm.wp_callQ); · rfl)
        | ((with_reducible apply Xm.wp_ixM); · rfl)
        | ((with_reducible apply Xm.wp_lenM); · rfl)
        | ((with_reducible apply Xm.wp_appM); · rfl)
        | ((with_reducible apply Xm.wp_extM); · rfl)
        | ((with_reducible apply Xm.wp_popM); · rfl)
        | ((with_reducible apply Xm.wp_revM); · rfl)
        | ((with_reducible apply Xm.wp_reprM); · rfl)
        | ((with_reducible apply Xm.wp_retM); · rfl)
        | ((with_reducible apply Xm.wp_retMd); · rfl)
        | ((with_reducible apply Xm.wp_aug); · rfl)
        | ((with_reducible apply Xm.wp_setM); · rfl)
        | ((with_reducible apply Xm.wp_frz); · rfl)
        | ((with_reducible apply Xm.wp_frz2); · rfl)
        | ((with_reducible apply Xm.wp_ixD); · rfl)
        | ((with_reducible apply Xm.wp_getD1); · rfl)
        | ((with_reducible apply Xm.wp_getD2); · rfl)
        | ((with_reducible apply Xm.wp_putD); · rfl)
        | ((with_reducible apply Xm.wp_extN); · rfl)
        | ((with_reducible apply Xm.wp_callD); · rfl)
        | ((with_reducible apply Xm.wp_isaM); · rfl))
      rfl
    · have hf : decide (l = []) = false := decide_eq_false e
      rw [hf] at hke
      have hA : allN (k + 1) l = (l.zipIdx.map fun p => (allN k (l.take p.2 ++ l.drop (p.2 + 1))).map (p.1 :: ·)).flatten := by
        conv => lhs; unfold allN
        rw [if_neg e]
      have hcl : cols l = cols l := rfl
      generalize hL : PyData.list (cols l) = L at hke
      repeat (first
        | with_reducible refine Xm.wp_seq ?_
        | with_reducible refine Xm.wp_asg ?_
        | with_reducible refine Xm.wp_bin2 ?_
        | with_reducible refine Xm.wp_un1 ?_
        | with_reducible refine Xm.wp_consA ?_
        | with_reducible refine Xm.wp_nilA ?_
        | with_reducible refine Xm.wp_cst ?_
        | with_reducible refine Xm.wp_valB ?_
        | with_reducible refine Xm.wp_ifS ?_
        | with_reducible refine Xm.wp_rvD ?_
        | with_reducible refine Xm.wp_rvN ?_
        | with_reducible refine Xm.wp_callP0 ?_
        | with_reducible refine Xm.wp_callP ?_
        | with_reducible refine Xm.wp_callK ?_
        | with_reducible refine Xm.wp_skip ?_
        | with_reducible refine Xm.wp_retS ?_
        | with_reducible refine Xm.wp_retN ?_
        | with_reducible refine Xm.wp_drop ?_
        | with_reducible refine Xm.wp_asgN ?_
        | with_reducible refine Xm.wp_andB ?_
        | with_reducible refine Xm.wp_orB ?_
        | with_reducible refine Xm.wp_notB ?_
        | with_reducible refine Xm.wp_yesB ?_
        | with_reducible refine Xm.wp_boolE ?_
        | with_reducible refine Xm.wp_ifE ?_
        | with_reducible refine Xm.wp_tupF ?_
        | with_reducible refine Xm.wp_lstF ?_
        | with_reducible refine Xm.wp_newF ?_
        | with_reducible refine Xm.wp_listE ?_
        | with_reducible refine Xm.wp_itD ?_
        | with_reducible refine Xm.wp_for ?_
        | with_reducible refine Xm.wp_clr ?_
        | with_reducible refine Xm.wp_par2 ?_
        | with_reducible refine Xm.wp_asgT ?_
        | with_reducible refine Xm.wp_compF ?_
        | with_reducible refine Xm.wp_compR ?_
        | with_reducible refine Xm.wp_itR1 ?_
        | with_reducible refine Xm.wp_cutF ?_
        | with_reducible refine Xm.wp_noO ?_
        | with_reducible refine Xm.wp_someO ?_
        | with_reducible refine Xm.wp_chE ?_
        | with_reducible refine Xm.wp_raise ?_
        | with_reducible refine Xm.wp_retX ?_
        | with_reducible refine Xm.wp_asgX ?_
        | with_reducible refine Xm.wp_dropX ?_
        | with_reducible refine Xm.wp_try ?_
        | with_reducible refine Xm.wp_itK ?_
        | with_reducible refine Xm.wp_itEnum ?_
        | with_reducible refine Xm.wp_asgM ?_
        | with_reducible refine Xm.wp_dicE ?_
        | with_reducible refine Xm.wp_bN ?_
        | with_reducible refine Xm.wp_itEnumA ?_
        | with_reducible refine Xm.wp_rvM ?_
        | with_reducible refine Xm.wp_retD ?_
        | with_reducible refine Xm.wp_compM ?_
        | with_reducible refine Xm.ite_tt ?_
        | with_reducible refine Xm.ite_ff ?_
        | with_reducible refine Xm.ite_nt ?_
        | with_reducible refine Xm.ite_nf ?_
        | with_reducible refine Xm.ite_nes ?_
        | with_reducible refine Xm.ite_eqs ?_
        | with_reducible refine Xm.ite_nei ?_
        | with_reducible refine Xm.ite_eqi ?_
        | with_reducible refine Xm.ex_le ?_
        | with_reducible refine Xm.ex_lt ?_
        | with_reducible refine Xm.ex_bool ?_
        | with_reducible refine Xm.ex_new ?_
        | with_reducible refine Xm.ex_int ?_
        | with_reducible refine Xm.ex_of Xm.k_cat ?_
        | with_reducible refine Xm.ex_of Xm.k_sub ?_
        | with_reducible refine Xm.ex_of Xm.k_lt ?_
        | with_reducible refine Xm.ex_of Xm.k_le ?_
        | with_reducible refine Xm.ex_of Xm.k_gt ?_
        | with_reducible refine Xm.ex_of Xm.k_ge ?_
        | with_reducible refine Xm.ex_of Xm.k_eqI ?_
        | with_reducible refine Xm.ex_of Xm.k_neI ?_
        | with_reducible refine Xm.ex_of Xm.k_eqStr ?_
        | with_reducible refine Xm.ex_of Xm.k_neStr ?_
        | with_reducible refine Xm.ex_of Xm.k_neg ?_
        | with_reducible refine Xm.ex_of Xm.k_abs ?_
        | with_reducible refine Xm.ex_of Xm.k_lenL ?_
        | with_reducible refine Xm.ex_of Xm.k_lenT ?_
        | with_reducible refine Xm.ex_of Xm.k_list ?_
        | with_reducible refine Xm.ex_of Xm.k_listT ?_
        | with_reducible refine Xm.ex_of Xm.k_tupL ?_
        | with_reducible refine Xm.ex_of Xm.k_tupT ?_
        | with_reducible refine Xm.ex_of Xm.k_intB ?_
        | with_reducible refine Xm.ex_of Xm.ix_t0 ?_
        | with_reducible refine Xm.ex_of Xm.ix_t1 ?_
        | with_reducible refine Xm.ex_of Xm.ix_t2 ?_
        | with_reducible refine Xm.ex_of Xm.ix_l0 ?_
        | with_reducible refine Xm.ex_of Xm.ix_l1 ?_
        | with_reducible refine Xm.ex_of Xm.ix_l2 ?_
        | with_reducible refine Xm.ex_of Xm.k_isa ?_
        | with_reducible refine Xm.ex_of Xm.k_cutL ?_
        | with_reducible refine Xm.ex_of Xm.k_cutT ?_
        | with_reducible refine Xm.ex_of Xm.ix_sh0 ?_
        | with_reducible refine Xm.ex_of Xm.ix_sh1 ?_
        | with_reducible refine Xm.ex_of (Xm.k_eqS _ _) ?_
        | ((with_reducible apply Xm.ex_of); · with_reducible assumption)
        | ((with_reducible apply Xm.ex_arr); · (simp only [arr, List.map_cons, List.map_nil, List.getD_cons_zero, List.getD_cons_succ]; rfl))
        | ((with_reducible apply Xm.np_and); · rfl)
        | ((with_reducible apply Xm.np_and); · (show npB _ = true; with_reducible assumption))
        | ((with_reducible apply Xm.len_and); · exact Nat.le_of_ble_eq_true rfl)
        | ((with_reducible apply Xm.mu_and); · rfl)
        | ((with_reducible apply Xm.ite_t); · with_reducible assumption)
        | ((with_reducible apply Xm.ite_f); · with_reducible assumption)
        | ((with_reducible apply Xm.ite_nbt); · with_reducible assumption)
        | ((with_reducible apply Xm.ite_nbf); · with_reducible assumption)
        | ((with_reducible apply Xm.ex_oo); · with_reducible assumption)
        | ((with_reducible apply Xm.dcv_and); · rfl)
        | ((with_reducible apply Xm.dcc_and); · rfl)
        | with_reducible refine Xm.ex_dct ?_
        | ((with_reducible apply Xm.nop_and); · rfl)
        | ((with_reducible apply Xm.wp_rd); · rfl)
        | ((with_reducible apply Xm.wp_rdo); · rfl)
        | ((with_reducible apply Xm.wp_callQ); · rfl)
        | ((with_reducible apply Xm.wp_ixM); · rfl)
        | ((with_reducible apply Xm.wp_lenM); · rfl)
        | ((with_reducible apply Xm.wp_appM); · rfl)
        | ((with_reducible apply Xm.wp_extM); · rfl)
        | ((with_reducible apply Xm.wp_popM); · rfl)
        | ((with_reducible apply Xm.wp_revM); · rfl)
        | ((with_reducible apply Xm.wp_reprM); · rfl)
        | ((with_reducible apply Xm.wp_retM); · rfl)
        | ((with_reducible apply Xm.wp_retMd); · rfl)
        | ((with_reducible apply Xm.wp_aug); · rfl)
        | ((with_reducible apply Xm.wp_setM); · rfl)
        | ((with_reducible apply Xm.wp_frz); · rfl)
        | ((with_reducible apply Xm.wp_frz2); · rfl)
        | ((with_reducible apply Xm.wp_ixD); · rfl)
        | ((with_reducible apply Xm.wp_getD1); · rfl)
        | ((with_reducible apply Xm.wp_getD2); · rfl)
        | ((with_reducible apply Xm.wp_putD); · rfl)
        | ((with_reducible apply Xm.wp_extN); · rfl)
        | ((with_reducible apply Xm.wp_callD); · rfl)
        | ((with_reducible apply Xm.wp_isaM); · rfl))
      refine ⟨cols l, hL.symm, ?_⟩
      rw [enD_cols]
      refine wp_loop (fun ds s => ∃ (zs : List (Nat × Nat)) (acc : List (List Nat)), ds = zs.map zf ∧ (∀ p ∈ zs, p ∈ l.zipIdx) ∧ s = A5 L (acc.map tc) ∧ acc ++ (zs.map fun p => (allN k (l.take p.2 ++ l.drop (p.2 + 1))).map (p.1 :: ·)).flatten = allN (k + 1) l) ?_ ?_ _ _ ⟨l.zipIdx, [], rfl, (fun p hp => hp), rfl, by rw [List.nil_append, ← hA]⟩
      · rintro d ds s ⟨zs, acc, hds, hz, rfl, hacc⟩
        cases zs with
        | nil => cases hds
        | cons p zs =>
          rw [List.map_cons] at hds
          obtain ⟨rfl, rfl⟩ := List.cons.inj hds
          obtain ⟨x, i⟩ := p
          have hxi := zip_mem.mp (hz (x, i) (.head _))
          have hi := (List.getElem?_eq_some_iff.mp hxi).1
          have q1 : kCut L none (some (i : Int)) = some (.list (cols (l.take i))) := by
            rw [← hL, k_cutL, cut_take, cols_take]
          have q2 : kCut L (some ((i : Int) + 1)) none = some (.list (cols (l.drop (i + 1)))) := by
            rw [← hL, k_cutL, show ((i : Int) + 1) = ((i + 1 : Nat) : Int) by omega, cut_drop, cols_drop]
          have q3 : kCat (.list (cols (l.take i))) (.list (cols (l.drop (i + 1)))) = some (.list (cols (l.take i ++ l.drop (i + 1)))) := by
            rw [k_catL0 (by rw [len_cols, len_cols, List.length_take, List.length_drop]; omega), cols_app]
          have hlen : (l.take i ++ l.drop (i + 1)).length = l.length - 1 := by simp; omega
          have q4 := ih (l.take i ++ l.drop (i + 1)) (by omega) (by omega) fun y hy => by
            rcases List.mem_append.mp hy with hy | hy
            · exact hx y (List.mem_of_mem_take hy)
            · exact hx y (List.mem_of_mem_drop hy)
          have hl2 := all_len k (l.take i ++ l.drop (i + 1)) (by omega)
          have hl3 := pow6 (n := (l.take i ++ l.drop (i + 1)).length) (by omega)
          have hmem : ∀ q ∈ allN k (l.take i ++ l.drop (i + 1)), q.length ≤ 6 := fun q hq => by
            have := ((all_mem k _ q (by omega)).mp hq).length_eq
            omega
          generalize hq : allN k (l.take i ++ l.drop (i + 1)) = qs at q4 hl2 hmem
          have hacc2 : (acc ++ qs.map (x :: ·)) ++ (zs.map fun p => (allN k (l.take p.2 ++ l.drop (p.2 + 1))).map (p.1 :: ·)).flatten = allN (k + 1) l := by
            rw [List.append_assoc, ← hacc, List.map_cons, List.flatten_cons, hq]
          have hlt : acc.length + qs.length ≤ 46656 := by
            have := congrArg List.length hacc2
            simp only [List.length_append, List.length_map] at this
            omega
          generalize l.take i ++ l.drop (i + 1) = m at q3 q4
          generalize cols (l.take i) = c1 at q1 q3
          generalize cols (l.drop (i + 1)) = c2 at q2 q3
          refine ⟨[.dat L, .own (acc.map tc), .dat (.int i), .dat (.int x), .no], by simp [tupT, consT, nilT], ?_⟩
          repeat (first
            | with_reducible refine Xm.wp_seq ?_
            | with_reducible refine Xm.wp_asg ?_
            | with_reducible refine Xm.wp_bin2 ?_
            | with_reducible refine Xm.wp_un1 ?_
            | with_reducible refine Xm.wp_consA ?_
            | with_reducible refine Xm.wp_nilA ?_
            | with_reducible refine Xm.wp_cst ?_
            | with_reducible refine Xm.wp_valB ?_
            | with_reducible refine Xm.wp_ifS ?_
            | with_reducible refine Xm.wp_rvD ?_
            | with_reducible refine Xm.wp_rvN ?_
            | with_reducible refine Xm.wp_callP0 ?_
            | with_reducible refine Xm.wp_callP ?_
            | with_reducible refine Xm.wp_callK ?_
            | with_reducible refine Xm.wp_skip ?_
            | with_reducible refine Xm.wp_retS ?_
            | with_reducible refine Xm.wp_retN ?_
            | with_reducible refine Xm.wp_drop ?_
            | with_reducible refine Xm.wp_asgN ?_
            | with_reducible refine Xm.wp_andB ?_
            | with_reducible refine Xm.wp_orB ?_
            | with_reducible refine Xm.wp_notB ?_
            | with_reducible refine Xm.wp_yesB ?_
            | with_reducible refine Xm.wp_boolE ?_
            | with_reducible refine Xm.wp_ifE ?_
            | with_reducible refine Xm.wp_tupF ?_
            | with_reducible refine Xm.wp_lstF ?_
            | with_reducible refine Xm.wp_newF ?_
            | with_reducible refine Xm.wp_listE ?_
            | with_reducible refine Xm.wp_itD ?_
            | with_reducible refine Xm.wp_for ?_
            | with_reducible refine Xm.wp_clr ?_
            | with_reducible refine Xm.wp_par2 ?_
            | with_reducible refine Xm.wp_asgT ?_
            | with_reducible refine Xm.wp_compF ?_
            | with_reducible refine Xm.wp_compR ?_
            | with_reducible refine Xm.wp_itR1 ?_
            | with_reducible refine Xm.wp_cutF ?_
            | with_reducible refine Xm.wp_noO ?_
            | with_reducible refine Xm.wp_someO ?_
            | with_reducible refine Xm.wp_chE ?_
            | with_reducible refine Xm.wp_raise ?_
            | with_reducible refine Xm.wp_retX ?_
            | with_reducible refine Xm.wp_asgX ?_
            | with_reducible refine Xm.wp_dropX ?_
            | with_reducible refine Xm.wp_try ?_
            | with_reducible refine Xm.wp_itK ?_
            | with_reducible refine Xm.wp_itEnum ?_
            | with_reducible refine Xm.wp_asgM ?_
            | with_reducible refine Xm.wp_dicE ?_
            | with_reducible refine Xm.wp_bN ?_
            | with_reducible refine Xm.wp_itEnumA ?_
            | with_reducible refine Xm.wp_rvM ?_
            | with_reducible refine Xm.wp_retD ?_
            | with_reducible refine Xm.wp_compM ?_
            | with_reducible refine Xm.ite_tt ?_
            | with_reducible refine Xm.ite_ff ?_
            | with_reducible refine Xm.ite_nt ?_
            | with_reducible refine Xm.ite_nf ?_
            | with_reducible refine Xm.ite_nes ?_
            | with_reducible refine Xm.ite_eqs ?_
            | with_reducible refine Xm.ite_nei ?_
            | with_reducible refine Xm.ite_eqi ?_
            | with_reducible refine Xm.ex_le ?_
            | with_reducible refine Xm.ex_lt ?_
            | with_reducible refine Xm.ex_bool ?_
            | with_reducible refine Xm.ex_new ?_
            | with_reducible refine Xm.ex_int ?_
            | with_reducible refine Xm.ex_of Xm.k_cat ?_
            | with_reducible refine Xm.ex_of Xm.k_sub ?_
            | with_reducible refine Xm.ex_of Xm.k_lt ?_
            | with_reducible refine Xm.ex_of Xm.k_le ?_
            | with_reducible refine Xm.ex_of Xm.k_gt ?_
            | with_reducible refine Xm.ex_of Xm.k_ge ?_
            | with_reducible refine Xm.ex_of Xm.k_eqI ?_
            | with_reducible refine Xm.ex_of Xm.k_neI ?_
            | with_reducible refine Xm.ex_of Xm.k_eqStr ?_
            | with_reducible refine Xm.ex_of Xm.k_neStr ?_
            | with_reducible refine Xm.ex_of Xm.k_neg ?_
            | with_reducible refine Xm.ex_of Xm.k_abs ?_
            | with_reducible refine Xm.ex_of Xm.k_lenL ?_
            | with_reducible refine Xm.ex_of Xm.k_lenT ?_
            | with_reducible refine Xm.ex_of Xm.k_list ?_
            | with_reducible refine Xm.ex_of Xm.k_listT ?_
            | with_reducible refine Xm.ex_of Xm.k_tupL ?_
            | with_reducible refine Xm.ex_of Xm.k_tupT ?_
            | with_reducible refine Xm.ex_of Xm.k_intB ?_
            | with_reducible refine Xm.ex_of Xm.ix_t0 ?_
            | with_reducible refine Xm.ex_of Xm.ix_t1 ?_
            | with_reducible refine Xm.ex_of Xm.ix_t2 ?_
            | with_reducible refine Xm.ex_of Xm.ix_l0 ?_
            | with_reducible refine Xm.ex_of Xm.ix_l1 ?_
            | with_reducible refine Xm.ex_of Xm.ix_l2 ?_
            | with_reducible refine Xm.ex_of Xm.k_isa ?_
            | with_reducible refine Xm.ex_of Xm.k_cutL ?_
            | with_reducible refine Xm.ex_of Xm.k_cutT ?_
            | with_reducible refine Xm.ex_of Xm.ix_sh0 ?_
            | with_reducible refine Xm.ex_of Xm.ix_sh1 ?_
            | with_reducible refine Xm.ex_of (Xm.k_eqS _ _) ?_
            | ((with_reducible apply Xm.ex_of); · with_reducible assumption)
            | ((with_reducible apply Xm.ex_arr); · (simp only [arr, List.map_cons, List.map_nil, List.getD_cons_zero, List.getD_cons_succ]; rfl))
            | ((with_reducible apply Xm.np_and); · rfl)
            | ((with_reducible apply Xm.np_and); · (show npB _ = true; with_reducible assumption))
            | ((with_reducible apply Xm.len_and); · exact Nat.le_of_ble_eq_true rfl)
            | ((with_reducible apply Xm.mu_and); · rfl)
            | ((with_reducible apply Xm.ite_t); · with_reducible assumption)
            | ((with_reducible apply Xm.ite_f); · with_reducible assumption)
            | ((with_reducible apply Xm.ite_nbt); · with_reducible assumption)
            | ((with_reducible apply Xm.ite_nbf); · with_reducible assumption)
            | ((with_reducible apply Xm.ex_oo); · with_reducible assumption)
            | ((with_reducible apply Xm.dcv_and); · rfl)
            | ((with_reducible apply Xm.dcc_and); · rfl)
            | with_reducible refine Xm.ex_dct ?_
            | ((with_reducible apply Xm.nop_and); · rfl)
            | ((with_reducible apply Xm.wp_rd); · rfl)
            | ((with_reducible apply Xm.wp_rdo); · rfl)
            | ((with_reducible apply Xm.wp_callQ); · rfl)
            | ((with_reducible apply Xm.wp_ixM); · rfl)
            | ((with_reducible apply Xm.wp_lenM); · rfl)
            | ((with_reducible apply Xm.wp_appM); · rfl)
            | ((with_reducible apply Xm.wp_extM); · rfl)
            | ((with_reducible apply Xm.wp_popM); · rfl)
            | ((with_reducible apply Xm.wp_revM); · rfl)
            | ((with_reducible apply Xm.wp_reprM); · rfl)
            | ((with_reducible apply Xm.wp_retM); · rfl)
            | ((with_reducible apply Xm.wp_retMd); · rfl)
            | ((with_reducible apply Xm.wp_aug); · rfl)
            | ((with_reducible apply Xm.wp_setM); · rfl)
            | ((with_reducible apply Xm.wp_frz); · rfl)
            | ((with_reducible apply Xm.wp_frz2); · rfl)
            | ((with_reducible apply Xm.wp_ixD); · rfl)
            | ((with_reducible apply Xm.wp_getD1); · rfl)
            | ((with_reducible apply Xm.wp_getD2); · rfl)
            | ((with_reducible apply Xm.wp_putD); · rfl)
            | ((with_reducible apply Xm.wp_extN); · rfl)
            | ((with_reducible apply Xm.wp_callD); · rfl)
            | ((with_reducible apply Xm.wp_isaM); · rfl))
          refine ⟨_, .inl rfl, ⟨rfl, sl_le (by rw [List.length_map]; omega)⟩, ?_⟩
          have hc := compL_all (u := setD 4) (te := bin2 kCat (tupF (consA (rd 3) nilA)) (rd 4)) (vs := [4]) tc (fun q => tc (x :: q)) [.dat L, .own (acc.map tc), .dat (.int i), .dat (.int x), .no] qs fun q hq => by
            have hk : kCat (.tuple [.int (x : Int)]) (tc q) = some (tc (x :: q)) := by
              have := hmem q hq
              rw [k_catT0 (by rw [len_cols]; simp; omega)]
              rfl
            refine ⟨[.dat L, .own (acc.map tc), .dat (.int i), .dat (.int x), .dat (tc q)], rfl, [.dat L, .own (acc.map tc), .dat (.int i), .dat (.int x), .dat (tc q)], ?_, rfl⟩
            generalize tc q = Q at hk
            simp [hk]
          refine wp_of hc ?_
          refine ⟨_, rfl, sl_le (by rw [List.length_map, List.length_map]; omega), ?_⟩
          refine ⟨zs, acc ++ qs.map (x :: ·), rfl, (fun p hp => hz p (.tail _ hp)), ?_, hacc2⟩
          rw [List.map_append, List.map_map]
          rfl
      · rintro s ⟨zs, acc, hds, hz, rfl, hacc⟩
        cases zs with
        | cons p zs => cases hds
        | nil =>
          rw [List.map_nil, List.flatten_nil, List.append_nil] at hacc
          rw [← hacc]
          repeat (first
            | with_reducible refine Xm.wp_seq ?_
            | with_reducible refine Xm.wp_asg ?_
            | with_reducible refine Xm.wp_bin2 ?_
            | with_reducible refine Xm.wp_un1 ?_
            | with_reducible refine Xm.wp_consA ?_
            | with_reducible refine Xm.wp_nilA ?_
            | with_reducible refine Xm.wp_cst ?_
            | with_reducible refine Xm.wp_valB ?_
            | with_reducible refine Xm.wp_ifS ?_
            | with_reducible refine Xm.wp_rvD ?_
            | with_reducible refine Xm.wp_rvN ?_
            | with_reducible refine Xm.wp_callP0 ?_
            | with_reducible refine Xm.wp_callP ?_
            | with_reducible refine Xm.wp_callK ?_
            | with_reducible refine Xm.wp_skip ?_
            | with_reducible refine Xm.wp_retS ?_
            | with_reducible refine Xm.wp_retN ?_
            | with_reducible refine Xm.wp_drop ?_
            | with_reducible refine Xm.wp_asgN ?_
            | with_reducible refine Xm.wp_andB ?_
            | with_reducible refine Xm.wp_orB ?_
            | with_reducible refine Xm.wp_notB ?_
            | with_reducible refine Xm.wp_yesB ?_
            | with_reducible refine Xm.wp_boolE ?_
            | with_reducible refine Xm.wp_ifE ?_
            | with_reducible refine Xm.wp_tupF ?_
            | with_reducible refine Xm.wp_lstF ?_
            | with_reducible refine Xm.wp_newF ?_
            | with_reducible refine Xm.wp_listE ?_
            | with_reducible refine Xm.wp_itD ?_
            | with_reducible refine Xm.wp_for ?_
            | with_reducible refine Xm.wp_clr ?_
            | with_reducible refine Xm.wp_par2 ?_
            | with_reducible refine Xm.wp_asgT ?_
            | with_reducible refine Xm.wp_compF ?_
            | with_reducible refine Xm.wp_compR ?_
            | with_reducible refine Xm.wp_itR1 ?_
            | with_reducible refine Xm.wp_cutF ?_
            | with_reducible refine Xm.wp_noO ?_
            | with_reducible refine Xm.wp_someO ?_
            | with_reducible refine Xm.wp_chE ?_
            | with_reducible refine Xm.wp_raise ?_
            | with_reducible refine Xm.wp_retX ?_
            | with_reducible refine Xm.wp_asgX ?_
            | with_reducible refine Xm.wp_dropX ?_
            | with_reducible refine Xm.wp_try ?_
            | with_reducible refine Xm.wp_itK ?_
            | with_reducible refine Xm.wp_itEnum ?_
            | with_reducible refine Xm.wp_asgM ?_
            | with_reducible refine Xm.wp_dicE ?_
            | with_reducible refine Xm.wp_bN ?_
            | with_reducible refine Xm.wp_itEnumA ?_
            | with_reducible refine Xm.wp_rvM ?_
            | with_reducible refine Xm.wp_retD ?_
            | with_reducible refine Xm.wp_compM ?_
            | with_reducible refine Xm.ite_tt ?_
            | with_reducible refine Xm.ite_ff ?_
            | with_reducible refine Xm.ite_nt ?_
            | with_reducible refine Xm.ite_nf ?_
            | with_reducible refine Xm.ite_nes ?_
            | with_reducible refine Xm.ite_eqs ?_
            | with_reducible refine Xm.ite_nei ?_
            | with_reducible refine Xm.ite_eqi ?_
            | with_reducible refine Xm.ex_le ?_
            | with_reducible refine Xm.ex_lt ?_
            | with_reducible refine Xm.ex_bool ?_
            | with_reducible refine Xm.ex_new ?_
            | with_reducible refine Xm.ex_int ?_
            | with_reducible refine Xm.ex_of Xm.k_cat ?_
            | with_reducible refine Xm.ex_of Xm.k_sub ?_
            | with_reducible refine Xm.ex_of Xm.k_lt ?_
            | with_reducible refine Xm.ex_of Xm.k_le ?_
            | with_reducible refine Xm.ex_of Xm.k_gt ?_
            | with_reducible refine Xm.ex_of Xm.k_ge ?_
            | with_reducible refine Xm.ex_of Xm.k_eqI ?_
            | with_reducible refine Xm.ex_of Xm.k_neI ?_
            | with_reducible refine Xm.ex_of Xm.k_eqStr ?_
            | with_reducible refine Xm.ex_of Xm.k_neStr ?_
            | with_reducible refine Xm.ex_of Xm.k_neg ?_
            | with_reducible refine Xm.ex_of Xm.k_abs ?_
            | with_reducible refine Xm.ex_of Xm.k_lenL ?_
            | with_reducible refine Xm.ex_of Xm.k_lenT ?_
            | with_reducible refine Xm.ex_of Xm.k_list ?_
            | with_reducible refine Xm.ex_of Xm.k_listT ?_
            | with_reducible refine Xm.ex_of Xm.k_tupL ?_
            | with_reducible refine Xm.ex_of Xm.k_tupT ?_
            | with_reducible refine Xm.ex_of Xm.k_intB ?_
            | with_reducible refine Xm.ex_of Xm.ix_t0 ?_
            | with_reducible refine Xm.ex_of Xm.ix_t1 ?_
            | with_reducible refine Xm.ex_of Xm.ix_t2 ?_
            | with_reducible refine Xm.ex_of Xm.ix_l0 ?_
            | with_reducible refine Xm.ex_of Xm.ix_l1 ?_
            | with_reducible refine Xm.ex_of Xm.ix_l2 ?_
            | with_reducible refine Xm.ex_of Xm.k_isa ?_
            | with_reducible refine Xm.ex_of Xm.k_cutL ?_
            | with_reducible refine Xm.ex_of Xm.k_cutT ?_
            | with_reducible refine Xm.ex_of Xm.ix_sh0 ?_
            | with_reducible refine Xm.ex_of Xm.ix_sh1 ?_
            | with_reducible refine Xm.ex_of (Xm.k_eqS _ _) ?_
            | ((with_reducible apply Xm.ex_of); · with_reducible assumption)
            | ((with_reducible apply Xm.ex_arr); · (simp only [arr, List.map_cons, List.map_nil, List.getD_cons_zero, List.getD_cons_succ]; rfl))
            | ((with_reducible apply Xm.np_and); · rfl)
            | ((with_reducible apply Xm.np_and); · (show npB _ = true; with_reducible assumption))
            | ((with_reducible apply Xm.len_and); · exact Nat.le_of_ble_eq_true rfl)
            | ((with_reducible apply Xm.mu_and); · rfl)
            | ((with_reducible apply Xm.ite_t); · with_reducible assumption)
            | ((with_reducible apply Xm.ite_f); · with_reducible assumption)
            | ((with_reducible apply Xm.ite_nbt); · with_reducible assumption)
            | ((with_reducible apply Xm.ite_nbf); · with_reducible assumption)
            | ((with_reducible apply Xm.ex_oo); · with_reducible assumption)
            | ((with_reducible apply Xm.dcv_and); · rfl)
            | ((with_reducible apply Xm.dcc_and); · rfl)
            | with_reducible refine Xm.ex_dct ?_
            | ((with_reducible apply Xm.nop_and); · rfl)
            | ((with_reducible apply Xm.wp_rd); · rfl)
            | ((with_reducible apply Xm.wp_rdo); · rfl)
            | ((with_reducible apply Xm.wp_callQ); · rfl)
            | ((with_reducible apply Xm.wp_ixM); · rfl)
            | ((with_reducible apply Xm.wp_lenM); · rfl)
            | ((with_reducible apply Xm.wp_appM); · rfl)
            | ((with_reducible apply Xm.wp_extM); · rfl)
            | ((with_reducible apply Xm.wp_popM); · rfl)
            | ((with_reducible apply Xm.wp_revM); · rfl)
            | ((with_reducible apply Xm.wp_reprM); · rfl)
            | ((with_reducible apply Xm.wp_retM); · rfl)
            | ((with_reducible apply Xm.wp_retMd); · rfl)
            | ((with_reducible apply Xm.wp_aug); · rfl)
            | ((with_reducible apply Xm.wp_setM); · rfl)
            | ((with_reducible apply Xm.wp_frz); · rfl)
            | ((with_reducible apply Xm.wp_frz2); · rfl)
            | ((with_reducible apply Xm.wp_ixD); · rfl)
            | ((with_reducible apply Xm.wp_getD1); · rfl)
            | ((with_reducible apply Xm.wp_getD2); · rfl)
            | ((with_reducible apply Xm.wp_putD); · rfl)
            | ((with_reducible apply Xm.wp_extN); · rfl)
            | ((with_reducible apply Xm.wp_callD); · rfl)
            | ((with_reducible apply Xm.wp_isaM); · rfl))
          rfl
end BoF
set_option Elab.async false
set_option linter.all false
set_option maxRecDepth 100000
set_option maxHeartbeats 2000000
namespace BoF
open PySem PySem.Spec PyProof.Rows L2 Xm DwF CrF ExF LxF
def orders (c : Nat) : List (List Nat) := (allN 8 (List.range c)).filter fun l => lexN l l.reverse
theorem orders_mem {c : Nat} (hc : c ≤ 6) {l : List Nat} : l ∈ orders c ↔ l.Perm (List.range c) ∧ lexN l l.reverse = true := by
  unfold orders
  rw [List.mem_filter, all_mem 8 _ _ (by rw [List.length_range]; omega)]
theorem orders_nodup (c : Nat) : (orders c).Nodup := (all_nodup 8 _ List.nodup_range).filter _
theorem orders_len {c : Nat} (hc : c ≤ 6) : (orders c).length ≤ 46656 := by
  have h1 := all_len 8 (List.range c) (by rw [List.length_range]; omega)
  have h2 := pow6 (n := (List.range c).length) (by rw [List.length_range]; omega)
  have h3 : (orders c).length ≤ (allN 8 (List.range c)).length := List.length_filter_le _ _
  omega
theorem perm_lt {c : Nat} {l : List Nat} (h : l.Perm (List.range c)) : ∀ x ∈ l, x < c := fun x hx => List.mem_range.mp (h.subset hx)
theorem perm_len {c : Nat} {l : List Nat} (h : l.Perm (List.range c)) : l.length = c := by rw [h.length_eq, List.length_range]
theorem m_orders_of {c : Nat} (h2 : c ≤ 6) : mf_orders_of [.int (c : Int)] = some (.new ((orders c).map tc)) := by
  have hl : (List.range c).length = c := List.length_range
  have e1 := m_all 8 (List.range c) (by omega) (by omega) fun x hx => by have := List.mem_range.mp hx; omega
  have e2 : mf_all_orders [.list (cols (List.range c))] = some (.new ((allN 8 (List.range c)).map tc)) := e1
  have hA : (allN 8 (List.range c)).length ≤ 46656 := by
    have h1 := all_len 8 (List.range c) (by omega)
    have h2 := pow6 (n := (List.range c).length) (by omega)
    omega
  have hr : rngD 0 (c : Int) = cols (List.range c) := rng_cols c
  refine runP_wp ?_
  unfold g_orders_of
  refine wp_retN (wp_compF (wp_itD (wp_rvD (wp_callP0 (wp_consA (wp_listE ?_))))))
  refine wp_of (lstR1_nat (k := c) rfl (by omega)) ?_
  rw [hr]
  unfold orders
  generalize allN 8 (List.range c) = qs at e2 hA
  repeat (first
    | with_reducible refine Xm.wp_seq ?_
    | with_reducible refine Xm.wp_asg ?_
    | with_reducible refine Xm.wp_bin2 ?_
    | with_reducible refine Xm.wp_un1 ?_
    | with_reducible refine Xm.wp_consA ?_
    | with_reducible refine Xm.wp_nilA ?_
    | with_reducible refine Xm.wp_cst ?_
    | with_reducible refine Xm.wp_valB ?_
    | with_reducible refine Xm.wp_ifS ?_
    | with_reducible refine Xm.wp_rvD ?_
    | with_reducible refine Xm.wp_rvN ?_
    | with_reducible refine Xm.wp_callP0 ?_
    | with_reducible refine Xm.wp_callP ?_
    | with_reducible refine Xm.wp_callK ?_
    | with_reducible refine Xm.wp_skip ?_
    | with_reducible refine Xm.wp_retS ?_
    | with_reducible refine Xm.wp_retN ?_
    | with_reducible refine Xm.wp_drop ?_
    | with_reducible refine Xm.wp_asgN ?_
    | with_reducible refine Xm.wp_andB ?_
    | with_reducible refine Xm.wp_orB ?_
    | with_reducible refine Xm.wp_notB ?_
    | with_reducible refine Xm.wp_yesB ?_
    | with_reducible refine Xm.wp_boolE ?_
    | with_reducible refine Xm.wp_ifE ?_
    | with_reducible refine Xm.wp_tupF ?_
    | with_reducible refine Xm.wp_lstF ?_
    | with_reducible refine Xm.wp_newF ?_
    | with_reducible refine Xm.wp_listE ?_
    | with_reducible refine Xm.wp_itD ?_
    | with_reducible refine Xm.wp_for ?_
    | with_reducible refine Xm.wp_clr ?_
    | with_reducible refine Xm.wp_par2 ?_
    | with_reducible refine Xm.wp_asgT ?_
    | with_reducible refine Xm.wp_compF ?_
    | with_reducible refine Xm.wp_compR ?_
    | with_reducible refine Xm.wp_itR1 ?_
    | with_reducible refine Xm.wp_cutF ?_
    | with_reducible refine Xm.wp_noO ?_
    | with_reducible refine Xm.wp_someO ?_
    | with_reducible refine Xm.wp_chE ?_
    | with_reducible refine Xm.wp_raise ?_
    | with_reducible refine Xm.wp_retX ?_
    | with_reducible refine Xm.wp_asgX ?_
    | with_reducible refine Xm.wp_dropX ?_
    | with_reducible refine Xm.wp_try ?_
    | with_reducible refine Xm.wp_itK ?_
    | with_reducible refine Xm.wp_itEnum ?_
    | with_reducible refine Xm.wp_asgM ?_
    | with_reducible refine Xm.wp_dicE ?_
    | with_reducible refine Xm.wp_bN ?_
    | with_reducible refine Xm.wp_itEnumA ?_
    | with_reducible refine Xm.wp_rvM ?_
    | with_reducible refine Xm.wp_retD ?_
    | with_reducible refine Xm.wp_compM ?_
    | with_reducible refine Xm.ite_tt ?_
    | with_reducible refine Xm.ite_ff ?_
    | with_reducible refine Xm.ite_nt ?_
    | with_reducible refine Xm.ite_nf ?_
    | with_reducible refine Xm.ite_nes ?_
    | with_reducible refine Xm.ite_eqs ?_
    | with_reducible refine Xm.ite_nei ?_
    | with_reducible refine Xm.ite_eqi ?_
    | with_reducible refine Xm.ex_le ?_
    | with_reducible refine Xm.ex_lt ?_
    | with_reducible refine Xm.ex_bool ?_
    | with_reducible refine Xm.ex_new ?_
    | with_reducible refine Xm.ex_int ?_
    | with_reducible refine Xm.ex_of Xm.k_cat ?_
    | with_reducible refine Xm.ex_of Xm.k_sub ?_
    | with_reducible refine Xm.ex_of Xm.k_lt ?_
    | with_reducible refine Xm.ex_of Xm.k_le ?_
    | with_reducible refine Xm.ex_of Xm.k_gt ?_
    | with_reducible refine Xm.ex_of Xm.k_ge ?_
    | with_reducible refine Xm.ex_of Xm.k_eqI ?_
    | with_reducible refine Xm.ex_of Xm.k_neI ?_
    | with_reducible refine Xm.ex_of Xm.k_eqStr ?_
    | with_reducible refine Xm.ex_of Xm.k_neStr ?_
    | with_reducible refine Xm.ex_of Xm.k_neg ?_
    | with_reducible refine Xm.ex_of Xm.k_abs ?_
    | with_reducible refine Xm.ex_of Xm.k_lenL ?_
    | with_reducible refine Xm.ex_of Xm.k_lenT ?_
    | with_reducible refine Xm.ex_of Xm.k_list ?_
    | with_reducible refine Xm.ex_of Xm.k_listT ?_
    | with_reducible refine Xm.ex_of Xm.k_tupL ?_
    | with_reducible refine Xm.ex_of Xm.k_tupT ?_
    | with_reducible refine Xm.ex_of Xm.k_intB ?_
    | with_reducible refine Xm.ex_of Xm.ix_t0 ?_
    | with_reducible refine Xm.ex_of Xm.ix_t1 ?_
    | with_reducible refine Xm.ex_of Xm.ix_t2 ?_
    | with_reducible refine Xm.ex_of Xm.ix_l0 ?_
    | with_reducible refine Xm.ex_of Xm.ix_l1 ?_
    | with_reducible refine Xm.ex_of Xm.ix_l2 ?_
    | with_reducible refine Xm.ex_of Xm.k_isa ?_
    | with_reducible refine Xm.ex_of Xm.k_cutL ?_
    | with_reducible refine Xm.ex_of Xm.k_cutT ?_
    | with_reducible refine Xm.ex_of Xm.ix_sh0 ?_
    | with_reducible refine Xm.ex_of Xm.ix_sh1 ?_
    | with_reducible refine Xm.ex_of (Xm.k_eqS _ _) ?_
    | ((with_reducible apply Xm.ex_of); · with_reducible assumption)
    | ((with_reducible apply Xm.ex_arr); · (simp only [arr, List.map_cons, List.map_nil, List.getD_cons_zero, List.getD_cons_succ]; rfl))
    | ((with_reducible apply Xm.np_and); · rfl)
    | ((with_reducible apply Xm.np_and); · (show npB _ = true; with_reducible assumption))
    | ((with_reducible apply Xm.len_and); · exact Nat.le_of_ble_eq_true rfl)
    | ((with_reducible apply Xm.mu_and); · rfl)
    | ((with_reducible apply Xm.ite_t); · with_reducible assumption)
    | ((with_reducible apply Xm.ite_f); · with_reducible assumption)
    | ((with_reducible apply Xm.ite_nbt); · with_reducible assumption)
    | ((with_reducible apply Xm.ite_nbf); · with_reducible assumption)
    | ((with_reducible apply Xm.ex_oo); · with_reducible assumption)
    | ((with_reducible apply Xm.dcv_and); · rfl)
    | ((with_reducible apply Xm.dcc_and); · rfl)
    | with_reducible refine Xm.ex_dct ?_
    | ((with_reducible apply Xm.nop_and); · rfl)
    | ((with_reducible apply Xm.wp_rd); · rfl)
    | ((with_reducible apply Xm.wp_rdo); · rfl)
    | ((with_reducible apply Xm.wp_callQ); · rfl)
    | ((with_reducible apply Xm.wp_ixM); · rfl)
    | ((with_reducible apply Xm.wp_lenM); · rfl)
    | ((with_reducible apply Xm.wp_appM); · rfl)
    | ((with_reducible apply Xm.wp_extM); · rfl)
    | ((with_reducible apply Xm.wp_popM); · rfl)
    | ((with_reducible apply Xm.wp_revM); · rfl)
    | ((with_reducible apply Xm.wp_reprM); · rfl)
    | ((with_reducible apply Xm.wp_retM); · rfl)
    | ((with_reducible apply Xm.wp_retMd); · rfl)
    | ((with_reducible apply Xm.wp_aug); · rfl)
    | ((with_reducible apply Xm.wp_setM); · rfl)
    | ((with_reducible apply Xm.wp_frz); · rfl)
    | ((with_reducible apply Xm.wp_frz2); · rfl)
    | ((with_reducible apply Xm.wp_ixD); · rfl)
    | ((with_reducible apply Xm.wp_getD1); · rfl)
    | ((with_reducible apply Xm.wp_getD2); · rfl)
    | ((with_reducible apply Xm.wp_putD); · rfl)
    | ((with_reducible apply Xm.wp_extN); · rfl)
    | ((with_reducible apply Xm.wp_callD); · rfl)
    | ((with_reducible apply Xm.wp_isaM); · rfl))
  refine ⟨_, .inl rfl, ⟨rfl, sl_le (by rw [List.length_map]; omega)⟩, ?_⟩
  have hc := compL_map (u := setD 1) (tt := valB (bin2 kLtT (rd 1) (revA (rd 1)))) (te := rd 1) (vs := [1]) tc (fun l => lexN l l.reverse) tc (st0 2 [.int (c : Int)]) qs fun l _ => by
    have hk := k_ltT l l.reverse
    have hr : (cols l).reverse = cols l.reverse := cols_rev l
    refine ⟨[.dat (.int c), .dat (tc l)], rfl, ?_, fun _ => ⟨[.dat (.int c), .dat (tc l)], rfl, rfl⟩, fun _ => rfl⟩
    have rv : revA (rd 1) [.dat (.int c), .dat (tc l)] = some (tc l.reverse, [.dat (.int c), .dat (tc l)]) := by
      unfold revA
      simp [hr]
    simp [hr, hk]
  exact wp_of hc rfl
theorem keys_cols : ∀ l : List Nat, keysOf (cols l) = some (l.map fun (n : Nat) => NestedKey.num (n : Int))
  | [] => rfl
  | x :: r => by
    have := keys_cols r
    unfold cols at this ⊢
    simp only [List.map_cons, keysOf, Xm.keyOf, this, Option.bind_some, Option.map_some]
theorem key_tc (l : List Nat) : Xm.keyOf (tc l) = some (.tup (l.map fun (n : Nat) => NestedKey.num (n : Int))) := by
  show (keysOf (cols l)).map NestedKey.tup = _
  rw [keys_cols]; rfl
theorem nums_inj : ∀ {a b : List Nat}, (a.map fun (n : Nat) => NestedKey.num (n : Int)) = b.map (fun (n : Nat) => NestedKey.num (n : Int)) → a = b
  | [], [], _ => rfl
  | [], _ :: _, h => by cases h
  | _ :: _, [], h => by cases h
  | x :: r, y :: t, h => by
    simp only [List.map_cons] at h
    obtain ⟨h1, h2⟩ := List.cons.inj h
    have h3 := NestedKey.num.inj h1
    rw [nums_inj h2]
    congr 1
    omega
theorem key_inj {a b : List Nat} (h : Xm.keyOf (tc a) = Xm.keyOf (tc b)) : a = b := by
  rw [key_tc, key_tc] at h
  exact nums_inj (NestedKey.tup.inj (Option.some.inj h))
theorem depth_nums : ∀ l : List Nat, NestedKey.depthAll (l.map fun (n : Nat) => NestedKey.num (n : Int)) = 0
  | [] => rfl
  | x :: r => by
    rw [List.map_cons]
    show max (NestedKey.depth (.num x)) _ = 0
    rw [depth_nums r]
    rfl
theorem tupK_tc (l : List Nat) : tupK (tc l) = true := by
  show (match keysOf (cols l) with | some ks => decide ((NestedKey.tup ks).depth ≤ 8) | none => false) = true
  rw [keys_cols]
  refine decide_eq_true ?_
  have : (NestedKey.tup (l.map fun (n : Nat) => NestedKey.num (n : Int))).depth = NestedKey.depthAll (l.map fun (n : Nat) => NestedKey.num (n : Int)) + 1 := by
    simp only [NestedKey.depth]
  rw [this, depth_nums]
  omega
def kvL (v : List Nat → D) (ls : List (List Nat)) : List (D × D) := ls.map fun l => (tc l, v l)
theorem put_new {v : List Nat → D} {ls : List (List Nat)} {l : List Nat} {d : D} (h : l ∉ ls) (hl : ls.length ≤ 1000000) : dPut (kvL v ls) (tc l) d = some (kvL v ls ++ [(tc l, d)]) := by
  unfold dPut
  have ha : ((kvL v ls).all fun p => tupK p.1) = true := by
    rw [List.all_eq_true]
    intro p hp
    obtain ⟨m, _, rfl⟩ := List.mem_map.mp hp
    exact tupK_tc m
  rw [if_pos]
  · congr 1
    unfold dStore
    rw [if_neg]
    rw [List.any_eq_true]
    rintro ⟨p, hp, e⟩
    obtain ⟨m, hm, rfl⟩ := List.mem_map.mp hp
    exact h (key_inj (of_decide_eq_true e) ▸ hm)
  · refine ⟨by rw [tupK_tc, ha]; simp, ?_⟩
    unfold kvL
    rw [List.length_map, sizeLine_eq]
    omega
theorem get_kv {v : List Nat → D} {ls : List (List Nat)} {l : List Nat} (h : l ∈ ls) : dGet (kvL v ls) (tc l) = some (some (v l)) := by
  unfold dGet
  have ha : ((kvL v ls).all fun p => tupK p.1) = true := by
    rw [List.all_eq_true]
    intro p hp
    obtain ⟨m, _, rfl⟩ := List.mem_map.mp hp
    exact tupK_tc m
  rw [if_pos (by rw [tupK_tc, ha]; simp)]
  congr 1
  unfold dFind
  cases e : (kvL v ls).find? fun p => decide (Xm.keyOf p.1 = Xm.keyOf (tc l)) with
  | none =>
    have := List.find?_eq_none.mp e (tc l, v l) (List.mem_map.mpr ⟨l, h, rfl⟩)
    exact absurd (decide_eq_true rfl) this
  | some p =>
    have h1 := List.find?_some e
    have h2 := List.mem_of_find?_eq_some e
    obtain ⟨m, _, rfl⟩ := List.mem_map.mp h2
    have := key_inj (of_decide_eq_true h1)
    subst this
    rfl
theorem kv_fst (v : List Nat → D) (ls : List (List Nat)) : (kvL v ls).map (·.1) = ls.map tc := by
  unfold kvL
  rw [List.map_map]
  rfl
theorem kv_snd (v : List Nat → D) (ls : List (List Nat)) : (kvL v ls).map (·.2) = ls.map v := by
  unfold kvL
  rw [List.map_map]
  rfl
theorem dcm_all {u : D → AS → Option AS} {tk tv : EF} {vs : List Nat} (v : List Nat → D) (S : AS) : ∀ (ls as : List (List Nat)), (as ++ ls).Nodup → as.length + ls.length ≤ 1000000 →
    (∀ l ∈ ls, ∃ s1, u (tc l) S = some s1 ∧ ∃ s2, tk s1 = some (tc l, s2) ∧ ∃ s3, tv s2 = some (v l, s3) ∧ Xm.clr s3 vs = S) → dcmL u yesB tk tv vs (ls.map tc) S (kvL v as) = some (kvL v (as ++ ls), S)
  | [], as, _, _, _ => by rw [List.append_nil]; rfl
  | l :: ls, as, hn, hl, h => by
    obtain ⟨s1, e1, s2, e2, s3, e3, e4⟩ := h l (.head _)
    rw [List.length_cons] at hl
    have hnl : l ∉ as := fun hm => by
      have := (List.nodup_append.mp hn).2.2 l hm l (.head _)
      exact this rfl
    have ih := dcm_all v S ls (as ++ [l]) (by rw [List.append_assoc]; exact hn) (by rw [List.length_append, List.length_singleton]; omega) fun x hx => h x (.tail _ hx)
    have e5 := put_new (v := v) (d := v l) hnl (by omega)
    have e6 : kvL v as ++ [(tc l, v l)] = kvL v (as ++ [l]) := by unfold kvL; rw [List.map_append]; rfl
    rw [e6] at e5
    rw [List.map_cons]
    unfold dcmL
    rw [e1]
    simp only [Option.bind_some, yesB, if_true, e2, e3, e5, e4, ih]
    rw [List.append_assoc]
    rfl
theorem wp_compM {it : LF} {u : D → AS → Option AS} {tt : BF} {tk tv : EF} {vs : List Nat} {st : AS} {QM : List (D × D) → AS → Prop} (w : Wp it st fun ds s1 => allNo s1 vs = true ∧ ∃ r, dcmL u tt tk tv vs ds s1 [] = some r ∧ QM r.1 r.2) : Wp (compM it u tt tk tv vs) st QM := by
  obtain ⟨ds, s1, e, h, r, e2, q⟩ := w
  exact ⟨r.1, r.2, by unfold compM; rw [e]; simp only [Option.bind_some]; rw [if_pos h]; exact e2, q⟩
def few (rows : List (List D)) (c : Nat) : Int := (((orders c).map (tot rows)).min?).getD 0
def bests (rows : List (List D)) (c : Nat) : List (List Nat) := srt ((orders c).filter fun l => decide (tot rows l = few rows c))
theorem range_in {c : Nat} (h2 : 2 ≤ c) (h6 : c ≤ 6) : ∃ l, l ∈ orders c := by
  rcases one_way (l := List.range c) List.nodup_range (by rw [List.length_range]; exact h2) with h | h
  · exact ⟨_, (orders_mem h6).mpr ⟨List.Perm.refl _, h⟩⟩
  · exact ⟨_, (orders_mem h6).mpr ⟨List.reverse_perm _, h⟩⟩
theorem few_min {rows : List (List D)} {c : Nat} (h2 : 2 ≤ c) (h6 : c ≤ 6) : ((orders c).map (tot rows)).min? = some (few rows c) := by
  obtain ⟨l, hl⟩ := range_in h2 h6
  unfold few
  cases e : ((orders c).map (tot rows)).min? with
  | none =>
    rw [List.min?_eq_none_iff, List.map_eq_nil_iff] at e
    rw [e] at hl
    cases hl
  | some m => rfl
theorem few_le {rows : List (List D)} {c : Nat} (h2 : 2 ≤ c) (h6 : c ≤ 6) {l : List Nat} (h : l ∈ orders c) : few rows c ≤ tot rows l := (List.min?_eq_some_iff.mp (few_min (rows := rows) h2 h6)).2 _ (List.mem_map.mpr ⟨l, h, rfl⟩)
theorem few_at {rows : List (List D)} {c : Nat} (h2 : 2 ≤ c) (h6 : c ≤ 6) : ∃ l ∈ orders c, tot rows l = few rows c := by
  obtain ⟨l, hl, e⟩ := List.mem_map.mp (List.min?_eq_some_iff.mp (few_min (rows := rows) h2 h6)).1
  exact ⟨l, hl, e⟩
theorem bests_mem {rows : List (List D)} {c : Nat} (h6 : c ≤ 6) {l : List Nat} : l ∈ bests rows c ↔ l.Perm (List.range c) ∧ lexN l l.reverse = true ∧ tot rows l = few rows c := by
  unfold bests
  rw [(srt_perm _).mem_iff, List.mem_filter, orders_mem h6, decide_eq_true_eq, and_assoc]
theorem bests_len {rows : List (List D)} {c : Nat} (h6 : c ≤ 6) : (bests rows c).length ≤ 46656 := by
  unfold bests
  rw [(srt_perm _).length_eq]
  have := orders_len h6
  have h3 : ((orders c).filter fun l => decide (tot rows l = few rows c)).length ≤ (orders c).length := List.length_filter_le _ _
  omega
theorem ints_of : ∀ ls : List (List Nat), ∀ rows : List (List D), (ls.map fun l => PyData.int (tot rows l)) = (ls.map (tot rows)).map PyData.int := fun ls rows => by rw [List.map_map]; rfl
theorem m_best {c : Nat} {rows : List (List D)} (hr : ∀ r ∈ rows, RowOk c r) (h1 : 1 ≤ rows.length) (hn : rows.length ≤ 1000) (h2 : 2 ≤ c) (h6 : c ≤ 6) :
    mf_best_orders [.tuple (rows.map PyData.tuple)] = some (.val (.tuple [.int (few rows c), .list ((bests rows c).map tc)])) := by
  have hcr : ∀ l : List Nat, l.Perm (List.range c) → mf_crossings [.tuple (rows.map PyData.tuple), tc l] = some (.val (.int (tot rows l))) := fun l hl => m_crossings hr (perm_lt hl) (by rw [perm_len hl]; omega) hn
  have hmin := few_min (rows := rows) h2 h6
  have hor := m_orders_of h6
  have hlen := orders_len h6
  have hnd := orders_nodup c
  have hbl := bests_len (rows := rows) h6
  obtain ⟨r0, rs, e0⟩ : ∃ r0 rs, rows = r0 :: rs := by
    cases rows with
    | nil => simp at h1
    | cons a b => exact ⟨a, b, rfl⟩
  have l0 : r0.length = c := (hr r0 (by rw [e0]; exact .head _)).1
  have hix : kIx (.tuple (rows.map PyData.tuple)) (.int 0) = some (.tuple r0) := by rw [e0, List.map_cons]; exact ix_t0
  rw [← l0] at hor
  rw [show orders r0.length = orders c by rw [l0]] at hor
  have hperm : ∀ l ∈ orders c, l.Perm (List.range c) := fun l hl => ((orders_mem h6).mp hl).1
  have hbs : bests rows c = srt ((orders c).filter fun l => decide (tot rows l = few rows c)) := rfl
  generalize hT : PyData.tuple (rows.map PyData.tuple) = T at hcr hix
  generalize orders c = os at hmin hor hlen hnd hperm hbs
  have hmv : kMinV (.dict (kvL (fun l => .int (tot rows l)) os)) = some (.int (few rows c)) := by
    show (intsD ((kvL (fun l => .int (tot rows l)) os).map (·.2))).bind _ = _
    rw [kv_snd, ints_of, intsD_map, Option.bind_some, hmin]
    rfl
  have hne : ∀ l ∈ os.filter (fun l => decide (tot rows l = few rows c)), l ≠ [] := fun l hl z => by
    have := perm_len (hperm l (List.mem_filter.mp hl).1)
    rw [z] at this
    simp at this
    omega
  have hfl : (os.filter fun l => decide (tot rows l = few rows c)).length ≤ 46656 := Nat.le_trans (List.length_filter_le _ _) hlen
  have hso := k_sortedL (ls := os.filter fun l => decide (tot rows l = few rows c)) (sl_le (by omega)) hne
  rw [← hbs] at hso
  refine runP_wp ?_
  unfold g_best_orders
  refine wp_seq (wp_asgM (wp_compM ?_))
  repeat (first
    | with_reducible refine Xm.wp_seq ?_
    | with_reducible refine Xm.wp_asg ?_
    | with_reducible refine Xm.wp_bin2 ?_
    | with_reducible refine Xm.wp_un1 ?_
    | with_reducible refine Xm.wp_consA ?_
    | with_reducible refine Xm.wp_nilA ?_
    | with_reducible refine Xm.wp_cst ?_
    | with_reducible refine Xm.wp_valB ?_
    | with_reducible refine Xm.wp_ifS ?_
    | with_reducible refine Xm.wp_rvD ?_
    | with_reducible refine Xm.wp_rvN ?_
    | with_reducible refine Xm.wp_callP0 ?_
    | with_reducible refine Xm.wp_callP ?_
    | with_reducible refine Xm.wp_callK ?_
    | with_reducible refine Xm.wp_skip ?_
    | with_reducible refine Xm.wp_retS ?_
    | with_reducible refine Xm.wp_retN ?_
    | with_reducible refine Xm.wp_drop ?_
    | with_reducible refine Xm.wp_asgN ?_
    | with_reducible refine Xm.wp_andB ?_
    | with_reducible refine Xm.wp_orB ?_
    | with_reducible refine Xm.wp_notB ?_
    | with_reducible refine Xm.wp_yesB ?_
    | with_reducible refine Xm.wp_boolE ?_
    | with_reducible refine Xm.wp_ifE ?_
    | with_reducible refine Xm.wp_tupF ?_
    | with_reducible refine Xm.wp_lstF ?_
    | with_reducible refine Xm.wp_newF ?_
    | with_reducible refine Xm.wp_listE ?_
    | with_reducible refine Xm.wp_itD ?_
    | with_reducible refine Xm.wp_for ?_
    | with_reducible refine Xm.wp_clr ?_
    | with_reducible refine Xm.wp_par2 ?_
    | with_reducible refine Xm.wp_asgT ?_
    | with_reducible refine Xm.wp_compF ?_
    | with_reducible refine Xm.wp_compR ?_
    | with_reducible refine Xm.wp_itR1 ?_
    | with_reducible refine Xm.wp_cutF ?_
    | with_reducible refine Xm.wp_noO ?_
    | with_reducible refine Xm.wp_someO ?_
    | with_reducible refine Xm.wp_chE ?_
    | with_reducible refine Xm.wp_raise ?_
    | with_reducible refine Xm.wp_retX ?_
    | with_reducible refine Xm.wp_asgX ?_
    | with_reducible refine Xm.wp_dropX ?_
    | with_reducible refine Xm.wp_try ?_
    | with_reducible refine Xm.wp_itK ?_
    | with_reducible refine Xm.wp_itEnum ?_
    | with_reducible refine Xm.wp_asgM ?_
    | with_reducible refine Xm.wp_dicE ?_
    | with_reducible refine Xm.wp_bN ?_
    | with_reducible refine Xm.wp_itEnumA ?_
    | with_reducible refine Xm.wp_rvM ?_
    | with_reducible refine Xm.wp_retD ?_
    | with_reducible refine Xm.wp_compM ?_
    | with_reducible refine Xm.ite_tt ?_
    | with_reducible refine Xm.ite_ff ?_
    | with_reducible refine Xm.ite_nt ?_
    | with_reducible refine Xm.ite_nf ?_
    | with_reducible refine Xm.ite_nes ?_
    | with_reducible refine Xm.ite_eqs ?_
    | with_reducible refine Xm.ite_nei ?_
    | with_reducible refine Xm.ite_eqi ?_
    | with_reducible refine Xm.ex_le ?_
    | with_reducible refine Xm.ex_lt ?_
    | with_reducible refine Xm.ex_bool ?_
    | with_reducible refine Xm.ex_new ?_
    | with_reducible refine Xm.ex_int ?_
    | with_reducible refine Xm.ex_of Xm.k_cat ?_
    | with_reducible refine Xm.ex_of Xm.k_sub ?_
    | with_reducible refine Xm.ex_of Xm.k_lt ?_
    | with_reducible refine Xm.ex_of Xm.k_le ?_
    | with_reducible refine Xm.ex_of Xm.k_gt ?_
    | with_reducible refine Xm.ex_of Xm.k_ge ?_
    | with_reducible refine Xm.ex_of Xm.k_eqI ?_
    | with_reducible refine Xm.ex_of Xm.k_neI ?_
    | with_reducible refine Xm.ex_of Xm.k_eqStr ?_
    | with_reducible refine Xm.ex_of Xm.k_neStr ?_
    | with_reducible refine Xm.ex_of Xm.k_neg ?_
    | with_reducible refine Xm.ex_of Xm.k_abs ?_
    | with_reducible refine Xm.ex_of Xm.k_lenL ?_
    | with_reducible refine Xm.ex_of Xm.k_lenT ?_
    | with_reducible refine Xm.ex_of Xm.k_list ?_
    | with_reducible refine Xm.ex_of Xm.k_listT ?_
    | with_reducible refine Xm.ex_of Xm.k_tupL ?_
    | with_reducible refine Xm.ex_of Xm.k_tupT ?_
    | with_reducible refine Xm.ex_of Xm.k_intB ?_
    | with_reducible refine Xm.ex_of Xm.ix_t0 ?_
    | with_reducible refine Xm.ex_of Xm.ix_t1 ?_
    | with_reducible refine Xm.ex_of Xm.ix_t2 ?_
    | with_reducible refine Xm.ex_of Xm.ix_l0 ?_
    | with_reducible refine Xm.ex_of Xm.ix_l1 ?_
    | with_reducible refine Xm.ex_of Xm.ix_l2 ?_
    | with_reducible refine Xm.ex_of Xm.k_isa ?_
    | with_reducible refine Xm.ex_of Xm.k_cutL ?_
    | with_reducible refine Xm.ex_of Xm.k_cutT ?_
    | with_reducible refine Xm.ex_of Xm.ix_sh0 ?_
    | with_reducible refine Xm.ex_of Xm.ix_sh1 ?_
    | with_reducible refine Xm.ex_of (Xm.k_eqS _ _) ?_
    | ((with_reducible apply Xm.ex_of); · with_reducible assumption)
    | ((with_reducible apply Xm.ex_arr); · (simp only [arr, List.map_cons, List.map_nil, List.getD_cons_zero, List.getD_cons_succ]; rfl))
    | ((with_reducible apply Xm.np_and); · rfl)
    | ((with_reducible apply Xm.np_and); · (show npB _ = true; with_reducible assumption))
    | ((with_reducible apply Xm.len_and); · exact Nat.le_of_ble_eq_true rfl)
    | ((with_reducible apply Xm.mu_and); · rfl)
    | ((with_reducible apply Xm.ite_t); · with_reducible assumption)
    | ((with_reducible apply Xm.ite_f); · with_reducible assumption)
    | ((with_reducible apply Xm.ite_nbt); · with_reducible assumption)
    | ((with_reducible apply Xm.ite_nbf); · with_reducible assumption)
    | ((with_reducible apply Xm.ex_oo); · with_reducible assumption)
    | ((with_reducible apply Xm.dcv_and); · rfl)
    | ((with_reducible apply Xm.dcc_and); · rfl)
    | with_reducible refine Xm.ex_dct ?_
    | ((with_reducible apply Xm.nop_and); · rfl)
    | ((with_reducible apply Xm.wp_rd); · rfl)
    | ((with_reducible apply Xm.wp_rdo); · rfl)
    | ((with_reducible apply Xm.wp_callQ); · rfl)
    | ((with_reducible apply Xm.wp_ixM); · rfl)
    | ((with_reducible apply Xm.wp_lenM); · rfl)
    | ((with_reducible apply Xm.wp_appM); · rfl)
    | ((with_reducible apply Xm.wp_extM); · rfl)
    | ((with_reducible apply Xm.wp_popM); · rfl)
    | ((with_reducible apply Xm.wp_revM); · rfl)
    | ((with_reducible apply Xm.wp_reprM); · rfl)
    | ((with_reducible apply Xm.wp_retM); · rfl)
    | ((with_reducible apply Xm.wp_retMd); · rfl)
    | ((with_reducible apply Xm.wp_aug); · rfl)
    | ((with_reducible apply Xm.wp_setM); · rfl)
    | ((with_reducible apply Xm.wp_frz); · rfl)
    | ((with_reducible apply Xm.wp_frz2); · rfl)
    | ((with_reducible apply Xm.wp_ixD); · rfl)
    | ((with_reducible apply Xm.wp_getD1); · rfl)
    | ((with_reducible apply Xm.wp_getD2); · rfl)
    | ((with_reducible apply Xm.wp_putD); · rfl)
    | ((with_reducible apply Xm.wp_extN); · rfl)
    | ((with_reducible apply Xm.wp_callD); · rfl)
    | ((with_reducible apply Xm.wp_isaM); · rfl))
  refine ⟨_, .inl rfl, rfl, ?_⟩
  have hd := dcm_all (u := setD 3) (tk := rd 3) (tv := rvD (callP mf_crossings [] (consA (rd 0) (consA (rd 3) nilA)))) (vs := [3]) (fun l => .int (tot rows l)) [.dat T, .no, .no, .no] os [] (by rw [List.nil_append]; exact hnd) (by simp; omega) fun l hl => by
    have hk := hcr l (hperm l hl)
    generalize tc l = Q at hk
    refine ⟨[.dat T, .no, .no, .dat Q], rfl, [.dat T, .no, .no, .dat Q], rfl, [.dat T, .no, .no, .dat Q], ?_, rfl⟩
    simp [hk]
  rw [List.nil_append] at hd
  refine ⟨_, hd, rfl, ?_⟩
  clear hcr hd
  dsimp only
  have hg : ∀ l ∈ os, dGet (kvL (fun l => .int (tot rows l)) os) (tc l) = some (some (.int (tot rows l))) := fun l hl => get_kv (v := fun l => .int (tot rows l)) hl
  have hf := kv_fst (fun l => .int (tot rows l)) os
  generalize kvL (fun l => .int (tot rows l)) os = KV at hmv hg hf
  repeat (first
    | with_reducible refine Xm.wp_seq ?_
    | with_reducible refine Xm.wp_asg ?_
    | with_reducible refine Xm.wp_bin2 ?_
    | with_reducible refine Xm.wp_un1 ?_
    | with_reducible refine Xm.wp_consA ?_
    | with_reducible refine Xm.wp_nilA ?_
    | with_reducible refine Xm.wp_cst ?_
    | with_reducible refine Xm.wp_valB ?_
    | with_reducible refine Xm.wp_ifS ?_
    | with_reducible refine Xm.wp_rvD ?_
    | with_reducible refine Xm.wp_rvN ?_
    | with_reducible refine Xm.wp_callP0 ?_
    | with_reducible refine Xm.wp_callP ?_
    | with_reducible refine Xm.wp_callK ?_
    | with_reducible refine Xm.wp_skip ?_
    | with_reducible refine Xm.wp_retS ?_
    | with_reducible refine Xm.wp_retN ?_
    | with_reducible refine Xm.wp_drop ?_
    | with_reducible refine Xm.wp_asgN ?_
    | with_reducible refine Xm.wp_andB ?_
    | with_reducible refine Xm.wp_orB ?_
    | with_reducible refine Xm.wp_notB ?_
    | with_reducible refine Xm.wp_yesB ?_
    | with_reducible refine Xm.wp_boolE ?_
    | with_reducible refine Xm.wp_ifE ?_
    | with_reducible refine Xm.wp_tupF ?_
    | with_reducible refine Xm.wp_lstF ?_
    | with_reducible refine Xm.wp_newF ?_
    | with_reducible refine Xm.wp_listE ?_
    | with_reducible refine Xm.wp_itD ?_
    | with_reducible refine Xm.wp_for ?_
    | with_reducible refine Xm.wp_clr ?_
    | with_reducible refine Xm.wp_par2 ?_
    | with_reducible refine Xm.wp_asgT ?_
    | with_reducible refine Xm.wp_compF ?_
    | with_reducible refine Xm.wp_compR ?_
    | with_reducible refine Xm.wp_itR1 ?_
    | with_reducible refine Xm.wp_cutF ?_
    | with_reducible refine Xm.wp_noO ?_
    | with_reducible refine Xm.wp_someO ?_
    | with_reducible refine Xm.wp_chE ?_
    | with_reducible refine Xm.wp_raise ?_
    | with_reducible refine Xm.wp_retX ?_
    | with_reducible refine Xm.wp_asgX ?_
    | with_reducible refine Xm.wp_dropX ?_
    | with_reducible refine Xm.wp_try ?_
    | with_reducible refine Xm.wp_itK ?_
    | with_reducible refine Xm.wp_itEnum ?_
    | with_reducible refine Xm.wp_asgM ?_
    | with_reducible refine Xm.wp_dicE ?_
    | with_reducible refine Xm.wp_bN ?_
    | with_reducible refine Xm.wp_itEnumA ?_
    | with_reducible refine Xm.wp_rvM ?_
    | with_reducible refine Xm.wp_retD ?_
    | with_reducible refine Xm.wp_compM ?_
    | with_reducible refine Xm.ite_tt ?_
    | with_reducible refine Xm.ite_ff ?_
    | with_reducible refine Xm.ite_nt ?_
    | with_reducible refine Xm.ite_nf ?_
    | with_reducible refine Xm.ite_nes ?_
    | with_reducible refine Xm.ite_eqs ?_
    | with_reducible refine Xm.ite_nei ?_
    | with_reducible refine Xm.ite_eqi ?_
    | with_reducible refine Xm.ex_le ?_
    | with_reducible refine Xm.ex_lt ?_
    | with_reducible refine Xm.ex_bool ?_
    | with_reducible refine Xm.ex_new ?_
    | with_reducible refine Xm.ex_int ?_
    | with_reducible refine Xm.ex_of Xm.k_cat ?_
    | with_reducible refine Xm.ex_of Xm.k_sub ?_
    | with_reducible refine Xm.ex_of Xm.k_lt ?_
    | with_reducible refine Xm.ex_of Xm.k_le ?_
    | with_reducible refine Xm.ex_of Xm.k_gt ?_
    | with_reducible refine Xm.ex_of Xm.k_ge ?_
    | with_reducible refine Xm.ex_of Xm.k_eqI ?_
    | with_reducible refine Xm.ex_of Xm.k_neI ?_
    | with_reducible refine Xm.ex_of Xm.k_eqStr ?_
    | with_reducible refine Xm.ex_of Xm.k_neStr ?_
    | with_reducible refine Xm.ex_of Xm.k_neg ?_
    | with_reducible refine Xm.ex_of Xm.k_abs ?_
    | with_reducible refine Xm.ex_of Xm.k_lenL ?_
    | with_reducible refine Xm.ex_of Xm.k_lenT ?_
    | with_reducible refine Xm.ex_of Xm.k_list ?_
    | with_reducible refine Xm.ex_of Xm.k_listT ?_
    | with_reducible refine Xm.ex_of Xm.k_tupL ?_
    | with_reducible refine Xm.ex_of Xm.k_tupT ?_
    | with_reducible refine Xm.ex_of Xm.k_intB ?_
    | with_reducible refine Xm.ex_of Xm.ix_t0 ?_
    | with_reducible refine Xm.ex_of Xm.ix_t1 ?_
    | with_reducible refine Xm.ex_of Xm.ix_t2 ?_
    | with_reducible refine Xm.ex_of Xm.ix_l0 ?_
    | with_reducible refine Xm.ex_of Xm.ix_l1 ?_
    | with_reducible refine Xm.ex_of Xm.ix_l2 ?_
    | with_reducible refine Xm.ex_of Xm.k_isa ?_
    | with_reducible refine Xm.ex_of Xm.k_cutL ?_
    | with_reducible refine Xm.ex_of Xm.k_cutT ?_
    | with_reducible refine Xm.ex_of Xm.ix_sh0 ?_
    | with_reducible refine Xm.ex_of Xm.ix_sh1 ?_
    | with_reducible refine Xm.ex_of (Xm.k_eqS _ _) ?_
    | ((with_reducible apply Xm.ex_of); · with_reducible assumption)
    | ((with_reducible apply Xm.ex_arr); · (simp only [arr, List.map_cons, List.map_nil, List.getD_cons_zero, List.getD_cons_succ]; rfl))
    | ((with_reducible apply Xm.np_and); · rfl)
    | ((with_reducible apply Xm.np_and); · (show npB _ = true; with_reducible assumption))
    | ((with_reducible apply Xm.len_and); · exact Nat.le_of_ble_eq_true rfl)
    | ((with_reducible apply Xm.mu_and); · rfl)
    | ((with_reducible apply Xm.ite_t); · with_reducible assumption)
    | ((with_reducible apply Xm.ite_f); · with_reducible assumption)
    | ((with_reducible apply Xm.ite_nbt); · with_reducible assumption)
    | ((with_reducible apply Xm.ite_nbf); · with_reducible assumption)
    | ((with_reducible apply Xm.ex_oo); · with_reducible assumption)
    | ((with_reducible apply Xm.dcv_and); · rfl)
    | ((with_reducible apply Xm.dcc_and); · rfl)
    | with_reducible refine Xm.ex_dct ?_
    | ((with_reducible apply Xm.nop_and); · rfl)
    | ((with_reducible apply Xm.wp_rd); · rfl)
    | ((with_reducible apply Xm.wp_rdo); · rfl)
    | ((with_reducible apply Xm.wp_callQ); · rfl)
    | ((with_reducible apply Xm.wp_ixM); · rfl)
    | ((with_reducible apply Xm.wp_lenM); · rfl)
    | ((with_reducible apply Xm.wp_appM); · rfl)
    | ((with_reducible apply Xm.wp_extM); · rfl)
    | ((with_reducible apply Xm.wp_popM); · rfl)
    | ((with_reducible apply Xm.wp_revM); · rfl)
    | ((with_reducible apply Xm.wp_reprM); · rfl)
    | ((with_reducible apply Xm.wp_retM); · rfl)
    | ((with_reducible apply Xm.wp_retMd); · rfl)
    | ((with_reducible apply Xm.wp_aug); · rfl)
    | ((with_reducible apply Xm.wp_setM); · rfl)
    | ((with_reducible apply Xm.wp_frz); · rfl)
    | ((with_reducible apply Xm.wp_frz2); · rfl)
    | ((with_reducible apply Xm.wp_ixD); · rfl)
    | ((with_reducible apply Xm.wp_getD1); · rfl)
    | ((with_reducible apply Xm.wp_getD2); · rfl)
    | ((with_reducible apply Xm.wp_putD); · rfl)
    | ((with_reducible apply Xm.wp_extN); · rfl)
    | ((with_reducible apply Xm.wp_callD); · rfl)
    | ((with_reducible apply Xm.wp_isaM); · rfl))
  refine ⟨KV, rfl, ?_⟩
  rw [hf]
  refine ⟨⟨rfl, sl_le (by rw [List.length_map]; omega)⟩, ?_⟩
  have hc := compL_map (u := setD 3) (tt := valB (bin2 kEq (ixD 1 (rd 3)) (rd 2))) (te := rd 3) (vs := [3]) tc (fun l => decide (tot rows l = few rows c)) tc [.dat T, .dat (.dict KV), .dat (.int (few rows c)), .no] os fun l hl => by
    have hk := hg l hl
    generalize tc l = Q at hk
    refine ⟨[.dat T, .dat (.dict KV), .dat (.int (few rows c)), .dat Q], rfl, ?_, fun _ => ⟨[.dat T, .dat (.dict KV), .dat (.int (few rows c)), .dat Q], rfl, rfl⟩, fun _ => rfl⟩
    have hx : ixD 1 (rd 3) [.dat T, .dat (.dict KV), .dat (.int (few rows c)), .dat Q] = some (.int (tot rows l), [.dat T, .dat (.dict KV), .dat (.int (few rows c)), .dat Q]) := by
      unfold ixD dcV
      simp [hk]
    simp only [e_valB, e_bin2, hx]
    simp
    rfl
  refine wp_of hc ?_
  refine ⟨_, hso, ?_⟩
  repeat (first
    | with_reducible refine Xm.wp_seq ?_
    | with_reducible refine Xm.wp_asg ?_
    | with_reducible refine Xm.wp_bin2 ?_
    | with_reducible refine Xm.wp_un1 ?_
    | with_reducible refine Xm.wp_consA ?_
    | with_reducible refine Xm.wp_nilA ?_
    | with_reducible refine Xm.wp_cst ?_
    | with_reducible refine Xm.wp_valB ?_
    | with_reducible refine Xm.wp_ifS ?_
    | with_reducible refine Xm.wp_rvD ?_
    | with_reducible refine Xm.wp_rvN ?_
    | with_reducible refine Xm.wp_callP0 ?_
    | with_reducible refine Xm.wp_callP ?_
    | with_reducible refine Xm.wp_callK ?_
    | with_reducible refine Xm.wp_skip ?_
    | with_reducible refine Xm.wp_retS ?_
    | with_reducible refine Xm.wp_retN ?_
    | with_reducible refine Xm.wp_drop ?_
    | with_reducible refine Xm.wp_asgN ?_
    | with_reducible refine Xm.wp_andB ?_
    | with_reducible refine Xm.wp_orB ?_
    | with_reducible refine Xm.wp_notB ?_
    | with_reducible refine Xm.wp_yesB ?_
    | with_reducible refine Xm.wp_boolE ?_
    | with_reducible refine Xm.wp_ifE ?_
    | with_reducible refine Xm.wp_tupF ?_
    | with_reducible refine Xm.wp_lstF ?_
    | with_reducible refine Xm.wp_newF ?_
    | with_reducible refine Xm.wp_listE ?_
    | with_reducible refine Xm.wp_itD ?_
    | with_reducible refine Xm.wp_for ?_
    | with_reducible refine Xm.wp_clr ?_
    | with_reducible refine Xm.wp_par2 ?_
    | with_reducible refine Xm.wp_asgT ?_
    | with_reducible refine Xm.wp_compF ?_
    | with_reducible refine Xm.wp_compR ?_
    | with_reducible refine Xm.wp_itR1 ?_
    | with_reducible refine Xm.wp_cutF ?_
    | with_reducible refine Xm.wp_noO ?_
    | with_reducible refine Xm.wp_someO ?_
    | with_reducible refine Xm.wp_chE ?_
    | with_reducible refine Xm.wp_raise ?_
    | with_reducible refine Xm.wp_retX ?_
    | with_reducible refine Xm.wp_asgX ?_
    | with_reducible refine Xm.wp_dropX ?_
    | with_reducible refine Xm.wp_try ?_
    | with_reducible refine Xm.wp_itK ?_
    | with_reducible refine Xm.wp_itEnum ?_
    | with_reducible refine Xm.wp_asgM ?_
    | with_reducible refine Xm.wp_dicE ?_
    | with_reducible refine Xm.wp_bN ?_
    | with_reducible refine Xm.wp_itEnumA ?_
    | with_reducible refine Xm.wp_rvM ?_
    | with_reducible refine Xm.wp_retD ?_
    | with_reducible refine Xm.wp_compM ?_
    | with_reducible refine Xm.ite_tt ?_
    | with_reducible refine Xm.ite_ff ?_
    | with_reducible refine Xm.ite_nt ?_
    | with_reducible refine Xm.ite_nf ?_
    | with_reducible refine Xm.ite_nes ?_
    | with_reducible refine Xm.ite_eqs ?_
    | with_reducible refine Xm.ite_nei ?_
    | with_reducible refine Xm.ite_eqi ?_
    | with_reducible refine Xm.ex_le ?_
    | with_reducible refine Xm.ex_lt ?_
    | with_reducible refine Xm.ex_bool ?_
    | with_reducible refine Xm.ex_new ?_
    | with_reducible refine Xm.ex_int ?_
    | with_reducible refine Xm.ex_of Xm.k_cat ?_
    | with_reducible refine Xm.ex_of Xm.k_sub ?_
    | with_reducible refine Xm.ex_of Xm.k_lt ?_
    | with_reducible refine Xm.ex_of Xm.k_le ?_
    | with_reducible refine Xm.ex_of Xm.k_gt ?_
    | with_reducible refine Xm.ex_of Xm.k_ge ?_
    | with_reducible refine Xm.ex_of Xm.k_eqI ?_
    | with_reducible refine Xm.ex_of Xm.k_neI ?_
    | with_reducible refine Xm.ex_of Xm.k_eqStr ?_
    | with_reducible refine Xm.ex_of Xm.k_neStr ?_
    | with_reducible refine Xm.ex_of Xm.k_neg ?_
    | with_reducible refine Xm.ex_of Xm.k_abs ?_
    | with_reducible refine Xm.ex_of Xm.k_lenL ?_
    | with_reducible refine Xm.ex_of Xm.k_lenT ?_
    | with_reducible refine Xm.ex_of Xm.k_list ?_
    | with_reducible refine Xm.ex_of Xm.k_listT ?_
    | with_reducible refine Xm.ex_of Xm.k_tupL ?_
    | with_reducible refine Xm.ex_of Xm.k_tupT ?_
    | with_reducible refine Xm.ex_of Xm.k_intB ?_
    | with_reducible refine Xm.ex_of Xm.ix_t0 ?_
    | with_reducible refine Xm.ex_of Xm.ix_t1 ?_
    | with_reducible refine Xm.ex_of Xm.ix_t2 ?_
    | with_reducible refine Xm.ex_of Xm.ix_l0 ?_
    | with_reducible refine Xm.ex_of Xm.ix_l1 ?_
    | with_reducible refine Xm.ex_of Xm.ix_l2 ?_
    | with_reducible refine Xm.ex_of Xm.k_isa ?_
    | with_reducible refine Xm.ex_of Xm.k_cutL ?_
    | with_reducible refine Xm.ex_of Xm.k_cutT ?_
    | with_reducible refine Xm.ex_of Xm.ix_sh0 ?_
    | with_reducible refine Xm.ex_of Xm.ix_sh1 ?_
    | with_reducible refine Xm.ex_of (Xm.k_eqS _ _) ?_
    | ((with_reducible apply Xm.ex_of); · with_reducible assumption)
    | ((with_reducible apply Xm.ex_arr); · (simp only [arr, List.map_cons, List.map_nil, List.getD_cons_zero, List.getD_cons_succ]; rfl))
    | ((with_reducible apply Xm.np_and); · rfl)
    | ((with_reducible apply Xm.np_and); · (show npB _ = true; with_reducible assumption))
    | ((with_reducible apply Xm.len_and); · exact Nat.le_of_ble_eq_true rfl)
    | ((with_reducible apply Xm.mu_and); · rfl)
    | ((with_reducible apply Xm.ite_t); · with_reducible assumption)
    | ((with_reducible apply Xm.ite_f); · with_reducible assumption)
    | ((with_reducible apply Xm.ite_nbt); · with_reducible assumption)
    | ((with_reducible apply Xm.ite_nbf); · with_reducible assumption)
    | ((with_reducible apply Xm.ex_oo); · with_reducible assumption)
    | ((with_reducible apply Xm.dcv_and); · rfl)
    | ((with_reducible apply Xm.dcc_and); · rfl)
    | with_reducible refine Xm.ex_dct ?_
    | ((with_reducible apply Xm.nop_and); · rfl)
    | ((with_reducible apply Xm.wp_rd); · rfl)
    | ((with_reducible apply Xm.wp_rdo); · rfl)
    | ((with_reducible apply Xm.wp_callQ); · rfl)
    | ((with_reducible apply Xm.wp_ixM); · rfl)
    | ((with_reducible apply Xm.wp_lenM); · rfl)
    | ((with_reducible apply Xm.wp_appM); · rfl)
    | ((with_reducible apply Xm.wp_extM); · rfl)
    | ((with_reducible apply Xm.wp_popM); · rfl)
    | ((with_reducible apply Xm.wp_revM); · rfl)
    | ((with_reducible apply Xm.wp_reprM); · rfl)
    | ((with_reducible apply Xm.wp_retM); · rfl)
    | ((with_reducible apply Xm.wp_retMd); · rfl)
    | ((with_reducible apply Xm.wp_aug); · rfl)
    | ((with_reducible apply Xm.wp_setM); · rfl)
    | ((with_reducible apply Xm.wp_frz); · rfl)
    | ((with_reducible apply Xm.wp_frz2); · rfl)
    | ((with_reducible apply Xm.wp_ixD); · rfl)
    | ((with_reducible apply Xm.wp_getD1); · rfl)
    | ((with_reducible apply Xm.wp_getD2); · rfl)
    | ((with_reducible apply Xm.wp_putD); · rfl)
    | ((with_reducible apply Xm.wp_extN); · rfl)
    | ((with_reducible apply Xm.wp_callD); · rfl)
    | ((with_reducible apply Xm.wp_isaM); · rfl))
  rfl
end BoF
set_option Elab.async false
set_option linter.all false
set_option maxRecDepth 100000
set_option maxHeartbeats 2000000
namespace BoF
open PySem PySem.Spec PyProof.Rows L2 Xm DwF CrF ExF LxF
end BoF
set_option Elab.async false
set_option linter.all false
set_option maxRecDepth 100000
namespace Xm
open PySem PySem.Spec PyProof.Rows L2
section
variable {X : Cx} {C : Ct} {j k n m : Nat} {x : Str} {p pos kpos : Pos} {e : Expr} {es : List Expr} {kws : List Keyword} {g h : LF} {f : EF} {mf : List D → Option RV} {ks : List Str} {src : List (Nat ⊕ Nat)} {nm : Option Str}
end
end Xm
namespace Xm
open PySem PySem.Spec PyProof.Rows L2
end Xm
namespace Xm
open PySem PySem.Spec PyProof.Rows L2
end Xm
namespace Xm
open PySem PySem.Spec PyProof.Rows L2
end Xm
set_option Elab.async false
set_option linter.all false
set_option maxRecDepth 100000
namespace Xm
open PySem PySem.Spec PyProof.Rows L2
def spR (K : Kx) (n : Nat) (mf : List D → Option (D × List D)) : Sp := fun vs H Q _ => vs.length = n ∧ ∃ F ds r, Same F H ∧ DpAll K F vs ds ∧ mf ds = some r ∧
  ∀ (p a : Addr) (vx : V) (us : List V) (F' H' : Hp), Gr F H F' H' → H p = none → H a = none → p ≠ a → F' p = none → F' a = none → H' p = some (.tup [vx, .ref a]) → H' a = some (.lst us) → Dp K F' vx r.1 → DpAll K F' us r.2 → Q (.ref p) H'
structure HasR (P : Program) (w : World) (K : PySem.W.Frag) (mg : Str → Option Value) (base : Heap) (k : Nat) (x : Str) (n : Nat) (mf : List D → Option (D × List D)) : Prop where
  ex : ∃ (f : Addr) (fd : FuncData) (ps : List Str), FnG P w K mg base (CXM P w) k f fd ps (spR ⟨K, P, w, mg⟩ n mf) ∧ mg x = some (.ref f) ∧ PySem.W.keepIn K (.ref f) = true ∧ Binds K fd ps []
def plainB : Slot → Bool
  | .no => true
  | .dat _ => true
  | _ => false
def plainS (st : AS) : Bool := st.all plainB
theorem plain_at {st : AS} (h : plainS st = true) {i : Nat} {s : Slot} (e : st[i]? = some s) : plainB s = true := List.all_eq_true.mp h s (List.mem_of_getElem? e)
theorem plain_set {st : AS} (h : plainS st = true) (i : Nat) {s : Slot} (hs : plainB s = true) : plainS (st.set i s) = true := by
  refine List.all_eq_true.mpr fun x hx => ?_
  rcases List.mem_or_eq_of_mem_set hx with h1 | h1
  · exact List.all_eq_true.mp h x h1
  · rw [h1]; exact hs
theorem plain_mu {st : AS} (h : plainS st = true) {i : Nat} (m : Mu st i) : False := by
  obtain ⟨s, e, hm⟩ := m
  have := plain_at h e
  cases s <;> first | (cases this; done) | (cases hm; done)
theorem Rel.plain {K : Kx} {C : Ct} {F F' H H' : Hp} {st : AS} {σ : L2.St} (R : Rel K C F st σ H) (hp : plainS st = true) (ff : Same F F') (fh : Same F' H') (old : ∀ a o, C.H0 a = some o → C.pen ≠ some a → H' a = some o) (new : ∀ a, C.F0 a = none → C.H0 a ≠ none → F' a = none) (pent : ∀ p, C.pen = some p → H' p ≠ none) : Rel K C F' st σ H' where
  len := R.len
  f0 := R.f0.trans ff
  fh := fh
  old := old
  new := new
  slot := fun i s e => by
    have q := R.slot i s e
    have := plain_at hp e
    cases s with
    | no => trivial
    | dat d =>
      obtain ⟨v, h1, h2⟩ := q
      exact ⟨v, h1, Dp_up h2 ff⟩
    | own xs => cases this
    | pen xs => cases this
    | dct xs => cases this
    | pdc xs => cases this
    | obj o => cases this
  apart := fun i j a h => (plain_mu hp h).elim
  penh := R.penh
  pent := pent
theorem Rel.plainSet {K : Kx} {C : Ct} {F H : Hp} {st : AS} {σ : L2.St} (R : Rel K C F st σ H) (hp : plainS st = true) {i : Nat} {v : V} {s : Slot} (hs : plainB s = true) (hv : SlotOk K C F H s (some (some v))) (hi : i < st.length) : Rel K C F (st.set i s) (σ.set i (some v)) H where
  len := by rw [List.length_set, List.length_set]; exact R.len
  f0 := R.f0
  fh := R.fh
  old := R.old
  new := R.new
  slot := fun j u e => by
    by_cases hj : j = i
    · subst hj
      rw [List.getElem?_set_self hi] at e
      cases e
      rw [List.getElem?_set_self (by rw [← R.len]; exact hi)]
      exact hv
    · rw [List.getElem?_set_ne (Ne.symm hj)] at e ⊢
      exact R.slot j u e
  apart := fun j k a h => (plain_mu (plain_set hp i hs) h).elim
  penh := R.penh
  pent := R.pent
def blkR (mf : List D → Option (D × List D)) (g : LF) (i : Nat) (c : BF) : SF := fun st => (g st).bind fun a => (mf a.1).bind fun r => if plainS a.2 = true ∧ i < a.2.length ∧ r.2.length < sizeLine then (c (a.2.set i (.dat (.tuple [r.1, .list r.2])))).bind fun b => if b.1 = true then none else some (.nx, a.2.set i .no) else none
theorem wp_blkR {mf : List D → Option (D × List D)} {g : LF} {i : Nat} {c : BF} {st : AS} {Q : Fl → AS → Prop} (w : Wp g st fun xs s1 => ∃ r, mf xs = some r ∧ plainS s1 = true ∧ i < s1.length ∧ r.2.length < sizeLine ∧ Wp c (s1.set i (.dat (.tuple [r.1, .list r.2]))) fun b _ => b = false ∧ Q .nx (s1.set i .no)) : Wp (blkR mf g i c) st Q := by
  obtain ⟨xs, s1, e1, r, e2, h1, h2, h3, b, s2, e3, hb, q⟩ := w
  refine ⟨_, _, ?_, q⟩
  unfold blkR
  rw [e1]
  simp only [Option.bind_some, e2]
  rw [if_pos ⟨h1, h2, h3⟩, e3]
  simp only [Option.bind_some]
  rw [hb]
  rfl
section
variable {X : Cx} {C : Ct} {j k n m i : Nat} {x y : Str} {p p1 p2 p3 p4 p5 p6 p7 q2 q3 q4 q5 q6 q7 q8 pos pA pI : Pos} {j1 j2 j3 : Nat} {e test : Expr} {es : List Expr} {body rest : List Stmt} {g : LF} {mf : List D → Option (D × List D)} {c : BF} {u : SF}
theorem xs_blkR (h : HasR X.prog X.w X.K X.mg X.base j y n mf) (hr : Room k X.A) (gd : X.A.guards = some []) (hjk : j ≤ k) (ha : PA X (e :: es) (aOf (kxOf X) C g)) (hn : ArN g n) (hN : X.N.Nodup) (hi : X.N[i]? = some x) (hx : Loc X.env.scope x) (hv : Vis X.env.scope x) (ht : PT X test (bOf (kxOf X) C c)) (hrest : PSs X rest (sOf (kxOf X) C u))
    (hg : Gl X y := by rfl) (he : starEach (e :: es) X.env = (false, eval e X.env) :: starEach es X.env := by rfl) (hpl : (backTo pos (starEach es X.env)).any (·.1) = false := by rfl) (hdb : (y == ("__debug__" : Str)) = false := by decide)
    (hs : swapsWith (.Call (.Name y p) (e :: es) [] pos) (some (.Name x p1)) pA.line X.env = pure false := by rfl) (hf : X.fn x = true ∨ X.env.scope.names.lookup x = some .local := by first | exact .inl rfl | exact .inr rfl | assumption)
    (hd : (x == ("__debug__" : Str)) = false := by decide) (hcd : (x == ("__classdict__" : Str)) = false := by decide)
    (hb1 : attributeBase (.Subscript (.Name x p2) (.Constant (.int 1) j1 p3) p4) "reverse" X.env (eval (.Subscript (.Name x p2) (.Constant (.int 1) j1 p3) p4) X.env) = eval (.Subscript (.Name x p2) (.Constant (.int 1) j1 p3) p4) X.env := by rfl) (hl1 : (p5.endLine == p6.line) = true := by rfl)
    (hsw1 : swapsWith (.Call (.Attribute (.Subscript (.Name x p2) (.Constant (.int 1) j1 p3) p4) "reverse" p5) [] [] p6) none p7.line X.env = pure false := by rfl)
    (hb2 : attributeBase (.Subscript (.Name x q2) (.Constant (.int 1) j2 q3) q4) "append" X.env (eval (.Subscript (.Name x q2) (.Constant (.int 1) j2 q3) q4) X.env) = eval (.Subscript (.Name x q2) (.Constant (.int 1) j2 q3) q4) X.env := by rfl) (hl2 : (q5.endLine == q6.line) = true := by rfl)
    (hfew : ((backTo q6 (starEach [.Constant .none j3 q8] X.env)).all (fun x => !x.1) && (backToKw q6 (keywordEach [] X.env)).all (fun x => x.1.isSome) && decide ([Expr.Constant .none j3 q8].length + ([] : List Keyword).length + (if ([] : List Keyword).isEmpty then 0 else 1) < 30)) = true := by rfl)
    (hs2 : starEach [.Constant .none j3 q8] X.env = (false, eval (.Constant .none j3 q8) X.env) :: starEach [] X.env := by rfl) (hpl2 : (backTo q6 (starEach [] X.env)).any (·.1) = false := by rfl)
    (hsw2 : swapsWith (.Call (.Attribute (.Subscript (.Name x q2) (.Constant (.int 1) j2 q3) q4) "append" q5) [.Constant .none j3 q8] [] q6) none q7.line X.env = pure false := by rfl) :
    PSs X (.Assign [.Name x p1] (.Call (.Name y p) (e :: es) [] pos) pA :: .If test body [] pI :: .Expr (.Call (.Attribute (.Subscript (.Name x p2) (.Constant (.int 1) j1 p3) p4) "reverse" p5) [] [] p6) p7 ::
      .Expr (.Call (.Attribute (.Subscript (.Name x q2) (.Constant (.int 1) j2 q3) q4) "append" q5) [.Constant .none j3 q8] [] q6) q7 :: rest) (sOf (kxOf X) C (seqS (blkR mf g i c) u)) := by
  obtain ⟨f, fd, ps, G, hm, hk, hb⟩ := h.ex
  refine pss_wk (pss_cons (ps_set hN hi hx (pe_callG (E := E0) G (hr.mono hjk) gd hm hk hb .nil passL ha hg he hpl hdb) hs hf) (pss_cons (ps_if ht (t := fun _ _ _ => False) ⟨fun _ _ _ _ _ _ z => z.elim⟩ pss_nil)
    (pss_cons (ps_expr (pe_bm0 PySem.F.plainAttrs_list PySem.F.slot_list_reverse PySem.F.type_list_reverse mt_reverse (pe_ix ix_tup (pe_var hi hv hd hcd) pe_int (by exact fun _ _ => rfl)) hb1 hl1) hsw1)
    (pss_cons (ps_expr (pe_bm PySem.F.plainAttrs_list PySem.F.slot_list_append PySem.F.type_list_append mt_append (pe_ix ix_tup (pe_var hi hv hd hcd) pe_int (by exact fun _ _ => rfl)) (pa_cons pe_non pa_nil hs2) hb2 hfew hl2 hs2 hpl2) hsw2) hrest)))) fun Z σ H q => ?_
  obtain ⟨F, st, w, R, ew, q⟩ := seqS_ok q
  obtain ⟨a, ea, ew⟩ := Option.bind_eq_some_iff.mp ew
  obtain ⟨r, er, ew⟩ := Option.bind_eq_some_iff.mp ew
  split at ew
  · rename_i hc
    obtain ⟨hp, hil, hsz⟩ := hc
    obtain ⟨b, eb, ew⟩ := Option.bind_eq_some_iff.mp ew
    split at ew
    · cases ew
    rename_i hbf
    cases ew
    refine ⟨F, st, a, R, ea, fun vs H1 F1 s1 R1 d1 => ?_⟩
    show spR _ _ _ (vs ++ []) _ _ _
    rw [List.append_nil]
    refine ⟨by rw [DpAll_len d1]; exact hn st a ea, F1, a.1, r, R1.fh, d1, er, fun p l vx us F2 H2 gr hp1 hl1 hpl hFp hFl hHp hHl dx dl => ?_⟩
    have R2 := R1.grow gr
    have hG1 : Same F2 (upd F2 l (.lst us)) := same_upd hFl
    have hFp1 : upd F2 l (.lst us) p = none := by rw [upd_ne hpl]; exact hFp
    have hG2 : Same (upd F2 l (.lst us)) (upd (upd F2 l (.lst us)) p (.tup [vx, .ref l])) := same_upd hFp1
    have hFG := hG1.trans hG2
    have hGH : Same (upd (upd F2 l (.lst us)) p (.tup [vx, .ref l])) H2 := fun b o eo => by
      by_cases h1 : b = p
      · subst h1; rw [upd_same] at eo; cases eo; exact hHp
      · rw [upd_ne h1] at eo
        by_cases h2 : b = l
        · subst h2; rw [upd_same] at eo; cases eo; exact hHl
        · rw [upd_ne h2] at eo; exact R2.fh _ _ eo
    have hGl : upd (upd F2 l (.lst us)) p (.tup [vx, .ref l]) l = some (.lst us) := hG2 _ _ upd_same
    have hGp : upd (upd F2 l (.lst us)) p (.tup [vx, .ref l]) p = some (.tup [vx, .ref l]) := upd_same
    have noH0 : ∀ b, H1 b = none → C.H0 b ≠ none → C.pen = some b := fun b hb hb0 => by
      cases e0 : C.H0 b with
      | none => exact absurd e0 hb0
      | some o =>
        by_cases hpe : C.pen = some b
        · exact hpe
        · have := R1.old b o e0 hpe
          rw [hb] at this
          cases this
    have R3' : Rel (kxOf X) C (upd (upd F2 l (.lst us)) p (.tup [vx, .ref l])) a.2 σ H2 := R2.plain hp hFG hGH R2.old (fun b h0 h1 => by
      have hb := R2.new b h0 h1
      have n1 : b ≠ p := fun z => by subst z; exact R1.pent b (noH0 b hp1 h1) hp1
      have n2 : b ≠ l := fun z => by subst z; exact R1.pent b (noH0 b hl1 h1) hl1
      rw [upd_ne n1, upd_ne n2]
      exact hb) R2.pent
    generalize hGG : upd (upd F2 l (.lst us)) p (.tup [vx, .ref l]) = GG at *
    have dfound : Dp (kxOf X) GG (.ref p) (.tuple [r.1, .list r.2]) := .tup (.inl (.inl hGp)) (.cons (Dp_up dx hFG) (.cons (.lst (.inl (.inl hGl)) (DpAll_up dl hFG)) .nil))
    have R3 := R3'.plainSet hp (i := i) (v := .ref p) (s := .dat (.tuple [r.1, .list r.2])) rfl ⟨_, rfl, dfound⟩ hil
    refine ⟨GG, _, b, R3, eb, fun H3 F3 s3 R4 => ?_⟩
    dsimp only
    rw [if_neg hbf]
    have h3 : ∀ b o, GG b = some o → H3 b = some o := fun b o eo => R4.fh _ _ (s3 _ _ eo)
    have h3p := h3 _ _ hGp
    have h3l := h3 _ _ hGl
    have hsl : i < σ.length := by rw [← R2.len]; exact hil
    have hget : (σ.set i (some (V.ref p)))[i]? = some (some (.ref p)) := List.getElem?_set_self hsl
    refine ⟨.ref p, hget, p, [vx, .ref l], 1, .ref l, rfl, rfl, .inl (.inl h3p), rfl, .inl ⟨rfl, _, .inl (.inl h3l)⟩, l, us, rfl, rfl, h3l, ?_⟩
    have h4p : upd H3 l (.lst us.reverse) p = some (.tup [vx, .ref l]) := by rw [upd_ne hpl]; exact h3p
    have h4l : upd H3 l (.lst us.reverse) l = some (.lst us.reverse) := upd_same
    refine ⟨.ref p, hget, p, [vx, .ref l], 1, .ref l, rfl, rfl, .inl (.inl h4p), rfl, .inl ⟨rfl, _, .inl (.inl h4l)⟩, l, us.reverse, .non, rfl, rfl, h4l, by rw [List.length_reverse, DpAll_len dl]; exact hsz, ?_⟩
    rw [upd_upd]
    refine q _ _ F2 (s1.trans gr.ff) ?_
    have R5 : Rel (kxOf X) C F2 a.2 σ (upd H3 l (.lst (us.reverse ++ [.non]))) := R2.plain hp (Same.refl _) (fun b o eo => by
      have hb : b ≠ l := fun z => by subst z; rw [hFl] at eo; cases eo
      rw [upd_ne hb]
      exact h3 _ _ (hFG _ _ eo)) (fun b o e0 hpe => by
      have hb : b ≠ l := fun z => by subst z; exact hpe (noH0 b hl1 (by rw [e0]; simp))
      rw [upd_ne hb]
      exact R4.old b o e0 hpe) R2.new (fun b hpe => by
      by_cases hb : b = l
      · subst hb; rw [upd_same]; simp
      · rw [upd_ne hb]; exact R4.pent b hpe)
    exact R5.plainSet hp rfl trivial hil
  · cases ew
end
end Xm
set_option Elab.async false
set_option linter.all false
set_option maxRecDepth 100000
namespace Xm
open PySem PySem.Spec PyProof.Rows L2
noncomputable def srtN (f : EF) : LF := fun st => (f st).bind fun a => (kSorted a.1).bind fun z => match z with
  | .list ys => some (ys, a.2)
  | _ => none
theorem kSorted_eq {d z : D} (h : kSorted d = some z) : ∃ ds, d = .list ds ∧ allAlikeB ds = true ∧ sortableB ds = true ∧ ds.length ≤ sizeLine ∧ ds.all (fun d => decide (d.depth ≤ 60) && d.plain) = true ∧ z = .list (dSort ds) := by
  unfold kSorted at h
  split at h
  · split at h
    · rename_i hc
      exact ⟨_, rfl, hc.1, hc.2.1, hc.2.2.1, hc.2.2.2, (Option.some.inj h).symm⟩
    · cases h
  · cases h
theorem xn_sorted {X : Cx} {C : Ct} {pos p : Pos} {a : Expr} {f : EF} (hu : X.A.units + 65 < cLine) (hm : X.mg "sorted" = none) (ha : PE X a (dOf (kxOf X) C f)) (hg : Gl X "sorted" := by rfl) (he : starEach [a] X.env = (false, eval a X.env) :: starEach [] X.env := by rfl) (hpl : (backTo pos (starEach [] X.env)).any (·.1) = false := by rfl) :
    PE X (.Call (.Name "sorted" p) [a] [] pos) (nOf (kxOf X) C (srtN f)) :=
  pe_wk (pe_callB (cr_sortedData hu) hg hm (by decide +kernel) (pa_cons ha pa_nil he) (by decide) (by decide) he hpl) fun σ H Q q => by
    obtain ⟨F, st, w, R, e, q⟩ := q
    obtain ⟨b, eb, e⟩ := Option.bind_eq_some_iff.mp e
    obtain ⟨z, ez, e⟩ := Option.bind_eq_some_iff.mp e
    refine ⟨F, st, b, R, eb, fun v H1 F1 s1 R1 d1 => ?_⟩
    obtain ⟨ds, hb, h1, h2, h3, h4, rfl⟩ := kSorted_eq ez
    have hw : w = (dSort ds, b.2) := (Option.some.inj e).symm
    subst hw
    rw [hb] at d1
    cases d1 with
    | lst hs hv =>
      refine ⟨_, _, _, F1, rfl, sql_up R1.fh hs, R1.fh, hv, allAlike_of h1, sortable_of h2, h3, fun d hd => ⟨of_decide_eq_true (Bool.and_eq_true_iff.mp (List.all_eq_true.mp h4 d hd)).1, (Bool.and_eq_true_iff.mp (List.all_eq_true.mp h4 d hd)).2⟩, fun ys l hy hl => ?_⟩
      obtain ⟨A, _⟩ := R1.aside hl
      have gr : Gr F1 H1 F1 (upd H1 l (.lst ys)) := ⟨Same.refl _, R1.fh.trans (same_upd hl), same_upd hl, fun b hb => .inl hb⟩
      exact q l ys _ F1 s1 (R1.grow gr) A.h0 (R1.fh.free hl) upd_same (fun j hj => A.ap j hj) hy
noncomputable def mfR (mf : List D → Option RV) : List D → Option (D × List D) := fun ds => match mf ds with
  | some (.val (.tuple [x, .list ys])) => some (x, ys)
  | _ => none
theorem mfR_of {mf : List D → Option RV} {ds : List D} {x : D} {ys : List D} (h : mf ds = some (.val (.tuple [x, .list ys]))) : mfR mf ds = some (x, ys) := by
  unfold mfR
  rw [h]
theorem mfR_is {mf : List D → Option RV} {ds : List D} {r : D × List D} (h : mfR mf ds = some r) : mf ds = some (.val (.tuple [r.1, .list r.2])) := by
  unfold mfR at h
  split at h
  · cases h; assumption
  · cases h
theorem row3 {A1 B1 : SF} {f1 f2 : EF} {st st' : AS} {x : D} {ys : List D} (h : seqS A1 (seqS B1 (retS (tupF (consA f1 (consA (un1 kSorted f2) nilA))))) st = some (.ret (.val (.tuple [x, .list ys])), st')) (hA : ∀ s fl s', A1 s = some (fl, s') → fl = .nx) (hB : ∀ s fl s', B1 s = some (fl, s') → fl = .nx) :
    ∃ sA sB s3 s4 d2, A1 st = some (.nx, sA) ∧ B1 sA = some (.nx, sB) ∧ f1 sB = some (x, s3) ∧ f2 s3 = some (d2, s4) ∧ kSorted d2 = some (.list ys) := by
  obtain ⟨⟨fa, sA⟩, ea, e⟩ := Option.bind_eq_some_iff.mp h
  cases hA _ _ _ ea
  obtain ⟨⟨fb, sB⟩, eb, e⟩ := Option.bind_eq_some_iff.mp e
  cases hB _ _ _ eb
  obtain ⟨⟨dT, sT⟩, et, e⟩ := Option.map_eq_some_iff.mp e
  obtain ⟨⟨lT, sL⟩, el, et⟩ := Option.bind_eq_some_iff.mp et
  split at et
  · cases et
    obtain ⟨⟨d1, s3⟩, e1, el⟩ := Option.bind_eq_some_iff.mp el
    obtain ⟨⟨l2, s5⟩, el2, el⟩ := Option.map_eq_some_iff.mp el
    obtain ⟨⟨dS, s6⟩, e2, el2⟩ := Option.bind_eq_some_iff.mp el2
    obtain ⟨⟨d2, s4⟩, e3, e2⟩ := Option.bind_eq_some_iff.mp e2
    obtain ⟨z, ez, e2⟩ := Option.map_eq_some_iff.mp e2
    obtain ⟨⟨l3, s7⟩, el3, el2⟩ := Option.map_eq_some_iff.mp el2
    cases el3
    cases e2
    cases el2
    cases el
    cases e
    exact ⟨sA, sB, s3, s4, d2, ea, eb, e1, e3, ez⟩
  · cases et
section
variable {P : Program} {w : World} {K : PySem.W.Frag} {mg : Str → Option Value} {base : Heap} {k : Nat} {f : Addr} {fd : FuncData} {ps N : List Str} {dvs : List V}
theorem defR3 {x : Str} {st s1 s2 : Stmt} {e1 e2 : Expr} {n : Nat} {mf : List D → Option RV} {A1 B1 : SF} {f1 f2 : EF} {x1 : Nat} {p1 p2 : Pos} (T : Dn K x st dvs f fd) (S : FnScope N ps (defScope st)) (hn : n = ps.length) (hn2 : n ≤ N.length)
    (law : ∀ ds r, ds.length = n → mf ds = some r → Leaves (seqS A1 (seqS B1 (retS (tupF (consA f1 (consA (un1 kSorted f2) nilA)))))) (st0 N.length ds) r fun _ => True)
    (hA : ∀ s fl s', A1 s = some (fl, s') → fl = .nx) (hB : ∀ s fl s', B1 s = some (fl, s') → fl = .nx)
    (hb : defBody st = [s1, s2, .Return (some (.Tuple [e1, e2] x1 p1)) p2])
    (body : ∀ (C : Ct) (cdv : Value) (A : Around) (outer : List Env) (s : Shared) (H : Hp) (E : XK), Room k (A.deeper (envOfC x (defScope st) s.heap.objs.size f cdv)) → (A.deeper (envOfC x (defScope st) s.heap.objs.size f cdv)).guards = some [] →
      PS (cxOf (CXM P w) P w K mg base N x (defScope st) f cdv A outer s H E).nox s1 (sOf ⟨K, P, w, mg⟩ C A1) ∧ PS (cxOf (CXM P w) P w K mg base N x (defScope st) f cdv A outer s H E).nox s2 (sOf ⟨K, P, w, mg⟩ C B1) ∧ PE (cxOf (CXM P w) P w K mg base N x (defScope st) f cdv A outer s H E).nox e1 (dOf ⟨K, P, w, mg⟩ C f1) ∧ PE (cxOf (CXM P w) P w K mg base N x (defScope st) f cdv A outer s H E).nox e2 (nOf ⟨K, P, w, mg⟩ C (srtN f2)) ∧ starEach [e1, e2] (cxOf (CXM P w) P w K mg base N x (defScope st) f cdv A outer s H E).nox.env = (false, eval e1 (cxOf (CXM P w) P w K mg base N x (defScope st) f cdv A outer s H E).nox.env) :: starEach [e2] (cxOf (CXM P w) P w K mg base N x (defScope st) f cdv A outer s H E).nox.env ∧ starEach [e2] (cxOf (CXM P w) P w K mg base N x (defScope st) f cdv A outer s H E).nox.env = (false, eval e2 (cxOf (CXM P w) P w K mg base N x (defScope st) f cdv A outer s H E).nox.env) :: starEach [] (cxOf (CXM P w) P w K mg base N x (defScope st) f cdv A outer s H E).nox.env) : FnG P w K mg base (CXM P w) (k + 1) f fd ps (spR ⟨K, P, w, mg⟩ n (mfR mf)) := by
  refine fnG_ofD T S (fun vs H Q E h => h.1.trans hn) fun cdv A outer s H vs Q E room guards want => ?_
  obtain ⟨hl, F, ds, r, fh, hd, hm, q⟩ := want
  obtain ⟨b1, b2, b3, b4, b5, b6⟩ := body ⟨H, F, none, fun cls d _ H => E cls d H⟩ cdv A outer s H E room guards
  rw [hb]
  refine ⟨_, (pss_cons b1 (pss_cons b2 (pss_one (ps_ret (pe_tup (pa_cons b3 (pa_cons b4 pa_nil b6) b5)))))).nox, ?_⟩
  obtain ⟨st', hg, _⟩ := law ds _ ((DpAll_len hd).symm.trans hl) (mfR_is hm)
  have R0 : Rel ⟨K, P, w, mg⟩ ⟨H, F, none, fun cls d _ H => E cls d H⟩ F (st0 N.length ds) (L2.start N vs) H := rel0 fh hd (by omega)
  have hg : seqS A1 (seqS B1 (retS (tupF (consA f1 (consA (un1 kSorted f2) nilA))))) (st0 N.length ds) = some (.ret (.val (.tuple [r.1, .list r.2])), st') := by
    rcases hg with hg | ⟨_, h⟩
    · exact hg
    · cases h
  obtain ⟨sA, sB, s3, s4, d2, eA, eB, e1', e2', e3'⟩ := row3 hg hA hB
  refine ⟨F, _, _, R0, eA, fun σ1 H1 F1 t1 R1 => ⟨F1, _, _, R1, eB, fun σ2 H2 F2 t2 R2 => ?_⟩⟩
  refine ⟨F2, _, _, R2, e1', fun v H3 F3 t3 R3 dv => ⟨F3, s3, (r.2, s4), R3, by unfold srtN; rw [e2']; simp only [Option.bind_some, e3'], fun a us H4 F4 t4 R4 h0 hF hH hMu dl => ?_⟩⟩
  refine ⟨by show 2 ≤ sizeLine; rw [sizeLine_eq]; omega, fun p hp => ?_⟩
  have g4 := R4.gr
  have hne : p ≠ a := fun z => by subst z; rw [hp] at hH; cases hH
  refine q p a v us F4 _ ⟨g4.ff, g4.fh.trans (same_upd hp), g4.hh.trans (same_upd hp), g4.nw⟩ (g4.hh.free hp) h0 hne (g4.fh.free hp) hF upd_same ?_ (Dp_up dv t4) dl
  rw [upd_ne (Ne.symm hne)]
  exact hH
end
theorem asgM_nx {i : Nat} {m : MF} : ∀ s fl s', asgM i m s = some (fl, s') → fl = .nx := fun s fl s' h => by
  obtain ⟨a, _, h⟩ := Option.bind_eq_some_iff.mp h
  split at h
  · cases h; rfl
  · cases h
theorem asgS_nx {i : Nat} {m : EF} : ∀ s fl s', asgS i m s = some (fl, s') → fl = .nx := fun s fl s' h => by
  obtain ⟨a, _, h⟩ := Option.bind_eq_some_iff.mp h
  obtain ⟨b, _, h⟩ := Option.map_eq_some_iff.mp h
  cases h
  rfl
end Xm
set_option Elab.async false
set_option linter.all false
set_option maxRecDepth 100000
set_option maxHeartbeats 2000000
namespace Xm
open PySem PySem.Spec PyProof.Rows L2
def retD (m : MF) : SF := fun st => (m st).map fun a => (.ret (.dct a.1), a.2)
def rvM (c : AS → Option (RV × AS)) : MF := fun st => (c st).bind fun r => match r.1 with
  | .dct kvs => some (kvs, r.2)
  | _ => none
section
variable {X : Cx} {C : Ct} {pos : Pos} {e : Expr} {m : MF}
end
section
variable {K : Kx} {C : Ct} {mf : List D → Option RV} {g : LF} {n : Nat} {σ : L2.St} {H : Hp} {Q : VK} {dvs : List V} {dds : List D} {E : XK}
end
section
variable {X : Cx} {C : Ct} {j k n m : Nat} {x : Str} {p pos : Pos} {e : Expr} {es : List Expr} {g : LF} {mf : List D → Option RV} {dds : List D}
end
structure AtomsAre (K : Kx) (F : Hp) (qs : List (Key × V)) (kvs : List (D × D)) : Prop where
  ks : kvs.map (·.1) = qs.map (fun p => keyD p.1)
  vs : DpAll K F (qs.map (·.2)) (kvs.map (·.2))
theorem AtomsAre.len {K : Kx} {F : Hp} {qs : List (Key × V)} {kvs : List (D × D)} (h : AtomsAre K F qs kvs) : qs.length = kvs.length := by
  have := congrArg List.length h.ks
  simpa using this.symm
inductive PsOk (X : Cx) : List (Option Expr) → List Expr → List (D × EF) → Prop
  | nil : PsOk X [] [] []
  | cons {ke ve : Expr} {ks : List (Option Expr)} {vs : List Expr} {k : D} {f : EF} {r : List (D × EF)} (hk : ∀ C : Ct, PE X ke (dOf (kxOf X) C (cst k))) (hv : ∀ C : Ct, PE X ve (dOf (kxOf X) C f)) (hr : PsOk X ks vs r) : PsOk X (some ke :: ks) (ve :: vs) ((k, f) :: r)
section
variable {X : Cx} {C : Ct} {pos : Pos} {keys : List (Option Expr)} {values : List Expr} {ps : List (D × EF)}
end
def spD (K : Kx) (n : Nat) (mf : List (D × D) → List D → Option (RV × List (D × D))) : Sp := fun vs H Q _ => vs.length = n ∧ ∃ F p vs' u kvs ds r, vs = .ref p :: vs' ∧ Same F H ∧ F p = none ∧ H p = some u ∧ DR K F p u kvs ∧ DpAll K F vs' ds ∧ mf kvs ds = some r ∧ (∀ x, r.1 ≠ .exc x) ∧
  ∀ v F' H' u', GrP p F H F' H' → F' p = none → H' p = some u' → DR K F' p u' r.2 → RvOk K H F' H' v r.1 → Q v H'
section
variable {P : Program} {w : World} {K : Kx} {mg : Str → Option Value} {base : Heap} {CX : CXT} {k : Nat} {f : Addr} {fd : FuncData} {ps N : List Str} {W : WX}
end
section
variable {P : Program} {w : World} {K : PySem.W.Frag} {mg : Str → Option Value} {base : Heap} {CX : CXT} {k j : Nat} {f : Addr} {fd : FuncData} {ps N : List Str} {dvs : List V}
end
structure HasD (P : Program) (w : World) (K : PySem.W.Frag) (mg : Str → Option Value) (base : Heap) (k : Nat) (x : Str) (n : Nat) (mq : List (D × D) → List D → Option (RV × List (D × D))) : Prop where
  ex : ∃ (f : Addr) (fd : FuncData) (ps : List Str), FnG P w K mg base (CXM P w) k f fd ps (spD ⟨K, P, w, mg⟩ n mq) ∧ mg x = some (.ref f) ∧ PySem.W.keepIn K (.ref f) = true ∧ Binds K fd ps []
def callD (mf : List (D × D) → List D → Option (RV × List (D × D))) (i : Nat) (g : LF) : AS → Option (RV × AS) := fun st => (dcC st i).bind fun _ => (g st).bind fun a => (dcC a.2 i).bind fun kvs => (mf kvs a.1).map fun r => (r.1, putC a.2 i r.2)
section
variable {K : Kx} {C : Ct} {mq : List (D × D) → List D → Option (RV × List (D × D))} {g : LF} {n : Nat} {σ : L2.St} {H : Hp} {Q : VK} {E : XK}
end
section
variable {X : Cx} {C : Ct} {j k n m : Nat} {x : Str} {p pos : Pos} {e : Expr} {es : List Expr} {g : LF} {mq : List (D × D) → List D → Option (RV × List (D × D))}
end
section
variable {st : AS} {m : MF} {i : Nat} {kvs : List (D × D)} {QS : Fl → AS → Prop} {QM : List (D × D) → AS → Prop} {QR : RV → AS → Prop} {a : LF}
theorem wp_retD (w : Wp m st fun d s1 => QS (.ret (.dct d)) s1) : Wp (retD m) st QS := by
  obtain ⟨d, s1, e, q⟩ := w
  exact ⟨_, _, by unfold retD; rw [e]; rfl, q⟩
theorem wp_rvM {c : AS → Option (RV × AS)} (w : Wp c st fun r s1 => ∃ kvs, r = .dct kvs ∧ QM kvs s1) : Wp (rvM c) st QM := by
  obtain ⟨r, s1, e, kvs, rfl, q⟩ := w
  exact ⟨_, _, by unfold rvM; rw [e]; rfl, q⟩
theorem wp_callD {mq : List (D × D) → List D → Option (RV × List (D × D))} (e0 : dcC st i = some kvs) (w : Wp a st fun ds s1 => ∃ zs, dcC s1 i = some zs ∧ ∃ r, mq zs ds = some r ∧ QR r.1 (putC s1 i r.2)) : Wp (callD mq i a) st QR := by
  obtain ⟨x, s1, e1, zs, e2, r, e3, q⟩ := w
  exact ⟨r.1, _, by unfold callD; rw [e0]; simp only [Option.bind_some, e1, e2, e3]; rfl, q⟩
end
end Xm
set_option Elab.async false
set_option linter.all false
set_option maxRecDepth 100000
set_option maxHeartbeats 2000000
namespace Xm
open PySem PySem.Spec PyProof.Rows L2
section
variable {prog : Program} {w : World} {A : Around} {E : Value → Shared → Prop} {s : Shared}
end
section
variable {prog : Program} {w : World} {A : Around} {E : Value → Shared → Prop} {s : Shared}
end
def itEnumA (f : EF) : LF := fun st => (f st).bind fun a => match a.1 with
  | .list xs => some (enD xs, a.2)
  | .tuple xs => some (enD xs, a.2)
  | _ => none
section
variable {X : Cx} {C : Ct} {pos p tpos : Pos} {elts : List Expr} {kk : Nat} {a : Expr} {f : EF}
end
theorem wp_itEnumA {st : AS} {f : EF} {QL : List D → AS → Prop} (w : Wp f st fun d s1 => ∃ xs, (d = .list xs ∨ d = .tuple xs) ∧ QL (enD xs) s1) : Wp (itEnumA f) st QL := by
  obtain ⟨d, s1, e, xs, h, q⟩ := w
  rcases h with rfl | rfl <;> exact ⟨_, _, by unfold itEnumA; rw [e]; rfl, q⟩
theorem wp_bN {k : List D → Option D} {g : LF} {st : AS} {QD : D → AS → Prop} (w : Wp g st fun xs s1 => ∃ z, k xs = some z ∧ QD z s1) : Wp (bN k g) st QD := by
  obtain ⟨xs, s1, e, z, ez, q⟩ := w
  exact ⟨z, s1, by unfold bN; rw [e]; simp only [Option.bind_some, ez]; rfl, q⟩
def isaM (i : Nat) (T : String) : EF := fun st => (muC st i).map fun _ => (.bool (isaT "list" T), st)
section
variable {X : Cx} {C : Ct} {pos p p2 : Pos} {a : Expr} {i : Nat}
end
theorem wp_isaM {st : AS} {i : Nat} {T : String} {xs : List D} {QD : D → AS → Prop} (e0 : muC st i = some xs) (q : QD (.bool (isaT "list" T)) st) : Wp (isaM i T) st QD := ⟨_, _, by unfold isaM; rw [e0]; rfl, q⟩
theorem dcv_and {st : AS} {i : Nat} {ks : List (D × D)} {P : List (D × D) → Prop} (h : dcV st i = some ks) (q : P ks) : ∃ ks, dcV st i = some ks ∧ P ks := ⟨ks, h, q⟩
theorem dcc_and {st : AS} {i : Nat} {ks : List (D × D)} {P : List (D × D) → Prop} (h : dcC st i = some ks) (q : P ks) : ∃ ks, dcC st i = some ks ∧ P ks := ⟨ks, h, q⟩
theorem ex_oo {α : Type} {k : Option (Option α)} {z : α} {P : α → Prop} (h : k = some (some z)) (q : P z) : ∃ z, k = some (some z) ∧ P z := ⟨z, h, q⟩
theorem ex_dct {x : List (D × D)} {P : List (D × D) → Prop} (q : P x) : ∃ b, RV.dct x = .dct b ∧ P b := ⟨x, rfl, q⟩
theorem nop_and {st : AS} {i : Nat} {P : Prop} (h : noPen st i = true) (q : P) : noPen st i = true ∧ P := ⟨h, q⟩
end Xm
set_option Elab.async false
set_option linter.all false
set_option maxRecDepth 100000
set_option maxHeartbeats 2000000
namespace Xm
open PySem PySem.Spec PyProof.Rows L2
section
variable {K : Kx}
end
section
variable {X : Cx} {C : Ct} {pos p : Pos} {a b : Expr} {f g : EF}
end
section
variable {X : Cx}
end
section
variable {X : Cx} {C : Ct} {pos : Pos} {a b : Expr} {f g : EF}
end
end Xm
set_option Elab.async false
set_option linter.all false
set_option maxRecDepth 100000
set_option maxHeartbeats 3200000
namespace L2
open PySem PySem.Spec PyProof.Rows
section
variable {P : Program} {w : World} {A : Around} {E : Value → Shared → Prop} {s : Shared}
end
end L2
set_option Elab.async false
set_option linter.all false
set_option maxRecDepth 100000
set_option maxHeartbeats 3200000
namespace Xm
open PySem PySem.Spec PyProof.Rows L2
section
variable {X : Cx}
end
section
variable {X : Cx} {C : Ct} {pos pos1 p q : Pos} {a : Expr} {f : EF}
end
section
variable {X : Cx} {C : Ct} {pos : Pos} {o e : Expr} {g : EF} {i : Nat}
end
end Xm
set_option Elab.async false
set_option linter.all false
set_option maxRecDepth 100000
set_option maxHeartbeats 2000000
namespace Xm
open PySem PySem.Spec PyProof.Rows L2
section
variable {A : Around} {s : Shared}
end
section
variable {X : Cx} {pins : List (Addr × Obj)} {σ : L2.St} {H : Hp} {s : Shared}
theorem ints_of {F : Hp} : ∀ {is : List Int} {vs : List V}, DpAll (kxOf X) F vs (is.map PyData.int) → vs = is.map V.int
  | [], _, .nil => rfl
  | i :: is, _, h => by
    rw [List.map_cons] at h
    cases h with
    | cons h1 h2 =>
      cases h1
      rw [ints_of h2]
      rfl
end
section
variable {X : Cx} {pins : List (Addr × Obj)} {σ : L2.St} {H : Hp} {s : Shared}
end
section
variable {X : Cx} {C : Ct} {pos : Pos} {a b : Expr} {f g : EF}
end
end Xm
set_option Elab.async false
set_option linter.all false
set_option maxRecDepth 100000
set_option maxHeartbeats 2000000
namespace Xm
open PySem PySem.Spec PyProof.Rows L2
section
variable {X : Cx}
end
section
variable {X : Cx} {C : Ct} {cpos apos : Pos} {o e : Expr} {f g : EF}
end
def leastI : List Int → Option Int
  | [] => none
  | [i] => some i
  | i :: r => (leastI r).map fun m => if i ≤ m then i else m
theorem leastI_spec : ∀ {l : List Int} {m : Int}, leastI l = some m → m ∈ l ∧ ∀ y ∈ l, m ≤ y
  | [], m, h => by cases h
  | [i], m, h => by
    cases h
    exact ⟨.head _, fun y hy => by rw [List.mem_singleton.mp hy]; exact Int.le_refl _⟩
  | i :: j :: r, m, h => by
    obtain ⟨k, hk, e⟩ := Option.map_eq_some_iff.mp (show (leastI (j :: r)).map (fun m => if i ≤ m then i else m) = some m from h)
    obtain ⟨h1, h2⟩ := leastI_spec hk
    subst e
    split
    · rename_i hik
      exact ⟨.head _, fun y hy => (List.mem_cons.mp hy).elim (fun e => by rw [e]; exact Int.le_refl _) fun hy => Int.le_trans hik (h2 y hy)⟩
    · rename_i hik
      exact ⟨.tail _ h1, fun y hy => (List.mem_cons.mp hy).elim (fun e => by omega) fun hy => h2 y hy⟩
def kMinL : D → Option D
  | .list xs => (intsD xs).bind fun l => (leastI l).map .int
  | _ => none
theorem least_uniq {l : List Int} {m k : Int} (h : leastI l = some m) (h1 : k ∈ l) (h2 : ∀ y ∈ l, k ≤ y) : k = m := by
  obtain ⟨g1, g2⟩ := leastI_spec h
  have := g2 k h1
  have := h2 m g1
  omega
section
variable {X : Cx} {C : Ct} {pos p : Pos} {a : Expr} {f : EF}
theorem ints_vs {K : Kx} {F : Hp} : ∀ {xs : List D} {l : List Int} {vs : List V}, intsD xs = some l → DpAll K F vs xs → vs = l.map V.int
  | [], l, vs, h, hv => by cases h; cases hv; rfl
  | x :: xs, l, vs, h, hv => by
    cases x <;> first
      | cases h
      | skip
    rename_i i
    unfold intsD at h
    obtain ⟨r, hr, rfl⟩ := Option.map_eq_some_iff.mp h
    cases hv with
    | cons h1 h2 =>
      cases h1
      rw [ints_vs hr h2]
      rfl
theorem xd_minL (hc : X.calm = true) (hm : X.mg "min" = none) (ha : PE X a (dOf (kxOf X) C f)) (hg : Gl X "min" := by rfl) (he : starEach [a] X.env = (false, eval a X.env) :: starEach [] X.env := by rfl) : PE X (.Call (.Name "min" p) [a] [] pos) (dOf (kxOf X) C (un1 kMinL f)) :=
  xd_b1 (cr_min hc) (fun F H x d z Q fh hd e q => by
    unfold kMinL at e; split at e
    · obtain ⟨l, e1, e⟩ := Option.bind_eq_some_iff.mp e
      obtain ⟨m, e2, rfl⟩ := Option.map_eq_some_iff.mp e
      cases hd with
      | lst hs hv =>
        have hvs := ints_vs e1 hv
        subst hvs
        refine ⟨_, l, rfl, sql_up fh hs, ?_, fun k h1 h2 => ?_⟩
        · cases l with
          | nil => cases e2
          | cons i r => simp
        · rw [least_uniq e2 h1 h2]
          exact q _ F H (Gr.refl fh) (.int _)
    · cases e) hm (by decide +kernel) ha hg (he := he)
end
end Xm
set_option Elab.async false
set_option linter.all false
set_option maxRecDepth 100000
namespace K64
open PySem PySem.Spec PyProof.Rows L2 Xm DwF CrF ExF LxF BoF
noncomputable section
def g_law_lines (mf_law_lines : List D → Option RV) : SF := (seqS (ifS (valB (bin2 kEq (rd 0) (lstF nilA))) (retN (newF (consA (tupF nilA) nilA))) skipS) (seqS (asgN 1 (newF nilA)) (seqS (forS (itD (rd 0)) (setD 2) (clrS [2, 3] (forS (itD (rvD (callP mf_law_lines [] (consA (listE (compF (itD (rd 0)) (setD 4) (valB (bin2 kNe (rd 4) (rd 2))) (rd 4) [4])) nilA)))) (setD 3) (clrS [3] (dropS (appM 1 (bin2 kCat (tupF (consA (rd 2) nilA)) (rd 3)))))))) (retM 1))))
def mr_law_lines : Nat → List D → Option RV
  | 0 => fun _ => none
  | k + 1 => runP (g_law_lines (mr_law_lines k)) 5
def mf_law_lines := mr_law_lines 8
theorem e_law_lines (k : Nat) : ∀ ds r, ds.length = 1 → mr_law_lines (k + 1) ds = some r → Leaves (g_law_lines (mr_law_lines k)) (st0 5 ds) r fun _ => True := runP_ok
def g_law_best : SF := (seqS (asgM 1 empM) (seqS (forS (itD (rvD (callP mf_law_lines [] (consA (listE (lstR1 (un1 kLen (bin2 kIx (rd 0) (cst (.int 0)))))) nilA)))) (setD 2) (clrS [2, 4] (clrS [4] (ifS (valB (bin2 kLt (bin2 kIx (rd 2) (cst (.int 0))) (bin2 kIx (rd 2) (un1 kNeg (cst (.int 1)))))) (seqS (asgS 4 (rvD (callP mf_law_crossed [] (consA (rd 0) (consA (rd 2) nilA))))) (putD 1 (bin2 kCat (getD2 1 (rd 4) (lstF nilA)) (lstF (consA (rd 2) nilA))) (rd 4))) skipS)))) (seqS (asgS 3 (un1 kMinL (un1 kListD (frz 1)))) (retS (tupF (consA (rd 3) (consA (un1 kSorted (ixD 1 (rd 3))) nilA)))))))
def mf_law_best := runP g_law_best 5
theorem e_law_best : ∀ ds r, ds.length = 1 → mf_law_best ds = some r → Leaves g_law_best (st0 5 ds) r fun _ => True := runP_ok
def g_law : SF := (seqS (asgN 1 (rvN (callP mf_law_pen [] (consA (rd 0) nilA)))) (seqS (asgN 2 (compF (itR1 (cst (.int 2))) (setD 8) yesB (rvD (callQ mq_law_rows 1 (consA (bin2 kIx (lstF (consA (cst (.int 5)) (consA (cst (.int 12)) nilA))) (rd 8)) nilA))) [8])) (seqS (dropS (appM 2 (bin2 kIx (lstF (consA (tupF (consA (tupF (consA (cst .none) (consA (cst .none) (consA (cst .none) nilA)))) nilA)) (consA (tupF (consA (tupF (consA (cst (.int 0)) (consA (cst .none) (consA (cst .none) (consA (cst (.int 1)) nilA))))) nilA)) (consA (tupF (consA (tupF (consA (cst (.int 1)) (consA (cst (.int 1)) (consA (cst (.int 1)) (consA (cst (.int 1)) nilA))))) (consA (tupF (consA (cst (.int 0)) (consA (cst (.int 0)) (consA (cst (.int 0)) (consA (cst (.int 0)) nilA))))) nilA))) nilA)))) (rvD (callQ mq_law_pick 1 (consA (cst (.int 3)) nilA)))))) (seqS (clrS [1, 2] (asgS 3 (listE (compR (itD (rd 2)) (setD 4) yesB (tupF (consA (rd 4) (consA (rvD (callP mf_law_best [] (consA (rd 4) nilA))) nilA))) [4])))) (seqS (forS (itD (bin2 kCat (rd 3) (revA (rd 3)))) (tupT 2 (consT (setD 4) (consT (setD 5) nilT))) (clrS [4, 5, 6, 7] (seqS (asgS 6 (un1 kRepr (rd 4))) (seqS (blkR (mfR mf_best_orders) (consA (rd 4) nilA) 7 (orB (valB (bin2 kNe (un1 kRepr (rd 7)) (un1 kRepr (rd 5)))) (valB (bin2 kNe (un1 kRepr (rd 4)) (rd 6))))) (ifS (valB (bin2 kNe (un1 kRepr (rvD (callK mf_best_orders [.inr 0] nilA (consA (rd 4) nilA)))) (un1 kRepr (rd 5)))) (retS (cst (.bool false))) skipS))))) (retS (cst (.bool true))))))))
def mf_law := runP g_law 9
theorem e_law : ∀ ds r, ds.length = 1 → mf_law ds = some r → Leaves g_law (st0 9 ds) r fun _ => True := runP_ok
end
end K64
set_option Elab.async false
set_option linter.all false
set_option maxRecDepth 100000
set_option maxHeartbeats 4000000
namespace K64
open PySem PySem.Spec PyProof.Rows L2 Xm DwF CrF ExF LxF BoF
def topS (i : Nat) : Stmt := PySem.Challenge.pw_crossmarks_k64_best_orders_told.main.body.getD i (.Pass ⟨0, 0, 0, 0⟩)
section
variable {P : Program} {w : World} {K : PySem.W.Frag} {mg : Str → Option Value} {base : Heap} {f : Addr} {fd : FuncData}
abbrev s_crossings_in : Stmt := topS 1
theorem sc_crossings_in : FnScope ["row", "order", "known", "column", "one", "other"] ["row", "order"] (defScope s_crossings_in) := ⟨rfl, rfl, rfl, by decide +kernel, rfl, by decide +kernel, by decide +kernel⟩
theorem w_crossings_in (T : Dn K "crossings_in" s_crossings_in [] f fd) (b_len : mg "len" = none) (b_zip : mg "zip" = none) : FnG P w K mg base (CXM P w) 1 f fd ["row", "order"] (spP ⟨K, P, w, mg⟩ 2 mf_crossings_in) :=
  defP g_crossings_in T sc_crossings_in rfl (by decide) e_crossings_in fun C cdv A outer s H E room guards =>
    (xs_cons (xs_setLcD sc_crossings_in.nd (xi_seq (xd_rd (pv 1))) (blkOk_by (N := ["row", "order", "known", "column", "one", "other"]) (sc := defScope s_crossings_in) (own := [("column", 3)]) (by decide +kernel)) (fun _ _ _ _ _ _ => (xg_name sc_crossings_in.nd rfl (.inl rfl))) (fun _ _ _ _ _ _ => (xts_one (xt_isnot (xd_item (Room.u65 room) (xd_rd (pv 0)) (xd_rd (pv 3))) xd_non))) (fun _ _ _ _ _ _ => (xd_item (Room.u65 room) (xd_rd (pv 0)) (xd_rd (pv 3)))) rfl rfl (sw_true rfl rfl rfl (by decide +kernel))) (xs_one (xs_ret (xd_len b_len (xd_new (xn_lc sc_crossings_in.nd (xi_zip b_zip (xd_rd (pv 2)) (xd_slice (xd_rd (pv 2)) (xo_some xd_int) xo_none)) (blkOk_by (N := ["row", "order", "known", "column", "one", "other"]) (sc := defScope s_crossings_in) (own := [("one", 4), ("other", 5)]) (by decide +kernel)) (fun _ _ _ _ _ _ => (xg_tup (xg_cons (xg_name sc_crossings_in.nd rfl (.inl rfl)) (xg_cons (xg_name sc_crossings_in.nd rfl (.inl rfl)) xg_nil)))) (fun _ _ _ _ _ _ => (xts_one (xt_ne room.units (xd_rd (pv 4)) (xd_rd (pv 5))))) (fun _ _ _ _ _ _ => xd_int)))))))
abbrev s_law_pen : Stmt := topS 7
theorem sc_law_pen : FnScope ["_law_script"] ["_law_script"] (defScope s_law_pen) := ⟨rfl, rfl, rfl, by decide +kernel, rfl, by decide +kernel, by decide +kernel⟩
theorem w_law_pen (T : Dn K "_law_pen" s_law_pen [] f fd) (b_list : mg "list" = none) : FnG P w K mg base (CXM P w) 1 f fd ["_law_script"] (spP ⟨K, P, w, mg⟩ 1 mf_law_pen) :=
  defP g_law_pen T sc_law_pen rfl (by decide) e_law_pen fun C cdv A outer s H E room guards =>
    (xs_one (xs_retN (xn_lst (xa_cons (xd_tolist b_list (xd_slice (xd_rd (pv 0)) xo_none (xo_some xd_int))) (xa_cons xd_int (xa_cons xd_int xa_nil))))))
abbrev s_law_pick : Stmt := topS 8
theorem sc_law_pick : FnScope ["_law_pen_here", "_law_upto", "_law_turn", "_law_cell", "_law_stirred", "_law_digit", "_law_great"] ["_law_pen_here", "_law_upto"] (defScope s_law_pick) := ⟨rfl, rfl, rfl, by decide +kernel, rfl, by decide +kernel, by decide +kernel⟩
theorem w_law_pick (T : Dn K "_law_pick" s_law_pick [] f fd) (b_abs : mg "abs" = none) (b_int : mg "int" = none) (b_len : mg "len" = none) : FnG P w K mg base (CXM P w) 1 f fd ["_law_pen_here", "_law_upto"] (spQ ⟨K, P, w, mg⟩ 2 mq_law_pick) :=
  defQ g_law_pick T sc_law_pick rfl (by decide) e_law_pick fun C cdv A outer s H E room guards =>
    (xs_cons (xs_if (xt_gt (xd_itemM (pv 0) xd_int) xd_int) (xs_cons (xs_set sc_law_pick.nd (xd_mod (xd_itemM (pv 0) xd_int) (xd_rd (pv 1))) rfl (.inl rfl)) (xs_cons (xs_setItem (pv 0) xd_int (xd_div (xd_itemM (pv 0) xd_int) (xd_rd (pv 1)))) (xs_one (xs_ret (xd_rd (pv 5)))))) xs_nil) (xs_cons (xs_set sc_law_pick.nd (xd_itemM (pv 0) xd_int) rfl (.inl rfl)) (xs_cons (xs_setItem (pv 0) xd_int (xd_cat (xd_rd (pv 2)) xd_int)) (xs_cons (xs_set sc_law_pick.nd (xd_cat (xd_mul xd_int (xd_rd (pv 2))) xd_int) rfl (.inl rfl)) (xs_cons (xs_if (xt_ne room.units (xd_itemM (pv 0) xd_int) (xd_lst xa_nil)) (xs_one (xs_set sc_law_pick.nd (xd_item (Room.u65 room) (xd_itemM (pv 0) xd_int) (xd_mod (xd_rd (pv 2)) (xd_len b_len (xd_itemM (pv 0) xd_int)))) rfl (.inl rfl))) xs_nil) (xs_cons (xs_if (xt_w (xw_and (xt_lt (xd_rd (pv 2)) (xd_len b_len (xd_itemM (pv 0) xd_int))) (xw_and1 (xt_ge (xd_abs b_abs (xd_rd (pv 3))) (xd_pow xd_int xd_int))))) (xs_cons (xs_set sc_law_pick.nd (xd_cat (xd_mulB xd_int (xd_abs b_abs (xd_rd (pv 3)))) (xd_toint b_int (xd_lt (xd_rd (pv 3)) xd_int))) rfl (.inl rfl)) (xs_cons (xs_setItem (pv 0) xd_int (xd_div (xd_rd (pv 6)) (xd_rd (pv 1)))) (xs_one (xs_ret (xd_mod (xd_rd (pv 6)) (xd_rd (pv 1))))))) xs_nil) (xs_cons (xs_set sc_law_pick.nd (xd_mod (xd_pow (xd_cat (xd_cat (xd_mod (xd_rd (pv 3)) xd_int) (xd_mul xd_int (xd_rd (pv 2)))) xd_int) xd_int) xd_int) rfl (.inl rfl)) (xs_cons (xs_set sc_law_pick.nd (xd_mod (xd_pow (xd_cat (xd_mul (xd_rd (pv 4)) (xd_cat (xd_rd (pv 2)) xd_int)) (xd_mul (xd_mul xd_int (xd_rd (pv 2))) (xd_rd (pv 2)))) xd_int) xd_int) rfl (.inl rfl)) (xs_one (xs_ret (xd_mod (xd_div (xd_rd (pv 4)) xd_int) (xd_rd (pv 1)))))))))))))
abbrev s_law_crossed : Stmt := topS 11
theorem sc_law_crossed : FnScope ["_law_sheet", "_law_line", "_law_found", "_law_row", "_law_before", "_law_column"] ["_law_sheet", "_law_line"] (defScope s_law_crossed) := ⟨rfl, rfl, rfl, by decide +kernel, rfl, by decide +kernel, by decide +kernel⟩
theorem w_law_crossed (T : Dn K "_law_crossed" s_law_crossed [] f fd) (b_int : mg "int" = none) : FnG P w K mg base (CXM P w) 1 f fd ["_law_sheet", "_law_line"] (spP ⟨K, P, w, mg⟩ 2 mf_law_crossed) :=
  defP g_law_crossed T sc_law_crossed rfl (by decide) e_law_crossed fun C cdv A outer s H E room guards =>
    (xs_cons (xs_set sc_law_crossed.nd xd_int rfl (.inl rfl)) (xs_cons (xs_for PassesOwn.never rfl (xi_seq (xd_rd (pv 0))) (xg_name sc_law_crossed.nd rfl (.inl rfl)) (xs_cons (xs_set sc_law_crossed.nd xd_non rfl (.inl rfl)) (xs_one (xs_for PassesOwn.never rfl (xi_seq (xd_rd (pv 1))) (xg_name sc_law_crossed.nd rfl (.inl rfl)) (xs_one (xs_if (xt_isnot (xd_item (Room.u65 room) (xd_rd (pv 3)) (xd_rd (pv 5))) xd_non) (xs_cons (xs_set sc_law_crossed.nd (xd_cat (xd_rd (pv 2)) (xd_toint b_int (xd_and (xd_isnot (xd_rd (pv 4)) xd_non) (xd_one (xd_ne room.units (xd_rd (pv 4)) (xd_item (Room.u65 room) (xd_rd (pv 3)) (xd_rd (pv 5)))))))) rfl (.inl rfl)) (xs_one (xs_set sc_law_crossed.nd (xd_item (Room.u65 room) (xd_rd (pv 3)) (xd_rd (pv 5))) rfl (.inl rfl)))) xs_nil)))))) (xs_one (xs_ret (xd_rd (pv 2))))))
abbrev s_crossings : Stmt := topS 2
theorem sc_crossings : FnScope ["rows", "order", "row"] ["rows", "order"] (defScope s_crossings) := ⟨rfl, rfl, rfl, by decide +kernel, rfl, by decide +kernel, by decide +kernel⟩
theorem w_crossings (T : Dn K "crossings" s_crossings [] f fd) (b_sum : mg "sum" = none) (h_crossings_in : Has P w K mg base 1 "crossings_in" 2 [] mf_crossings_in) : FnG P w K mg base (CXM P w) 2 f fd ["rows", "order"] (spP ⟨K, P, w, mg⟩ 2 mf_crossings) :=
  defP g_crossings T sc_crossings rfl (by decide) e_crossings fun C cdv A outer s H E room guards =>
    (xs_one (xs_ret (xd_sum rfl b_sum (xd_new (xn_lc sc_crossings.nd (xi_seq (xd_rd (pv 0))) (blkOk_by (N := ["rows", "order", "row"]) (sc := defScope s_crossings) (own := [("row", 2)]) (by decide +kernel)) (fun _ _ _ _ _ _ => (xg_name sc_crossings.nd rfl (.inl rfl))) (fun _ _ _ _ _ _ => xts_nil) (fun _ _ _ _ _ _ => (xd_call h_crossings_in room guards (by decide) (xa_cons (xd_rd (pv 2)) (xa_cons (xd_rd (pv 1)) xa_nil)) (ar_cons (ar_cons ar_nil)))))))))
abbrev s_law_mixed : Stmt := topS 10
theorem sc_law_mixed : FnScope ["_law_pen_here", "_law_some", "_law_left", "_law_one"] ["_law_pen_here", "_law_some"] (defScope s_law_mixed) := ⟨rfl, rfl, rfl, by decide +kernel, rfl, by decide +kernel, by decide +kernel⟩
theorem w_law_mixed (T : Dn K "_law_mixed" s_law_mixed [] f fd) (b_len : mg "len" = none) (b_list : mg "list" = none) (h_law_pick : HasQ P w K mg base 1 "_law_pick" 2 mq_law_pick) : FnG P w K mg base (CXM P w) 2 f fd ["_law_pen_here", "_law_some"] (spQ ⟨K, P, w, mg⟩ 2 mq_law_mixed) :=
  defQ g_law_mixed T sc_law_mixed rfl (by decide) e_law_mixed fun C cdv A outer s H E room guards =>
    (xs_cons (xs_setN sc_law_mixed.nd (xn_tolist b_list (xd_rd (pv 1))) rfl (.inr rfl)) (xs_one (xs_retN (xn_lc sc_law_mixed.nd (xi_seq (xd_rd (pv 1))) (blkOk_by (N := ["_law_pen_here", "_law_some", "_law_left", "_law_one"]) (sc := defScope s_law_mixed) (own := [("_law_one", 3)]) (by decide +kernel)) (fun _ _ _ _ _ _ => (xg_name sc_law_mixed.nd rfl (.inl rfl))) (fun _ _ _ _ _ _ => xts_nil) (fun _ _ _ _ _ _ => (xd_popAt (pv 2) (xd_callM h_law_pick room guards (by decide) (pv 0) (xa_cons (xd_lenM b_len (pv 2)) xa_nil) (ar_cons ar_nil))))))))
abbrev s_law_rows : Stmt := topS 9
theorem sc_law_rows : FnScope ["_law_pen_here", "_law_upto", "_law_columns", "_law_way", "_law_found", "_law_k", "_law_turn", "_law_cut", "_law_first", "_law_row", "_law_shuffled", "_law_at", "_law_one"] ["_law_pen_here", "_law_upto"] (defScope s_law_rows) := ⟨rfl, rfl, rfl, by decide +kernel, rfl, by decide +kernel, by decide +kernel⟩
theorem w_law_rows (T : Dn K "_law_rows" s_law_rows [] f fd) (b_int : mg "int" = none) (b_list : mg "list" = none) (b_range : mg "range" = none) (b_tuple : mg "tuple" = none) (h_law_pick : HasQ P w K mg base 1 "_law_pick" 2 mq_law_pick) (h_law_mixed : HasQ P w K mg base 2 "_law_mixed" 2 mq_law_mixed) : FnG P w K mg base (CXM P w) 3 f fd ["_law_pen_here", "_law_upto"] (spQ ⟨K, P, w, mg⟩ 2 mq_law_rows) :=
  defQ g_law_rows T sc_law_rows rfl (by decide) e_law_rows fun C cdv A outer s H E room guards =>
    (xs_cons (xs_set sc_law_rows.nd (xd_item (Room.u65 room) (xd_lst (xa_cons (xd_cat xd_int (xd_callM h_law_pick room guards (by decide) (pv 0) (xa_cons xd_int xa_nil) (ar_cons ar_nil))) (xa_cons xd_int (xa_cons xd_int xa_nil)))) (xd_callM h_law_pick room guards (by decide) (pv 0) (xa_cons xd_int xa_nil) (ar_cons ar_nil))) rfl (.inr rfl)) (xs_cons (xs_set sc_law_rows.nd (xd_callM h_law_pick room guards (by decide) (pv 0) (xa_cons xd_int xa_nil) (ar_cons ar_nil)) rfl (.inr rfl)) (xs_cons (xs_setN sc_law_rows.nd (xn_lst xa_nil) rfl (.inl rfl)) (xs_cons (xs_for PassesOwn.never rfl (xi_range1 b_range (xd_item (Room.u65 room) (xd_lst (xa_cons (xd_cat xd_int (xd_callM h_law_pick room guards (by decide) (pv 0) (xa_cons (xd_rd (pv 1)) xa_nil) (ar_cons ar_nil))) (xa_cons (xd_rd (pv 1)) xa_nil))) (xd_callM h_law_pick room guards (by decide) (pv 0) (xa_cons xd_int xa_nil) (ar_cons ar_nil)))) (xg_name sc_law_rows.nd rfl (.inl rfl)) (xs_cons (xs_set sc_law_rows.nd (xd_callM h_law_pick room guards (by decide) (pv 0) (xa_cons (xd_cat (xd_rd (pv 2)) xd_int) xa_nil) (ar_cons ar_nil)) rfl (.inr rfl)) (xs_cons (xs_set sc_law_rows.nd (xd_callM h_law_pick room guards (by decide) (pv 0) (xa_cons xd_int xa_nil) (ar_cons ar_nil)) rfl (.inr rfl)) (xs_cons (xs_setLcD sc_law_rows.nd (xi_range1 b_range (xd_rd (pv 2))) (blkOk_by (N := ["_law_pen_here", "_law_upto", "_law_columns", "_law_way", "_law_found", "_law_k", "_law_turn", "_law_cut", "_law_first", "_law_row", "_law_shuffled", "_law_at", "_law_one"]) (sc := defScope s_law_rows) (own := [("_law_at", 11)]) (by decide +kernel)) (fun _ _ _ _ _ _ => (xg_name sc_law_rows.nd rfl (.inl rfl))) (fun _ _ _ _ _ _ => xts_nil) (fun _ _ _ _ _ _ => (xd_item (Room.u65 room) (xd_lst (xa_cons (xd_rd (pv 8)) (xa_cons (xd_sub xd_int (xd_rd (pv 8))) xa_nil))) (xd_toint b_int (xd_ge (xd_rd (pv 11)) (xd_rd (pv 7)))))) rfl rfl (sw_true rfl rfl rfl (by decide +kernel))) (xs_cons (xs_if (xt_gt (xd_rd (pv 3)) xd_int) (xs_one (xs_setLcD sc_law_rows.nd (xi_seq (xd_rd (pv 9))) (blkOk_by (N := ["_law_pen_here", "_law_upto", "_law_columns", "_law_way", "_law_found", "_law_k", "_law_turn", "_law_cut", "_law_first", "_law_row", "_law_shuffled", "_law_at", "_law_one"]) (sc := defScope s_law_rows) (own := [("_law_one", 12)]) (by decide +kernel)) (fun _ _ _ _ _ _ => (xg_name sc_law_rows.nd rfl (.inl rfl))) (fun _ _ _ _ _ _ => xts_nil) (fun _ _ _ _ _ _ => (xd_if (xt_eq room.units (xd_callM h_law_pick room guards (by decide) (pv 0) (xa_cons (xd_rd (pv 3)) xa_nil) (ar_cons ar_nil)) xd_int) (xd_callM h_law_pick room guards (by decide) (pv 0) (xa_cons xd_int xa_nil) (ar_cons ar_nil)) (xd_rd (pv 12)))) rfl rfl (sw_true rfl rfl rfl (by decide +kernel)))) xs_nil) (xs_one (xs_drop (xd_append (pv 4) (xd_totuple b_tuple (xd_new (xn_lc sc_law_rows.nd (xi_seq (xd_rd (pv 9))) (blkOk_by (N := ["_law_pen_here", "_law_upto", "_law_columns", "_law_way", "_law_found", "_law_k", "_law_turn", "_law_cut", "_law_first", "_law_row", "_law_shuffled", "_law_at", "_law_one"]) (sc := defScope s_law_rows) (own := [("_law_one", 12)]) (by decide +kernel)) (fun _ _ _ _ _ _ => (xg_name sc_law_rows.nd rfl (.inl rfl))) (fun _ _ _ _ _ _ => xts_nil) (fun _ _ _ _ _ _ => (xd_if (xt_eq room.units (xd_callM h_law_pick room guards (by decide) (pv 0) (xa_cons (xd_item (Room.u65 room) (xd_lst (xa_cons xd_int (xa_cons xd_int (xa_cons xd_int xa_nil)))) (xd_mod (xd_rd (pv 2)) xd_int)) xa_nil) (ar_cons ar_nil)) xd_int) xd_non (xd_rd (pv 12))))))))))))))) (xs_cons (xs_set sc_law_rows.nd (xd_callM h_law_pick room guards (by decide) (pv 0) (xa_cons xd_int xa_nil) (ar_cons ar_nil)) rfl (.inl rfl)) (xs_cons (xs_if (xt_gt (xd_rd (pv 6)) xd_int) (xs_cons (xs_set sc_law_rows.nd (xd_callM h_law_mixed room guards (by decide) (pv 0) (xa_cons (xd_new (xn_listR1 rfl b_list b_range (xd_rd (pv 2)))) xa_nil) (ar_cons ar_nil)) rfl (.inr rfl)) (xs_one (xs_setLcNR sc_law_rows.nd (xi_seq (xd_rd (pv 4))) (blkOk_by (N := ["_law_pen_here", "_law_upto", "_law_columns", "_law_way", "_law_found", "_law_k", "_law_turn", "_law_cut", "_law_first", "_law_row", "_law_shuffled", "_law_at", "_law_one"]) (sc := defScope s_law_rows) (own := [("_law_row", 9)]) (by decide +kernel)) (fun _ _ _ _ _ _ => (xg_name sc_law_rows.nd rfl (.inr rfl))) (fun _ _ _ _ _ _ => xts_nil) (fun _ _ _ _ _ _ => (xd_totuple b_tuple (xd_new (xn_lc sc_law_rows.nd (xi_seq (xd_rd (pv 10))) (blkOk_by (own := [("_law_at", 11)]) (by kernel_rfl)) (fun _ _ _ _ _ _ => (xg_name sc_law_rows.nd rfl (.inl rfl))) (fun _ _ _ _ _ _ => xts_nil) (fun _ _ _ _ _ _ => (xd_item (Room.u65 room) (xd_rd (pv 9)) (xd_rd (pv 11)))))))) rfl rfl (sw_true rfl rfl rfl (by decide +kernel))))) xs_nil) (xs_one (xs_ret (xd_totuple b_tuple (xd_rd (pv 4)))))))))))
abbrev s_all_orders : Stmt := topS 3
theorem sc_all_orders : FnScope ["columns", "found", "at", "column", "order"] ["columns"] (defScope s_all_orders) := ⟨rfl, rfl, rfl, by decide +kernel, rfl, by decide +kernel, by decide +kernel⟩
theorem w_all_orders (T : Dn K "all_orders" s_all_orders [] f fd) (b_enumerate : mg "enumerate" = none) (k : Nat) (h_all_orders : Has P w K mg base (0 + k) "all_orders" 1 [] (mr_all_orders k)) : FnG P w K mg base (CXM P w) (0 + k + 1) f fd ["columns"] (spP ⟨K, P, w, mg⟩ 1 (mr_all_orders (k + 1))) :=
  defP (g_all_orders (mr_all_orders k)) T sc_all_orders rfl (by decide) (e_all_orders k) fun C cdv A outer s H E room guards =>
    (xs_cons (xs_if (xt_eq room.units (xd_rd (pv 0)) (xd_lst xa_nil)) (xs_one (xs_retN (xn_lst (xa_cons (xd_tup xa_nil) xa_nil)))) xs_nil) (xs_cons (xs_setN sc_all_orders.nd (xn_lst xa_nil) rfl (.inl rfl)) (xs_cons (xs_for PassesOwn.never rfl (xi_enumerate b_enumerate (xd_rd (pv 0))) (xg_tup (xg_cons (xg_name sc_all_orders.nd rfl (.inl rfl)) (xg_cons (xg_name sc_all_orders.nd rfl (.inr rfl)) xg_nil))) (xss_clr [2, 3] (xs_one (xs_drop (xd_extendN (pv 1) (xn_lc sc_all_orders.nd (xi_seq (xd_call h_all_orders room guards (by omega) (xa_cons (xd_cat (xd_slice (xd_rd (pv 0)) xo_none (xo_some (xd_rd (pv 2)))) (xd_slice (xd_rd (pv 0)) (xo_some (xd_cat (xd_rd (pv 2)) xd_int)) xo_none)) xa_nil) (ar_cons ar_nil))) (blkOk_by (N := ["columns", "found", "at", "column", "order"]) (sc := defScope s_all_orders) (own := [("order", 4)]) (by decide +kernel)) (fun _ _ _ _ _ _ => (xg_name sc_all_orders.nd rfl (.inl rfl))) (fun _ _ _ _ _ _ => xts_nil) (fun _ _ _ _ _ _ => (xd_cat (xd_tup (xa_cons (xd_rd (pv 3)) xa_nil)) (xd_rd (pv 4)))))))))) (xs_one (xs_retM (pv 1))))))
abbrev s_law_lines : Stmt := topS 12
theorem sc_law_lines : FnScope ["_law_columns", "_law_found", "_law_column", "_law_rest", "_law_one"] ["_law_columns"] (defScope s_law_lines) := ⟨rfl, rfl, rfl, by decide +kernel, rfl, by decide +kernel, by decide +kernel⟩
theorem w_law_lines (T : Dn K "_law_lines" s_law_lines [] f fd) (k : Nat) (h_law_lines : Has P w K mg base (0 + k) "_law_lines" 1 [] (mr_law_lines k)) : FnG P w K mg base (CXM P w) (0 + k + 1) f fd ["_law_columns"] (spP ⟨K, P, w, mg⟩ 1 (mr_law_lines (k + 1))) :=
  defP (g_law_lines (mr_law_lines k)) T sc_law_lines rfl (by decide) (e_law_lines k) fun C cdv A outer s H E room guards =>
    (xs_cons (xs_if (xt_eq room.units (xd_rd (pv 0)) (xd_lst xa_nil)) (xs_one (xs_retN (xn_lst (xa_cons (xd_tup xa_nil) xa_nil)))) xs_nil) (xs_cons (xs_setN sc_law_lines.nd (xn_lst xa_nil) rfl (.inl rfl)) (xs_cons (xs_for PassesOwn.never rfl (xi_seq (xd_rd (pv 0))) (xg_name sc_law_lines.nd rfl (.inr rfl)) (xss_clr [2, 3] (xs_one (xs_for PassesOwn.never rfl (xi_seq (xd_call h_law_lines room guards (by omega) (xa_cons (xd_new (xn_lc sc_law_lines.nd (xi_seq (xd_rd (pv 0))) (blkOk_by (N := ["_law_columns", "_law_found", "_law_column", "_law_rest", "_law_one"]) (sc := defScope s_law_lines) (own := [("_law_one", 4)]) (by decide +kernel)) (fun _ _ _ _ _ _ => (xg_name sc_law_lines.nd rfl (.inl rfl))) (fun _ _ _ _ _ _ => (xts_one (xt_ne room.units (xd_rd (pv 4)) (xd_rd (pv 2))))) (fun _ _ _ _ _ _ => (xd_rd (pv 4))))) xa_nil) (ar_cons ar_nil))) (xg_name sc_law_lines.nd rfl (.inl rfl)) (xss_clr [3] (xs_one (xs_drop (xd_append (pv 1) (xd_cat (xd_tup (xa_cons (xd_rd (pv 2)) xa_nil)) (xd_rd (pv 3))))))))))) (xs_one (xs_retM (pv 1))))))
abbrev s_orders_of : Stmt := topS 4
theorem sc_orders_of : FnScope ["many", "order"] ["many"] (defScope s_orders_of) := ⟨rfl, rfl, rfl, by decide +kernel, rfl, by decide +kernel, by decide +kernel⟩
theorem w_orders_of (T : Dn K "orders_of" s_orders_of [] f fd) (b_list : mg "list" = none) (b_range : mg "range" = none) (h_all_orders : Has P w K mg base 8 "all_orders" 1 [] mf_all_orders) : FnG P w K mg base (CXM P w) 9 f fd ["many"] (spP ⟨K, P, w, mg⟩ 1 mf_orders_of) :=
  defP g_orders_of T sc_orders_of rfl (by decide) e_orders_of fun C cdv A outer s H E room guards =>
    (xs_one (xs_retN (xn_lc sc_orders_of.nd (xi_seq (xd_call h_all_orders room guards (by decide) (xa_cons (xd_new (xn_listR1 rfl b_list b_range (xd_rd (pv 0)))) xa_nil) (ar_cons ar_nil))) (blkOk_by (N := ["many", "order"]) (sc := defScope s_orders_of) (own := [("order", 1)]) (by decide +kernel)) (fun _ _ _ _ _ _ => (xg_name sc_orders_of.nd rfl (.inl rfl))) (fun _ _ _ _ _ _ => (xts_one (xt_ltT (Room.u65 room) (xd_rd (pv 1)) (xd_revA (xd_rd (pv 1)))))) (fun _ _ _ _ _ _ => (xd_rd (pv 1))))))
abbrev s_law_best : Stmt := topS 13
theorem sc_law_best : FnScope ["_law_sheet", "_law_found", "_law_line", "_law_fewest", "_law_count"] ["_law_sheet"] (defScope s_law_best) := ⟨rfl, rfl, rfl, by decide +kernel, rfl, by decide +kernel, by decide +kernel⟩
theorem w_law_best (T : Dn K "_law_best" s_law_best [] f fd) (b_len : mg "len" = none) (b_list : mg "list" = none) (b_min : mg "min" = none) (b_range : mg "range" = none) (b_sorted : mg "sorted" = none) (h_law_lines : Has P w K mg base 8 "_law_lines" 1 [] mf_law_lines) (h_law_crossed : Has P w K mg base 1 "_law_crossed" 2 [] mf_law_crossed) : FnG P w K mg base (CXM P w) 9 f fd ["_law_sheet"] (spP ⟨K, P, w, mg⟩ 1 mf_law_best) :=
  defP g_law_best T sc_law_best rfl (by decide) e_law_best fun C cdv A outer s H E room guards =>
    (xs_cons (xs_setDct sc_law_best.nd xm_emp rfl (.inl rfl)) (xs_cons (xs_for PassesOwn.never rfl (xi_seq (xd_call h_law_lines room guards (by decide) (xa_cons (xd_new (xn_listR1 rfl b_list b_range (xd_len b_len (xd_item (Room.u65 room) (xd_rd (pv 0)) xd_int)))) xa_nil) (ar_cons ar_nil))) (xg_name sc_law_best.nd rfl (.inl rfl)) (xss_clr [2, 4] (xs_one (xs_clr [4] (xs_if (xt_lt (xd_item (Room.u65 room) (xd_rd (pv 2)) xd_int) (xd_item (Room.u65 room) (xd_rd (pv 2)) (xd_neg xd_int))) (xs_cons (xs_set sc_law_best.nd (xd_call h_law_crossed room guards (by decide) (xa_cons (xd_rd (pv 0)) (xa_cons (xd_rd (pv 2)) xa_nil)) (ar_cons (ar_cons ar_nil))) rfl (.inl rfl)) (xs_one (xs_putD (Room.u65 room) (pv 1) (xd_rd (pv 4)) (xd_cat (xd_getD2 (Room.u65 room) (pv 1) (xd_rd (pv 4)) (xd_lst xa_nil) ⟨by rfl, by rfl, by rfl, by rfl⟩) (xd_lst (xa_cons (xd_rd (pv 2)) xa_nil)))))) xs_nil))))) (xs_cons (xs_set sc_law_best.nd (xd_minL rfl b_min (xd_listD rfl b_list (xd_frz (pv 1)))) rfl (.inl rfl)) (xs_one (xs_ret (xd_tup (xa_cons (xd_rd (pv 3)) (xa_cons (xd_sorted (Room.u65 room) b_sorted (xd_ixD (Room.u65 room) (pv 1) (xd_rd (pv 3)))) xa_nil))))))))
abbrev s_best_orders : Stmt := topS 5
theorem sc_best_orders : FnScope ["rows", "counts", "fewest", "order"] ["rows"] (defScope s_best_orders) := ⟨rfl, rfl, rfl, by decide +kernel, rfl, by decide +kernel, by decide +kernel⟩
theorem wR_best_orders (T : Dn K "best_orders" s_best_orders [] f fd) (b_len : mg "len" = none) (b_min : mg "min" = none) (b_sorted : mg "sorted" = none) (h_orders_of : Has P w K mg base 9 "orders_of" 1 [] mf_orders_of) (h_crossings : Has P w K mg base 2 "crossings" 2 [] mf_crossings) : FnG P w K mg base (CXM P w) 10 f fd ["rows"] (spR ⟨K, P, w, mg⟩ 1 (mfR mf_best_orders)) :=
  defR3 (A1 := (asgM 1 (compM (itD (rvD (callP mf_orders_of [] (consA (un1 kLen (bin2 kIx (rd 0) (cst (.int 0)))) nilA)))) (setD 3) yesB (rd 3) (rvD (callP mf_crossings [] (consA (rd 0) (consA (rd 3) nilA)))) [3]))) (B1 := (asgS 2 (un1 kMinV (frz 1)))) (f1 := (rd 2)) (f2 := (listE (compF (itK (frz 1)) (setD 3) (valB (bin2 kEq (ixD 1 (rd 3)) (rd 2))) (rd 3) [3]))) T sc_best_orders rfl (by decide) e_best_orders asgM_nx asgS_nx rfl fun C cdv A outer s H E room guards =>
    ⟨(xs_setDct sc_best_orders.nd (xm_dc (Room.u65 room) sc_best_orders.nd (xi_seq (xd_call h_orders_of room guards (by decide) (xa_cons (xd_len b_len (xd_item (Room.u65 room) (xd_rd (pv 0)) xd_int)) xa_nil) (ar_cons ar_nil))) (blkOk_by (N := ["rows", "counts", "fewest", "order"]) (sc := defScope s_best_orders) (own := [("order", 3)]) (by decide +kernel)) (fun _ _ _ _ _ _ => (xg_name sc_best_orders.nd rfl (.inl rfl))) (fun _ _ _ _ _ _ => xts_nil) (fun _ _ _ _ _ _ => (xd_rd (pv 3))) (fun _ _ _ _ _ _ => (xd_call h_crossings room guards (by decide) (xa_cons (xd_rd (pv 0)) (xa_cons (xd_rd (pv 3)) xa_nil)) (ar_cons (ar_cons ar_nil))))) rfl (.inr rfl)), (xs_set sc_best_orders.nd (xd_minV rfl b_min (xd_frz (pv 1))) rfl (.inr rfl)), (xd_rd (pv 2)), xn_sorted (Room.u65 room) b_sorted (xd_new (xn_lc sc_best_orders.nd (xi_keys (xd_frz (pv 1))) (blkOk_by (N := ["rows", "counts", "fewest", "order"]) (sc := defScope s_best_orders) (own := [("order", 3)]) (by decide +kernel)) (fun _ _ _ _ _ _ => (xg_name sc_best_orders.nd rfl (.inl rfl))) (fun _ _ _ _ _ _ => (xts_one (xt_eq room.units (xd_ixD (Room.u65 room) (pv 1) (xd_rd (pv 3))) (xd_rd (pv 2))))) (fun _ _ _ _ _ _ => (xd_rd (pv 3))))), rfl, rfl⟩
theorem w_best_orders (T : Dn K "best_orders" s_best_orders [] f fd) (b_len : mg "len" = none) (b_min : mg "min" = none) (b_sorted : mg "sorted" = none) (h_orders_of : Has P w K mg base 9 "orders_of" 1 [] mf_orders_of) (h_crossings : Has P w K mg base 2 "crossings" 2 [] mf_crossings) : FnG P w K mg base (CXM P w) 10 f fd ["rows"] (spP ⟨K, P, w, mg⟩ 1 mf_best_orders) :=
  defP g_best_orders T sc_best_orders rfl (by decide) e_best_orders fun C cdv A outer s H E room guards =>
    (xs_cons (xs_setDct sc_best_orders.nd (xm_dc (Room.u65 room) sc_best_orders.nd (xi_seq (xd_call h_orders_of room guards (by decide) (xa_cons (xd_len b_len (xd_item (Room.u65 room) (xd_rd (pv 0)) xd_int)) xa_nil) (ar_cons ar_nil))) (blkOk_by (N := ["rows", "counts", "fewest", "order"]) (sc := defScope s_best_orders) (own := [("order", 3)]) (by decide +kernel)) (fun _ _ _ _ _ _ => (xg_name sc_best_orders.nd rfl (.inl rfl))) (fun _ _ _ _ _ _ => xts_nil) (fun _ _ _ _ _ _ => (xd_rd (pv 3))) (fun _ _ _ _ _ _ => (xd_call h_crossings room guards (by decide) (xa_cons (xd_rd (pv 0)) (xa_cons (xd_rd (pv 3)) xa_nil)) (ar_cons (ar_cons ar_nil))))) rfl (.inr rfl)) (xs_cons (xs_set sc_best_orders.nd (xd_minV rfl b_min (xd_frz (pv 1))) rfl (.inr rfl)) (xs_one (xs_ret (xd_tup (xa_cons (xd_rd (pv 2)) (xa_cons (xd_sorted (Room.u65 room) b_sorted (xd_new (xn_lc sc_best_orders.nd (xi_keys (xd_frz (pv 1))) (blkOk_by (N := ["rows", "counts", "fewest", "order"]) (sc := defScope s_best_orders) (own := [("order", 3)]) (by decide +kernel)) (fun _ _ _ _ _ _ => (xg_name sc_best_orders.nd rfl (.inl rfl))) (fun _ _ _ _ _ _ => (xts_one (xt_eq room.units (xd_ixD (Room.u65 room) (pv 1) (xd_rd (pv 3))) (xd_rd (pv 2))))) (fun _ _ _ _ _ _ => (xd_rd (pv 3)))))) xa_nil)))))))
abbrev s_law : Stmt := topS 14
theorem sc_law : FnScope ["_law_script", "_law_pen_here", "_law_some", "_law_shown", "_law_sheet", "_law_right", "_law_kept", "_law_found", "_law_k"] ["_law_script"] (defScope s_law) := ⟨rfl, rfl, rfl, by decide +kernel, rfl, by decide +kernel, by decide +kernel⟩
theorem w_law (T : Dn K "law" s_law [] f fd) (b_range : mg "range" = none) (b_repr : mg "repr" = none) (h_law_pen : Has P w K mg base 1 "_law_pen" 1 [] mf_law_pen) (h_law_rows : HasQ P w K mg base 3 "_law_rows" 2 mq_law_rows) (h_law_pick : HasQ P w K mg base 1 "_law_pick" 2 mq_law_pick) (h_law_best : Has P w K mg base 9 "_law_best" 1 [] mf_law_best) (h_best_orders_k0_rows : HasK P w K mg base 10 "best_orders" 1 0 ["rows"] [.inr 0] mf_best_orders) (h_best_orders_r : HasR P w K mg base 10 "best_orders" 1 (mfR mf_best_orders)) : FnG P w K mg base (CXM P w) 11 f fd ["_law_script"] (spP ⟨K, P, w, mg⟩ 1 mf_law) :=
  defP g_law T sc_law rfl (by decide) e_law fun C cdv A outer s H E room guards =>
    (xs_cons (xs_setN sc_law.nd (xn_call h_law_pen room guards (by decide) (xa_cons (xd_rd (pv 0)) xa_nil) (ar_cons ar_nil)) rfl (.inr rfl)) (xs_cons (xs_setLcN sc_law.nd (xi_range1 b_range xd_int) (blkOk_by (N := ["_law_script", "_law_pen_here", "_law_some", "_law_shown", "_law_sheet", "_law_right", "_law_kept", "_law_found", "_law_k"]) (sc := defScope s_law) (own := [("_law_k", 8)]) (by decide +kernel)) (fun _ _ _ _ _ _ => (xg_name sc_law.nd rfl (.inl rfl))) (fun _ _ _ _ _ _ => xts_nil) (fun _ _ _ _ _ _ => (xd_callM h_law_rows room guards (by decide) (pv 1) (xa_cons (xd_item (Room.u65 room) (xd_lst (xa_cons xd_int (xa_cons xd_int xa_nil))) (xd_rd (pv 8))) xa_nil) (ar_cons ar_nil))) rfl rfl (sw_true rfl rfl rfl (by decide +kernel))) (xs_cons (xs_drop (xd_append (pv 2) (xd_item (Room.u65 room) (xd_lst (xa_cons (xd_tup (xa_cons (xd_tup (xa_cons xd_non (xa_cons xd_non (xa_cons xd_non xa_nil)))) xa_nil)) (xa_cons (xd_tup (xa_cons (xd_tup (xa_cons xd_int (xa_cons xd_non (xa_cons xd_non (xa_cons xd_int xa_nil))))) xa_nil)) (xa_cons (xd_tup (xa_cons (xd_tup (xa_cons xd_int (xa_cons xd_int (xa_cons xd_int (xa_cons xd_int xa_nil))))) (xa_cons (xd_tup (xa_cons xd_int (xa_cons xd_int (xa_cons xd_int (xa_cons xd_int xa_nil))))) xa_nil))) xa_nil)))) (xd_callM h_law_pick room guards (by decide) (pv 1) (xa_cons xd_int xa_nil) (ar_cons ar_nil))))) (xs_cons (xs_clr [1, 2] (xs_setLcDR sc_law.nd (xi_seq (xd_rd (pv 2))) (blkOk_by (N := ["_law_script", "_law_pen_here", "_law_some", "_law_shown", "_law_sheet", "_law_right", "_law_kept", "_law_found", "_law_k"]) (sc := defScope s_law) (own := [("_law_sheet", 4)]) (by decide +kernel)) (fun _ _ _ _ _ _ => (xg_name sc_law.nd rfl (.inl rfl))) (fun _ _ _ _ _ _ => xts_nil) (fun _ _ _ _ _ _ => (xd_tup (xa_cons (xd_rd (pv 4)) (xa_cons (xd_call h_law_best room guards (by decide) (xa_cons (xd_rd (pv 4)) xa_nil) (ar_cons ar_nil)) xa_nil)))) rfl rfl (sw_true rfl rfl rfl (by decide +kernel)))) (xs_cons (xs_for PassesOwn.never rfl (xi_seq (xd_cat (xd_rd (pv 3)) (xd_revA (xd_rd (pv 3))))) (xg_tup (xg_cons (xg_name sc_law.nd rfl (.inl rfl)) (xg_cons (xg_name sc_law.nd rfl (.inl rfl)) xg_nil))) (xss_clr [4, 5, 6, 7] (xs_cons (xs_set sc_law.nd (xd_repr (Room.u200 room) guards b_repr (xd_rd (pv 4))) rfl (.inl rfl)) (xs_blkR h_best_orders_r room guards (by decide) (xa_cons (xd_rd (pv 4)) xa_nil) (ar_cons ar_nil) sc_law.nd rfl (.inl rfl) (.inl rfl) (xt_w (xw_or (xt_ne room.units (xd_repr (Room.u200 room) guards b_repr (xd_rd (pv 7))) (xd_repr (Room.u200 room) guards b_repr (xd_rd (pv 5)))) (xw_or1 (xt_ne room.units (xd_repr (Room.u200 room) guards b_repr (xd_rd (pv 4))) (xd_rd (pv 6)))))) (xs_one (xs_if (xt_ne room.units (xd_repr (Room.u200 room) guards b_repr (xd_callK0 h_best_orders_k0_rows room guards (by decide) (xk_cons (xd_rd (pv 4)) xk_nil) (ar_cons ar_nil))) (xd_repr (Room.u200 room) guards b_repr (xd_rd (pv 5)))) (xs_one (xs_ret xd_bl)) xs_nil)))))) (xs_one (xs_ret xd_bl)))))))
end
theorem all_mk {l : PySem.W.OpenLaw} {w : World} {K : PySem.W.Frag} {h : Heap} {mg : Str → Option Value} {fa : Addr} (X : K.In h) (G : h.Ns mainGlobals mg) (hfa : mg "law" = some (.ref fa))
    {f_crossings_in : Addr} {od_crossings_in an_crossings_in : Option Addr} {sl_crossings_in : Array (Option Value)} {oc_crossings_in kV_crossings_in dc_crossings_in pm_crossings_in cd_crossings_in ct_crossings_in : Value}
    {f_law_pen : Addr} {od_law_pen an_law_pen : Option Addr} {sl_law_pen : Array (Option Value)} {oc_law_pen kV_law_pen dc_law_pen pm_law_pen cd_law_pen ct_law_pen : Value}
    {f_law_pick : Addr} {od_law_pick an_law_pick : Option Addr} {sl_law_pick : Array (Option Value)} {oc_law_pick kV_law_pick dc_law_pick pm_law_pick cd_law_pick ct_law_pick : Value}
    {f_law_crossed : Addr} {od_law_crossed an_law_crossed : Option Addr} {sl_law_crossed : Array (Option Value)} {oc_law_crossed kV_law_crossed dc_law_crossed pm_law_crossed cd_law_crossed ct_law_crossed : Value}
    {f_crossings : Addr} {od_crossings an_crossings : Option Addr} {sl_crossings : Array (Option Value)} {oc_crossings kV_crossings dc_crossings pm_crossings cd_crossings ct_crossings : Value}
    {f_law_mixed : Addr} {od_law_mixed an_law_mixed : Option Addr} {sl_law_mixed : Array (Option Value)} {oc_law_mixed kV_law_mixed dc_law_mixed pm_law_mixed cd_law_mixed ct_law_mixed : Value}
    {f_law_rows : Addr} {od_law_rows an_law_rows : Option Addr} {sl_law_rows : Array (Option Value)} {oc_law_rows kV_law_rows dc_law_rows pm_law_rows cd_law_rows ct_law_rows : Value}
    {f_all_orders : Addr} {od_all_orders an_all_orders : Option Addr} {sl_all_orders : Array (Option Value)} {oc_all_orders kV_all_orders dc_all_orders pm_all_orders cd_all_orders ct_all_orders : Value}
    {f_law_lines : Addr} {od_law_lines an_law_lines : Option Addr} {sl_law_lines : Array (Option Value)} {oc_law_lines kV_law_lines dc_law_lines pm_law_lines cd_law_lines ct_law_lines : Value}
    {f_orders_of : Addr} {od_orders_of an_orders_of : Option Addr} {sl_orders_of : Array (Option Value)} {oc_orders_of kV_orders_of dc_orders_of pm_orders_of cd_orders_of ct_orders_of : Value}
    {f_law_best : Addr} {od_law_best an_law_best : Option Addr} {sl_law_best : Array (Option Value)} {oc_law_best kV_law_best dc_law_best pm_law_best cd_law_best ct_law_best : Value}
    {f_best_orders : Addr} {od_best_orders an_best_orders : Option Addr} {sl_best_orders : Array (Option Value)} {oc_best_orders kV_best_orders dc_best_orders pm_best_orders cd_best_orders ct_best_orders : Value}
    {f_law : Addr} {od_law an_law : Option Addr} {sl_law : Array (Option Value)} {oc_law kV_law dc_law pm_law cd_law ct_law : Value}
    (a_crossings_in : PySem.W.nsIn K mainGlobals "crossings_in" = some (some (.ref f_crossings_in)))
    (l_crossings_in : K.lookup f_crossings_in = some ⟨oc_crossings_in, od_crossings_in, .func (PySem.W.fnOf "crossings_in" "crossings_in" (defArgs s_crossings_in) (defBody s_crossings_in) (defScope s_crossings_in) .none kV_crossings_in dc_crossings_in pm_crossings_in an_crossings_in cd_crossings_in ct_crossings_in), sl_crossings_in⟩)
    (c_crossings_in : PySem.W.codeIn K cd_crossings_in "crossings_in" = true)
    (k_crossings_in : PySem.W.keepIn K (.ref f_crossings_in) = true)
    (a_law_pen : PySem.W.nsIn K mainGlobals "_law_pen" = some (some (.ref f_law_pen)))
    (l_law_pen : K.lookup f_law_pen = some ⟨oc_law_pen, od_law_pen, .func (PySem.W.fnOf "_law_pen" "_law_pen" (defArgs s_law_pen) (defBody s_law_pen) (defScope s_law_pen) .none kV_law_pen dc_law_pen pm_law_pen an_law_pen cd_law_pen ct_law_pen), sl_law_pen⟩)
    (c_law_pen : PySem.W.codeIn K cd_law_pen "_law_pen" = true)
    (k_law_pen : PySem.W.keepIn K (.ref f_law_pen) = true)
    (a_law_pick : PySem.W.nsIn K mainGlobals "_law_pick" = some (some (.ref f_law_pick)))
    (l_law_pick : K.lookup f_law_pick = some ⟨oc_law_pick, od_law_pick, .func (PySem.W.fnOf "_law_pick" "_law_pick" (defArgs s_law_pick) (defBody s_law_pick) (defScope s_law_pick) .none kV_law_pick dc_law_pick pm_law_pick an_law_pick cd_law_pick ct_law_pick), sl_law_pick⟩)
    (c_law_pick : PySem.W.codeIn K cd_law_pick "_law_pick" = true)
    (k_law_pick : PySem.W.keepIn K (.ref f_law_pick) = true)
    (a_law_crossed : PySem.W.nsIn K mainGlobals "_law_crossed" = some (some (.ref f_law_crossed)))
    (l_law_crossed : K.lookup f_law_crossed = some ⟨oc_law_crossed, od_law_crossed, .func (PySem.W.fnOf "_law_crossed" "_law_crossed" (defArgs s_law_crossed) (defBody s_law_crossed) (defScope s_law_crossed) .none kV_law_crossed dc_law_crossed pm_law_crossed an_law_crossed cd_law_crossed ct_law_crossed), sl_law_crossed⟩)
    (c_law_crossed : PySem.W.codeIn K cd_law_crossed "_law_crossed" = true)
    (k_law_crossed : PySem.W.keepIn K (.ref f_law_crossed) = true)
    (a_crossings : PySem.W.nsIn K mainGlobals "crossings" = some (some (.ref f_crossings)))
    (l_crossings : K.lookup f_crossings = some ⟨oc_crossings, od_crossings, .func (PySem.W.fnOf "crossings" "crossings" (defArgs s_crossings) (defBody s_crossings) (defScope s_crossings) .none kV_crossings dc_crossings pm_crossings an_crossings cd_crossings ct_crossings), sl_crossings⟩)
    (c_crossings : PySem.W.codeIn K cd_crossings "crossings" = true)
    (k_crossings : PySem.W.keepIn K (.ref f_crossings) = true)
    (a_law_mixed : PySem.W.nsIn K mainGlobals "_law_mixed" = some (some (.ref f_law_mixed)))
    (l_law_mixed : K.lookup f_law_mixed = some ⟨oc_law_mixed, od_law_mixed, .func (PySem.W.fnOf "_law_mixed" "_law_mixed" (defArgs s_law_mixed) (defBody s_law_mixed) (defScope s_law_mixed) .none kV_law_mixed dc_law_mixed pm_law_mixed an_law_mixed cd_law_mixed ct_law_mixed), sl_law_mixed⟩)
    (c_law_mixed : PySem.W.codeIn K cd_law_mixed "_law_mixed" = true)
    (k_law_mixed : PySem.W.keepIn K (.ref f_law_mixed) = true)
    (a_law_rows : PySem.W.nsIn K mainGlobals "_law_rows" = some (some (.ref f_law_rows)))
    (l_law_rows : K.lookup f_law_rows = some ⟨oc_law_rows, od_law_rows, .func (PySem.W.fnOf "_law_rows" "_law_rows" (defArgs s_law_rows) (defBody s_law_rows) (defScope s_law_rows) .none kV_law_rows dc_law_rows pm_law_rows an_law_rows cd_law_rows ct_law_rows), sl_law_rows⟩)
    (c_law_rows : PySem.W.codeIn K cd_law_rows "_law_rows" = true)
    (k_law_rows : PySem.W.keepIn K (.ref f_law_rows) = true)
    (a_all_orders : PySem.W.nsIn K mainGlobals "all_orders" = some (some (.ref f_all_orders)))
    (l_all_orders : K.lookup f_all_orders = some ⟨oc_all_orders, od_all_orders, .func (PySem.W.fnOf "all_orders" "all_orders" (defArgs s_all_orders) (defBody s_all_orders) (defScope s_all_orders) .none kV_all_orders dc_all_orders pm_all_orders an_all_orders cd_all_orders ct_all_orders), sl_all_orders⟩)
    (c_all_orders : PySem.W.codeIn K cd_all_orders "all_orders" = true)
    (k_all_orders : PySem.W.keepIn K (.ref f_all_orders) = true)
    (a_law_lines : PySem.W.nsIn K mainGlobals "_law_lines" = some (some (.ref f_law_lines)))
    (l_law_lines : K.lookup f_law_lines = some ⟨oc_law_lines, od_law_lines, .func (PySem.W.fnOf "_law_lines" "_law_lines" (defArgs s_law_lines) (defBody s_law_lines) (defScope s_law_lines) .none kV_law_lines dc_law_lines pm_law_lines an_law_lines cd_law_lines ct_law_lines), sl_law_lines⟩)
    (c_law_lines : PySem.W.codeIn K cd_law_lines "_law_lines" = true)
    (k_law_lines : PySem.W.keepIn K (.ref f_law_lines) = true)
    (a_orders_of : PySem.W.nsIn K mainGlobals "orders_of" = some (some (.ref f_orders_of)))
    (l_orders_of : K.lookup f_orders_of = some ⟨oc_orders_of, od_orders_of, .func (PySem.W.fnOf "orders_of" "orders_of" (defArgs s_orders_of) (defBody s_orders_of) (defScope s_orders_of) .none kV_orders_of dc_orders_of pm_orders_of an_orders_of cd_orders_of ct_orders_of), sl_orders_of⟩)
    (c_orders_of : PySem.W.codeIn K cd_orders_of "orders_of" = true)
    (k_orders_of : PySem.W.keepIn K (.ref f_orders_of) = true)
    (a_law_best : PySem.W.nsIn K mainGlobals "_law_best" = some (some (.ref f_law_best)))
    (l_law_best : K.lookup f_law_best = some ⟨oc_law_best, od_law_best, .func (PySem.W.fnOf "_law_best" "_law_best" (defArgs s_law_best) (defBody s_law_best) (defScope s_law_best) .none kV_law_best dc_law_best pm_law_best an_law_best cd_law_best ct_law_best), sl_law_best⟩)
    (c_law_best : PySem.W.codeIn K cd_law_best "_law_best" = true)
    (k_law_best : PySem.W.keepIn K (.ref f_law_best) = true)
    (a_best_orders : PySem.W.nsIn K mainGlobals "best_orders" = some (some (.ref f_best_orders)))
    (l_best_orders : K.lookup f_best_orders = some ⟨oc_best_orders, od_best_orders, .func (PySem.W.fnOf "best_orders" "best_orders" (defArgs s_best_orders) (defBody s_best_orders) (defScope s_best_orders) .none kV_best_orders dc_best_orders pm_best_orders an_best_orders cd_best_orders ct_best_orders), sl_best_orders⟩)
    (c_best_orders : PySem.W.codeIn K cd_best_orders "best_orders" = true)
    (k_best_orders : PySem.W.keepIn K (.ref f_best_orders) = true)
    (a_law : PySem.W.nsIn K mainGlobals "law" = some (some (.ref f_law)))
    (l_law : K.lookup f_law = some ⟨oc_law, od_law, .func (PySem.W.fnOf "law" "law" (defArgs s_law) (defBody s_law) (defScope s_law) .none kV_law dc_law pm_law an_law cd_law ct_law), sl_law⟩)
    (c_law : PySem.W.codeIn K cd_law "law" = true)
    (k_law : PySem.W.keepIn K (.ref f_law) = true)
    (z_abs : PySem.W.nsIn K mainGlobals "abs" = some none)
    (z_enumerate : PySem.W.nsIn K mainGlobals "enumerate" = some none)
    (z_int : PySem.W.nsIn K mainGlobals "int" = some none)
    (z_len : PySem.W.nsIn K mainGlobals "len" = some none)
    (z_list : PySem.W.nsIn K mainGlobals "list" = some none)
    (z_min : PySem.W.nsIn K mainGlobals "min" = some none)
    (z_range : PySem.W.nsIn K mainGlobals "range" = some none)
    (z_repr : PySem.W.nsIn K mainGlobals "repr" = some none)
    (z_sorted : PySem.W.nsIn K mainGlobals "sorted" = some none)
    (z_sum : PySem.W.nsIn K mainGlobals "sum" = some none)
    (z_tuple : PySem.W.nsIn K mainGlobals "tuple" = some none)
    (z_zip : PySem.W.nsIn K mainGlobals "zip" = some none) :
    ∃ fd : FuncData, (∀ (s : Shared) (v : Value), BindsTo s fd ⟨[v], []⟩ [("_law_script", v)]) ∧ ∀ base : Heap, K.In base → base.Ns mainGlobals mg → FnG l.prog w K mg base (CXM l.prog w) 11 fa fd ["_law_script"] (spP ⟨K, l.prog, w, mg⟩ 1 mf_law) := by
  cases hfa.symm.trans (PySem.W.mg_of X G a_law)
  have D_crossings_in := (dn_mk (st := s_crossings_in) l_crossings_in c_crossings_in k_crossings_in)
  have D_law_pen := (dn_mk (st := s_law_pen) l_law_pen c_law_pen k_law_pen)
  have D_law_pick := (dn_mk (st := s_law_pick) l_law_pick c_law_pick k_law_pick)
  have D_law_crossed := (dn_mk (st := s_law_crossed) l_law_crossed c_law_crossed k_law_crossed)
  have D_crossings := (dn_mk (st := s_crossings) l_crossings c_crossings k_crossings)
  have D_law_mixed := (dn_mk (st := s_law_mixed) l_law_mixed c_law_mixed k_law_mixed)
  have D_law_rows := (dn_mk (st := s_law_rows) l_law_rows c_law_rows k_law_rows)
  have D_all_orders := (dn_mk (st := s_all_orders) l_all_orders c_all_orders k_all_orders)
  have D_law_lines := (dn_mk (st := s_law_lines) l_law_lines c_law_lines k_law_lines)
  have D_orders_of := (dn_mk (st := s_orders_of) l_orders_of c_orders_of k_orders_of)
  have D_law_best := (dn_mk (st := s_law_best) l_law_best c_law_best k_law_best)
  have D_best_orders := (dn_mk (st := s_best_orders) l_best_orders c_best_orders k_best_orders)
  have D_law := (dn_mk (st := s_law) l_law c_law k_law)
  refine ⟨_, fun s v => D_law.bindsA (ps := ["_law_script"]) (fun _ _ _ _ _ _ us hl => match us, hl with | [_], _ => rfl) s [v] rfl, fun base _ _ => ?_⟩
  have b_abs := PySem.W.mg_none_of X G z_abs
  have b_enumerate := PySem.W.mg_none_of X G z_enumerate
  have b_int := PySem.W.mg_none_of X G z_int
  have b_len := PySem.W.mg_none_of X G z_len
  have b_list := PySem.W.mg_none_of X G z_list
  have b_min := PySem.W.mg_none_of X G z_min
  have b_range := PySem.W.mg_none_of X G z_range
  have b_repr := PySem.W.mg_none_of X G z_repr
  have b_sorted := PySem.W.mg_none_of X G z_sorted
  have b_sum := PySem.W.mg_none_of X G z_sum
  have b_tuple := PySem.W.mg_none_of X G z_tuple
  have b_zip := PySem.W.mg_none_of X G z_zip
  have W_crossings_in : FnG l.prog w K mg base (CXM l.prog w) _ _ _ _ _ := w_crossings_in D_crossings_in b_len b_zip
  have h_crossings_in : Has l.prog w K mg base 1 "crossings_in" 2 [] mf_crossings_in := ⟨_, _, _, [], [], W_crossings_in, PySem.W.mg_of X G a_crossings_in, k_crossings_in, D_crossings_in.bindsN (fun _ _ _ _ _ _ us hl => match us, hl with | [_, _], _ => rfl), .nil, fun _ => .nil⟩
  have W_law_pen : FnG l.prog w K mg base (CXM l.prog w) _ _ _ _ _ := w_law_pen D_law_pen b_list
  have h_law_pen : Has l.prog w K mg base 1 "_law_pen" 1 [] mf_law_pen := ⟨_, _, _, [], [], W_law_pen, PySem.W.mg_of X G a_law_pen, k_law_pen, D_law_pen.bindsN (fun _ _ _ _ _ _ us hl => match us, hl with | [_], _ => rfl), .nil, fun _ => .nil⟩
  have W_law_pick : FnG l.prog w K mg base (CXM l.prog w) _ _ _ _ _ := w_law_pick D_law_pick b_abs b_int b_len
  have h_law_pick : HasQ l.prog w K mg base 1 "_law_pick" 2 mq_law_pick := ⟨_, _, _, W_law_pick, PySem.W.mg_of X G a_law_pick, k_law_pick, D_law_pick.bindsN fun _ _ _ _ _ _ us hl => match us, hl with | [_, _], _ => rfl⟩
  have W_law_crossed : FnG l.prog w K mg base (CXM l.prog w) _ _ _ _ _ := w_law_crossed D_law_crossed b_int
  have h_law_crossed : Has l.prog w K mg base 1 "_law_crossed" 2 [] mf_law_crossed := ⟨_, _, _, [], [], W_law_crossed, PySem.W.mg_of X G a_law_crossed, k_law_crossed, D_law_crossed.bindsN (fun _ _ _ _ _ _ us hl => match us, hl with | [_, _], _ => rfl), .nil, fun _ => .nil⟩
  have W_crossings : FnG l.prog w K mg base (CXM l.prog w) _ _ _ _ _ := w_crossings D_crossings b_sum h_crossings_in
  have h_crossings : Has l.prog w K mg base 2 "crossings" 2 [] mf_crossings := ⟨_, _, _, [], [], W_crossings, PySem.W.mg_of X G a_crossings, k_crossings, D_crossings.bindsN (fun _ _ _ _ _ _ us hl => match us, hl with | [_, _], _ => rfl), .nil, fun _ => .nil⟩
  have W_law_mixed : FnG l.prog w K mg base (CXM l.prog w) _ _ _ _ _ := w_law_mixed D_law_mixed b_len b_list h_law_pick
  have h_law_mixed : HasQ l.prog w K mg base 2 "_law_mixed" 2 mq_law_mixed := ⟨_, _, _, W_law_mixed, PySem.W.mg_of X G a_law_mixed, k_law_mixed, D_law_mixed.bindsN fun _ _ _ _ _ _ us hl => match us, hl with | [_, _], _ => rfl⟩
  have W_law_rows : FnG l.prog w K mg base (CXM l.prog w) _ _ _ _ _ := w_law_rows D_law_rows b_int b_list b_range b_tuple h_law_pick h_law_mixed
  have h_law_rows : HasQ l.prog w K mg base 3 "_law_rows" 2 mq_law_rows := ⟨_, _, _, W_law_rows, PySem.W.mg_of X G a_law_rows, k_law_rows, D_law_rows.bindsN fun _ _ _ _ _ _ us hl => match us, hl with | [_, _], _ => rfl⟩
  have H_all_orders : ∀ k, Has l.prog w K mg base (0 + k) "all_orders" 1 [] (mr_all_orders k) := fun k => by
    induction k with
    | zero => exact ⟨_, _, ["columns"], [], [], fnG_none rfl, PySem.W.mg_of X G a_all_orders, k_all_orders, D_all_orders.bindsN (fun _ _ _ _ _ _ us hl => match us, hl with | [_], _ => rfl), .nil, fun _ => .nil⟩
    | succ k ih => exact ⟨_, _, _, [], [], w_all_orders D_all_orders b_enumerate k ih, PySem.W.mg_of X G a_all_orders, k_all_orders, D_all_orders.bindsN (fun _ _ _ _ _ _ us hl => match us, hl with | [_], _ => rfl), .nil, fun _ => .nil⟩
  have h_all_orders : Has l.prog w K mg base 8 "all_orders" 1 [] mf_all_orders := H_all_orders 8
  have H_law_lines : ∀ k, Has l.prog w K mg base (0 + k) "_law_lines" 1 [] (mr_law_lines k) := fun k => by
    induction k with
    | zero => exact ⟨_, _, ["_law_columns"], [], [], fnG_none rfl, PySem.W.mg_of X G a_law_lines, k_law_lines, D_law_lines.bindsN (fun _ _ _ _ _ _ us hl => match us, hl with | [_], _ => rfl), .nil, fun _ => .nil⟩
    | succ k ih => exact ⟨_, _, _, [], [], w_law_lines D_law_lines k ih, PySem.W.mg_of X G a_law_lines, k_law_lines, D_law_lines.bindsN (fun _ _ _ _ _ _ us hl => match us, hl with | [_], _ => rfl), .nil, fun _ => .nil⟩
  have h_law_lines : Has l.prog w K mg base 8 "_law_lines" 1 [] mf_law_lines := H_law_lines 8
  have W_orders_of : FnG l.prog w K mg base (CXM l.prog w) _ _ _ _ _ := w_orders_of D_orders_of b_list b_range h_all_orders
  have h_orders_of : Has l.prog w K mg base 9 "orders_of" 1 [] mf_orders_of := ⟨_, _, _, [], [], W_orders_of, PySem.W.mg_of X G a_orders_of, k_orders_of, D_orders_of.bindsN (fun _ _ _ _ _ _ us hl => match us, hl with | [_], _ => rfl), .nil, fun _ => .nil⟩
  have W_law_best : FnG l.prog w K mg base (CXM l.prog w) _ _ _ _ _ := w_law_best D_law_best b_len b_list b_min b_range b_sorted h_law_lines h_law_crossed
  have h_law_best : Has l.prog w K mg base 9 "_law_best" 1 [] mf_law_best := ⟨_, _, _, [], [], W_law_best, PySem.W.mg_of X G a_law_best, k_law_best, D_law_best.bindsN (fun _ _ _ _ _ _ us hl => match us, hl with | [_], _ => rfl), .nil, fun _ => .nil⟩
  have W_best_orders : FnG l.prog w K mg base (CXM l.prog w) _ _ _ _ _ := w_best_orders D_best_orders b_len b_min b_sorted h_orders_of h_crossings
  have h_best_orders_k0_rows : HasK l.prog w K mg base 10 "best_orders" 1 0 ["rows"] [.inr 0] mf_best_orders := ⟨⟨_, _, _, W_best_orders, PySem.W.mg_of X G a_best_orders, k_best_orders, rfl, dn_kw D_best_orders fun _ _ _ _ _ _ us ws l1 l2 => match us, ws, l1, l2 with | [], [_], _, _ => rfl⟩⟩
  have h_best_orders_r : HasR l.prog w K mg base 10 "best_orders" 1 (mfR mf_best_orders) := ⟨⟨_, _, _, wR_best_orders D_best_orders b_len b_min b_sorted h_orders_of h_crossings, PySem.W.mg_of X G a_best_orders, k_best_orders, D_best_orders.bindsN fun _ _ _ _ _ _ us hl => match us, hl with | [_], _ => rfl⟩⟩
  exact w_law D_law b_range b_repr h_law_pen h_law_rows h_law_pick h_law_best h_best_orders_k0_rows h_best_orders_r
end K64
set_option Elab.async false
set_option linter.all false
set_option maxRecDepth 100000
set_option maxHeartbeats 4000000
namespace K64
open PySem PySem.Spec PyProof.Rows L2 Xm DwF CrF ExF LxF BoF
theorem flt_mid {a b : List Nat} {x : Nat} (h : (a ++ x :: b).Nodup) : (a ++ x :: b).filter (fun y => !decide (y = x)) = a ++ b := by
  obtain ⟨_, h2, h3⟩ := List.nodup_append.mp h
  have h4 := (List.nodup_cons.mp h2).1
  rw [List.filter_append, List.filter_cons, decide_eq_true rfl]
  simp only [Bool.not_true, Bool.false_eq_true, if_false]
  rw [List.filter_eq_self.mpr fun y hy => ?_, List.filter_eq_self.mpr fun y hy => ?_]
  · have : y ≠ x := fun z => by subst z; exact h4 hy
    rw [decide_eq_false this]; rfl
  · have : y ≠ x := h3 y hy x (.head _)
    rw [decide_eq_false this]; rfl
theorem flt_out {l : List Nat} (h : l.Nodup) {i x : Nat} (e : l[i]? = some x) : l.filter (fun y => !decide (y = x)) = l.take i ++ l.drop (i + 1) := by
  obtain ⟨hi, rfl⟩ := List.getElem?_eq_some_iff.mp e
  have e2 : l.take i ++ l[i] :: l.drop (i + 1) = l := by rw [List.getElem_cons_drop hi, List.take_append_drop]
  have := flt_mid (a := l.take i) (x := l[i]) (b := l.drop (i + 1)) (by rw [e2]; exact h)
  rw [e2] at this
  exact this
abbrev zx (p : Nat × Nat) : D := .int (p.1 : Int)
theorem cols_zip (l : List Nat) : cols l = l.zipIdx.map zx := by
  have : l.zipIdx.map Prod.fst = l := List.zipIdx_map_fst 0 l
  conv => lhs; rw [← this]
  unfold cols
  rw [List.map_map]
  rfl
abbrev A5 (L : D) (o : List D) (s2 s3 : Slot) : AS := [.dat L, .own o, s2, s3, .no]
theorem m_lines : ∀ (k : Nat) (l : List Nat), l.Nodup → l.length < k → l.length ≤ 6 → (∀ x ∈ l, x < 6) → mr_law_lines k [.list (cols l)] = some (.new ((allN k l).map tc))
  | 0, l, _, h, _, _ => by omega
  | k + 1, l, hnd, h, h6, hx => by
    have ih := m_lines k
    have hke := k_eqNil l hx
    have htot := all_len (k + 1) l h6
    have htot2 := pow6 h6
    refine runP_wp ?_
    unfold g_law_lines
    by_cases e : l = []
    · subst e
      have h1 : cols [] = [] := rfl
      have h2 : allN (k + 1) [] = [[]] := by simp [allN]
      rw [h1] at hke
      rw [h1, h2]
      have hk : kEq (.list []) (.list []) = some (.bool true) := rfl
      clear hke
      repeat (first
        | with_reducible refine Xm.wp_seq ?_
        | with_reducible refine Xm.wp_asg ?_
        | with_reducible refine Xm.wp_bin2 ?_
        | with_reducible refine Xm.wp_un1 ?_
        | with_reducible refine Xm.wp_consA ?_
        | with_reducible refine Xm.wp_nilA ?_
        | with_reducible refine Xm.wp_cst ?_
        | with_reducible refine Xm.wp_valB ?_
        | with_reducible refine Xm.wp_ifS ?_
        | with_reducible refine Xm.wp_rvD ?_
        | with_reducible refine Xm.wp_rvN ?_
        | with_reducible refine Xm.wp_callP0 ?_
        | with_reducible refine Xm.wp_callP ?_
        | with_reducible refine Xm.wp_callK ?_
        | with_reducible refine Xm.wp_skip ?_
        | with_reducible refine Xm.wp_retS ?_
        | with_reducible refine Xm.wp_retN ?_
        | with_reducible refine Xm.wp_drop ?_
        | with_reducible refine Xm.wp_asgN ?_
        | with_reducible refine Xm.wp_andB ?_
        | with_reducible refine Xm.wp_orB ?_
        | with_reducible refine Xm.wp_notB ?_
        | with_reducible refine Xm.wp_yesB ?_
        | with_reducible refine Xm.wp_boolE ?_
        | with_reducible refine Xm.wp_ifE ?_
        | with_reducible refine Xm.wp_tupF ?_
        | with_reducible refine Xm.wp_lstF ?_
        | with_reducible refine Xm.wp_newF ?_
        | with_reducible refine Xm.wp_listE ?_
        | with_reducible refine Xm.wp_itD ?_
        | with_reducible refine Xm.wp_for ?_
        | with_reducible refine Xm.wp_clr ?_
        | with_reducible refine Xm.wp_par2 ?_
        | with_reducible refine Xm.wp_asgT ?_
        | with_reducible refine Xm.wp_compF ?_
        | with_reducible refine Xm.wp_compR ?_
        | with_reducible refine Xm.wp_itR1 ?_
        | with_reducible refine Xm.wp_cutF ?_
        | with_reducible refine Xm.wp_noO ?_
        | with_reducible refine Xm.wp_someO ?_
        | with_reducible refine Xm.wp_chE ?_
        | with_reducible refine Xm.wp_raise ?_
        | with_reducible refine Xm.wp_retX ?_
        | with_reducible refine Xm.wp_asgX ?_
        | with_reducible refine Xm.wp_dropX ?_
        | with_reducible refine Xm.wp_try ?_
        | with_reducible refine Xm.wp_itK ?_
        | with_reducible refine Xm.wp_itEnum ?_
        | with_reducible refine Xm.wp_asgM ?_
        | with_reducible refine Xm.wp_dicE ?_
        | with_reducible refine Xm.wp_bN ?_
        | with_reducible refine Xm.wp_itEnumA ?_
        | with_reducible refine Xm.wp_rvM ?_
        | with_reducible refine Xm.wp_retD ?_
        | with_reducible refine Xm.wp_compM ?_
        | with_reducible refine Xm.ite_tt ?_
        | with_reducible refine Xm.ite_ff ?_
        | with_reducible refine Xm.ite_nt ?_
        | with_reducible refine Xm.ite_nf ?_
        | with_reducible refine Xm.ite_nes ?_
        | with_reducible refine Xm.ite_eqs ?_
        | with_reducible refine Xm.ite_nei ?_
        | with_reducible refine Xm.ite_eqi ?_
        | with_reducible refine Xm.ex_le ?_
        | with_reducible refine Xm.ex_lt ?_
        | with_reducible refine Xm.ex_bool ?_
        | with_reducible refine Xm.ex_new ?_
        | with_reducible refine Xm.ex_int ?_
        | with_reducible refine Xm.ex_of Xm.k_cat ?_
        | with_reducible refine Xm.ex_of Xm.k_sub ?_
        | with_reducible refine Xm.ex_of Xm.k_lt ?_
        | with_reducible refine Xm.ex_of Xm.k_le ?_
        | with_reducible refine Xm.ex_of Xm.k_gt ?_
        | with_reducible refine Xm.ex_of Xm.k_ge ?_
        | with_reducible refine Xm.ex_of Xm.k_eqI ?_
        | with_reducible refine Xm.ex_of Xm.k_neI ?_
        | with_reducible refine Xm.ex_of Xm.k_eqStr ?_
        | with_reducible refine Xm.ex_of Xm.k_neStr ?_
        | with_reducible refine Xm.ex_of Xm.k_neg ?_
        | with_reducible refine Xm.ex_of Xm.k_abs ?_
        | with_reducible refine Xm.ex_of Xm.k_lenL ?_
        | with_reducible refine Xm.ex_of Xm.k_lenT ?_
        | with_reducible refine Xm.ex_of Xm.k_list ?_
        | with_reducible refine Xm.ex_of Xm.k_listT ?_
        | with_reducible refine Xm.ex_of Xm.k_tupL ?_
        | with_reducible refine Xm.ex_of Xm.k_tupT ?_
        | with_reducible refine Xm.ex_of Xm.k_intB ?_
        | with_reducible refine Xm.ex_of Xm.ix_t0 ?_
        | with_reducible refine Xm.ex_of Xm.ix_t1 ?_
        | with_reducible refine Xm.ex_of Xm.ix_t2 ?_
        | with_reducible refine Xm.ex_of Xm.ix_l0 ?_
        | with_reducible refine Xm.ex_of Xm.ix_l1 ?_
        | with_reducible refine Xm.ex_of Xm.ix_l2 ?_
        | with_reducible refine Xm.ex_of Xm.k_isa ?_
        | with_reducible refine Xm.ex_of Xm.k_cutL ?_
        | with_reducible refine Xm.ex_of Xm.k_cutT ?_
        | with_reducible refine Xm.ex_of Xm.ix_sh0 ?_
        | with_reducible refine Xm.ex_of Xm.ix_sh1 ?_
        | with_reducible refine Xm.ex_of (Xm.k_eqS _ _) ?_
        | ((with_reducible apply Xm.ex_of); · with_reducible assumption)
        | ((with_reducible apply Xm.ex_arr); · (simp only [arr, List.map_cons, List.map_nil, List.getD_cons_zero, List.getD_cons_succ]; rfl))
        | ((with_reducible apply Xm.np_and); · rfl)
        | ((with_reducible apply Xm.np_and); · (show npB _ = true; with_reducible assumption))
        | ((with_reducible apply Xm.len_and); · exact Nat.le_of_ble_eq_true rfl)
        | ((with_reducible apply Xm.mu_and); · rfl)
        | ((with_reducible apply Xm.ite_t); · with_reducible assumption)
        | ((with_reducible apply Xm.ite_f); · with_reducible assumption)
        | ((with_reducible apply Xm.ite_nbt); · with_reducible assumption)
        | ((with_reducible apply Xm.ite_nbf); · with_reducible assumption)
        | ((with_reducible apply Xm.ex_oo); · with_reducible assumption)
        | ((with_reducible apply Xm.dcv_and); · rfl)
        | ((with_reducible apply Xm.dcc_and); · rfl)
        | with_reducible refine Xm.ex_dct ?_
        | ((with_reducible apply Xm.nop_and); · rfl)
        | ((with_reducible apply Xm.wp_rd); · rfl)
        | ((with_reducible apply Xm.wp_rdo); · rfl)
        | ((with_reducible apply Xm.wp_callQ); · rfl)
        | ((with_reducible apply Xm.wp_ixM); · rfl)
        | ((with_reducible apply Xm.wp_lenM); · rfl)
        | ((with_reducible apply Xm.wp_appM); · rfl)
        | ((with_reducible apply Xm.wp_extM); · rfl)
        | ((with_reducible apply Xm.wp_popM); · rfl)
        | ((with_reducible apply Xm.wp_revM); · rfl)
        | ((with_reducible apply Xm.wp_reprM); · rfl)
        | ((with_reducible apply Xm.wp_retM); · rfl)
        | ((with_reducible apply Xm.wp_retMd); · rfl)
        | ((with_reducible apply Xm.wp_aug); · rfl)
        | ((with_reducible apply Xm.wp_setM); · rfl)
        | ((with_reducible apply Xm.wp_frz); · rfl)
        | ((with_reducible apply Xm.wp_frz2); · rfl)
        | ((with_reducible apply Xm.wp_ixD); · rfl)
        | ((with_reducible apply Xm.wp_getD1); · rfl)
        | ((with_reducible apply Xm.wp_getD2); · rfl)
        | ((with_reducible apply Xm.wp_putD); · rfl)
        | ((with_reducible apply Xm.wp_extN); · rfl)
        | ((with_reducible apply Xm.wp_callD); · rfl)
        | ((with_reducible apply Xm.wp_isaM); · rfl))
      rfl
    · have hf : decide (l = []) = false := decide_eq_false e
      rw [hf] at hke
      have hA : allN (k + 1) l = (l.zipIdx.map fun p => (allN k (l.take p.2 ++ l.drop (p.2 + 1))).map (p.1 :: ·)).flatten := by
        conv => lhs; unfold allN
        rw [if_neg e]
      have hcz := cols_zip l
      generalize hL : PyData.list (cols l) = L at hke
      repeat (first
        | with_reducible refine Xm.wp_seq ?_
        | with_reducible refine Xm.wp_asg ?_
        | with_reducible refine Xm.wp_bin2 ?_
        | with_reducible refine Xm.wp_un1 ?_
        | with_reducible refine Xm.wp_consA ?_
        | with_reducible refine Xm.wp_nilA ?_
        | with_reducible refine Xm.wp_cst ?_
        | with_reducible refine Xm.wp_valB ?_
        | with_reducible refine Xm.wp_ifS ?_
        | with_reducible refine Xm.wp_rvD ?_
        | with_reducible refine Xm.wp_rvN ?_
        | with_reducible refine Xm.wp_callP0 ?_
        | with_reducible refine Xm.wp_callP ?_
        | with_reducible refine Xm.wp_callK ?_
        | with_reducible refine Xm.wp_skip ?_
        | with_reducible refine Xm.wp_retS ?_
        | with_reducible refine Xm.wp_retN ?_
        | with_reducible refine Xm.wp_drop ?_
        | with_reducible refine Xm.wp_asgN ?_
        | with_reducible refine Xm.wp_andB ?_
        | with_reducible refine Xm.wp_orB ?_
        | with_reducible refine Xm.wp_notB ?_
        | with_reducible refine Xm.wp_yesB ?_
        | with_reducible refine Xm.wp_boolE ?_
        | with_reducible refine Xm.wp_ifE ?_
        | with_reducible refine Xm.wp_tupF ?_
        | with_reducible refine Xm.wp_lstF ?_
        | with_reducible refine Xm.wp_newF ?_
        | with_reducible refine Xm.wp_listE ?_
        | with_reducible refine Xm.wp_itD ?_
        | with_reducible refine Xm.wp_for ?_
        | with_reducible refine Xm.wp_clr ?_
        | with_reducible refine Xm.wp_par2 ?_
        | with_reducible refine Xm.wp_asgT ?_
        | with_reducible refine Xm.wp_compF ?_
        | with_reducible refine Xm.wp_compR ?_
        | with_reducible refine Xm.wp_itR1 ?_
        | with_reducible refine Xm.wp_cutF ?_
        | with_reducible refine Xm.wp_noO ?_
        | with_reducible refine Xm.wp_someO ?_
        | with_reducible refine Xm.wp_chE ?_
        | with_reducible refine Xm.wp_raise ?_
        | with_reducible refine Xm.wp_retX ?_
        | with_reducible refine Xm.wp_asgX ?_
        | with_reducible refine Xm.wp_dropX ?_
        | with_reducible refine Xm.wp_try ?_
        | with_reducible refine Xm.wp_itK ?_
        | with_reducible refine Xm.wp_itEnum ?_
        | with_reducible refine Xm.wp_asgM ?_
        | with_reducible refine Xm.wp_dicE ?_
        | with_reducible refine Xm.wp_bN ?_
        | with_reducible refine Xm.wp_itEnumA ?_
        | with_reducible refine Xm.wp_rvM ?_
        | with_reducible refine Xm.wp_retD ?_
        | with_reducible refine Xm.wp_compM ?_
        | with_reducible refine Xm.ite_tt ?_
        | with_reducible refine Xm.ite_ff ?_
        | with_reducible refine Xm.ite_nt ?_
        | with_reducible refine Xm.ite_nf ?_
        | with_reducible refine Xm.ite_nes ?_
        | with_reducible refine Xm.ite_eqs ?_
        | with_reducible refine Xm.ite_nei ?_
        | with_reducible refine Xm.ite_eqi ?_
        | with_reducible refine Xm.ex_le ?_
        | with_reducible refine Xm.ex_lt ?_
        | with_reducible refine Xm.ex_bool ?_
        | with_reducible refine Xm.ex_new ?_
        | with_reducible refine Xm.ex_int ?_
        | with_reducible refine Xm.ex_of Xm.k_cat ?_
        | with_reducible refine Xm.ex_of Xm.k_sub ?_
        | with_reducible refine Xm.ex_of Xm.k_lt ?_
        | with_reducible refine Xm.ex_of Xm.k_le ?_
        | with_reducible refine Xm.ex_of Xm.k_gt ?_
        | with_reducible refine Xm.ex_of Xm.k_ge ?_
        | with_reducible refine Xm.ex_of Xm.k_eqI ?_
        | with_reducible refine Xm.ex_of Xm.k_neI ?_
        | with_reducible refine Xm.ex_of Xm.k_eqStr ?_
        | with_reducible refine Xm.ex_of Xm.k_neStr ?_
        | with_reducible refine Xm.ex_of Xm.k_neg ?_
        | with_reducible refine Xm.ex_of Xm.k_abs ?_
        | with_reducible refine Xm.ex_of Xm.k_lenL ?_
        | with_reducible refine Xm.ex_of Xm.k_lenT ?_
        | with_reducible refine Xm.ex_of Xm.k_list ?_
        | with_reducible refine Xm.ex_of Xm.k_listT ?_
        | with_reducible refine Xm.ex_of Xm.k_tupL ?_
        | with_reducible refine Xm.ex_of Xm.k_tupT ?_
        | with_reducible refine Xm.ex_of Xm.k_intB ?_
        | with_reducible refine Xm.ex_of Xm.ix_t0 ?_
        | with_reducible refine Xm.ex_of Xm.ix_t1 ?_
        | with_reducible refine Xm.ex_of Xm.ix_t2 ?_
        | with_reducible refine Xm.ex_of Xm.ix_l0 ?_
        | with_reducible refine Xm.ex_of Xm.ix_l1 ?_
        | with_reducible refine Xm.ex_of Xm.ix_l2 ?_
        | with_reducible refine Xm.ex_of Xm.k_isa ?_
        | with_reducible refine Xm.ex_of Xm.k_cutL ?_
        | with_reducible refine Xm.ex_of Xm.k_cutT ?_
        | with_reducible refine Xm.ex_of Xm.ix_sh0 ?_
        | with_reducible refine Xm.ex_of Xm.ix_sh1 ?_
        | with_reducible refine Xm.ex_of (Xm.k_eqS _ _) ?_
        | ((with_reducible apply Xm.ex_of); · with_reducible assumption)
        | ((with_reducible apply Xm.ex_arr); · (simp only [arr, List.map_cons, List.map_nil, List.getD_cons_zero, List.getD_cons_succ]; rfl))
        | ((with_reducible apply Xm.np_and); · rfl)
        | ((with_reducible apply Xm.np_and); · (show npB _ = true; with_reducible assumption))
        | ((with_reducible apply Xm.len_and); · exact Nat.le_of_ble_eq_true rfl)
        | ((with_reducible apply Xm.mu_and); · rfl)
        | ((with_reducible apply Xm.ite_t); · with_reducible assumption)
        | ((with_reducible apply Xm.ite_f); · with_reducible assumption)
        | ((with_reducible apply Xm.ite_nbt); · with_reducible assumption)
        | ((with_reducible apply Xm.ite_nbf); · with_reducible assumption)
        | ((with_reducible apply Xm.ex_oo); · with_reducible assumption)
        | ((with_reducible apply Xm.dcv_and); · rfl)
        | ((with_reducible apply Xm.dcc_and); · rfl)
        | with_reducible refine Xm.ex_dct ?_
        | ((with_reducible apply Xm.nop_and); · rfl)
        | ((with_reducible apply Xm.wp_rd); · rfl)
        | ((with_reducible apply Xm.wp_rdo); · rfl)
        | ((with_reducible apply Xm.wp_callQ); · rfl)
        | ((with_reducible apply Xm.wp_ixM); · rfl)
        | ((with_reducible apply Xm.wp_lenM); · rfl)
        | ((with_reducible apply Xm.wp_appM); · rfl)
        | ((with_reducible apply Xm.wp_extM); · rfl)
        | ((with_reducible apply Xm.wp_popM); · rfl)
        | ((with_reducible apply Xm.wp_revM); · rfl)
        | ((with_reducible apply Xm.wp_reprM); · rfl)
        | ((with_reducible apply Xm.wp_retM); · rfl)
        | ((with_reducible apply Xm.wp_retMd); · rfl)
        | ((with_reducible apply Xm.wp_aug); · rfl)
        | ((with_reducible apply Xm.wp_setM); · rfl)
        | ((with_reducible apply Xm.wp_frz); · rfl)
        | ((with_reducible apply Xm.wp_frz2); · rfl)
        | ((with_reducible apply Xm.wp_ixD); · rfl)
        | ((with_reducible apply Xm.wp_getD1); · rfl)
        | ((with_reducible apply Xm.wp_getD2); · rfl)
        | ((with_reducible apply Xm.wp_putD); · rfl)
        | ((with_reducible apply Xm.wp_extN); · rfl)
        | ((with_reducible apply Xm.wp_callD); · rfl)
        | ((with_reducible apply Xm.wp_isaM); · rfl))
      refine ⟨cols l, .inl hL.symm, ?_⟩
      rw [hcz]
      refine wp_loop (fun ds s => ∃ (zs : List (Nat × Nat)) (acc : List (List Nat)), ds = zs.map zx ∧ (∀ p ∈ zs, p ∈ l.zipIdx) ∧ s = A5 L (acc.map tc) .no .no ∧ acc ++ (zs.map fun p => (allN k (l.take p.2 ++ l.drop (p.2 + 1))).map (p.1 :: ·)).flatten = allN (k + 1) l) ?_ ?_ _ _ ⟨l.zipIdx, [], rfl, (fun p hp => hp), rfl, by rw [List.nil_append, ← hA]⟩
      · rintro d ds s ⟨zs, acc, hds, hz, rfl, hacc⟩
        cases zs with
        | nil => cases hds
        | cons p zs =>
          rw [List.map_cons] at hds
          obtain ⟨rfl, rfl⟩ := List.cons.inj hds
          obtain ⟨x, i⟩ := p
          have hxi := zip_mem.mp (hz (x, i) (.head _))
          have hi := (List.getElem?_eq_some_iff.mp hxi).1
          have hfl := flt_out hnd hxi
          have hlen : (l.take i ++ l.drop (i + 1)).length = l.length - 1 := by simp; omega
          have hnd2 : (l.take i ++ l.drop (i + 1)).Nodup := by rw [← hfl]; exact hnd.filter _
          have q4 := ih (l.take i ++ l.drop (i + 1)) hnd2 (by omega) (by omega) fun y hy => by
            rcases List.mem_append.mp hy with hy | hy
            · exact hx y (List.mem_of_mem_take hy)
            · exact hx y (List.mem_of_mem_drop hy)
          have hl2 := all_len k (l.take i ++ l.drop (i + 1)) (by omega)
          have hl3 := pow6 (n := (l.take i ++ l.drop (i + 1)).length) (by omega)
          have hmem : ∀ q ∈ allN k (l.take i ++ l.drop (i + 1)), q.length ≤ 6 := fun q hq => by
            have := ((all_mem k _ q (by omega)).mp hq).length_eq
            omega
          have hc : compL (setD 4) (valB (bin2 kNe (rd 4) (rd 2))) (rd 4) [4] (cols l) (A5 L (acc.map tc) (.dat (.int (x : Int))) .no) = some (cols (l.take i ++ l.drop (i + 1)), A5 L (acc.map tc) (.dat (.int (x : Int))) .no) := by
            have := compL_map (u := setD 4) (tt := valB (bin2 kNe (rd 4) (rd 2))) (te := rd 4) (vs := [4]) (fun y : Nat => PyData.int (y : Int)) (fun y => !decide (y = x)) (fun y : Nat => PyData.int (y : Int)) (A5 L (acc.map tc) (.dat (.int (x : Int))) .no) l fun y hy => by
              refine ⟨[.dat L, .own (acc.map tc), .dat (.int (x : Int)), .no, .dat (.int (y : Int))], rfl, ?_, fun _ => ⟨_, rfl, rfl⟩, fun _ => rfl⟩
              have hk : kNe (.int (y : Int)) (.int (x : Int)) = some (.bool (!decide (y = x))) := by
                have e1 := k_neI (i := (y : Int)) (j := (x : Int))
                rw [e1]
                congr 3
                by_cases hyx : y = x
                · subst hyx; simp
                · rw [decide_eq_false hyx]
                  exact beq_eq_false_iff_ne.mpr (by omega)
              generalize acc.map tc = AC
              have w : Wp (valB (bin2 kNe (rd 4) (rd 2))) [.dat L, .own AC, .dat (.int (x : Int)), .no, .dat (.int (y : Int))] fun b s2 => b = !decide (y = x) ∧ s2 = [.dat L, .own AC, .dat (.int (x : Int)), .no, .dat (.int (y : Int))] := by
                generalize (!decide (y = x)) = BB at *
                refine wp_valB (wp_bin2 (wp_rd rfl (wp_rd rfl ?_)))
                exact ⟨_, hk, _, rfl, rfl, rfl⟩
              obtain ⟨b, s2, e, rfl, rfl⟩ := w
              exact e
            rw [hfl] at this
            exact this
          generalize hq : allN k (l.take i ++ l.drop (i + 1)) = qs at q4 hl2 hmem
          have hacc2 : (acc ++ qs.map (x :: ·)) ++ (zs.map fun p => (allN k (l.take p.2 ++ l.drop (p.2 + 1))).map (p.1 :: ·)).flatten = allN (k + 1) l := by
            rw [List.append_assoc, ← hacc, List.map_cons, List.flatten_cons, hq]
          have hlt : acc.length + qs.length ≤ 46656 := by
            have := congrArg List.length hacc2
            simp only [List.length_append, List.length_map] at this
            omega
          generalize cols (l.take i ++ l.drop (i + 1)) = RC at q4 hc
          have hloop : Wp (loopS (setD 3) (clrS [3] (dropS (appM 1 (bin2 kCat (tupF (consA (rd 2) nilA)) (rd 3))))) (qs.map tc)) (A5 L (acc.map tc) (.dat (.int (x : Int))) .no) fun fl s => fl = .nx ∧ s = A5 L ((acc ++ qs.map (x :: ·)).map tc) (.dat (.int (x : Int))) .no := by
            refine wp_loop (fun ds s => ∃ p q, qs = p ++ q ∧ ds = q.map tc ∧ s = A5 L ((acc ++ p.map (x :: ·)).map tc) (.dat (.int (x : Int))) .no) ?_ ?_ _ _ ⟨[], qs, rfl, rfl, by rw [List.map_nil, List.append_nil]⟩
            · rintro d ds s ⟨p, q, hpq, hds, rfl⟩
              cases q with
              | nil => cases hds
              | cons r q =>
                rw [List.map_cons] at hds
                obtain ⟨rfl, rfl⟩ := List.cons.inj hds
                have hk : kCat (.tuple [.int (x : Int)]) (tc r) = some (tc (x :: r)) := by
                  have := hmem r (by rw [hpq]; simp)
                  rw [k_catT0 (by rw [len_cols]; simp; omega)]
                  rfl
                have hpl : p.length < qs.length := by rw [hpq]; simp
                have hAl : ((acc ++ p.map (x :: ·)).map tc).length ≤ 46656 := by rw [List.length_map, List.length_append, List.length_map]; omega
                have hnx : (acc ++ (p ++ [r]).map (x :: ·)).map tc = (acc ++ p.map (x :: ·)).map tc ++ [tc (x :: r)] := by simp
                refine ⟨_, rfl, ?_⟩
                generalize (acc ++ p.map (x :: ·)).map tc = AC at *
                generalize tc (x :: r) = XR at *
                generalize tc r = TR at *
                repeat (first
                  | with_reducible refine Xm.wp_seq ?_
                  | with_reducible refine Xm.wp_asg ?_
                  | with_reducible refine Xm.wp_bin2 ?_
                  | with_reducible refine Xm.wp_un1 ?_
                  | with_reducible refine Xm.wp_consA ?_
                  | with_reducible refine Xm.wp_nilA ?_
                  | with_reducible refine Xm.wp_cst ?_
                  | with_reducible refine Xm.wp_valB ?_
                  | with_reducible refine Xm.wp_ifS ?_
                  | with_reducible refine Xm.wp_rvD ?_
                  | with_reducible refine Xm.wp_rvN ?_
                  | with_reducible refine Xm.wp_callP0 ?_
                  | with_reducible refine Xm.wp_callP ?_
                  | with_reducible refine Xm.wp_callK ?_
                  | with_reducible refine Xm.wp_skip ?_
                  | with_reducible refine Xm.wp_retS ?_
                  | with_reducible refine Xm.wp_retN ?_
                  | with_reducible refine Xm.wp_drop ?_
                  | with_reducible refine Xm.wp_asgN ?_
                  | with_reducible refine Xm.wp_andB ?_
                  | with_reducible refine Xm.wp_orB ?_
                  | with_reducible refine Xm.wp_notB ?_
                  | with_reducible refine Xm.wp_yesB ?_
                  | with_reducible refine Xm.wp_boolE ?_
                  | with_reducible refine Xm.wp_ifE ?_
                  | with_reducible refine Xm.wp_tupF ?_
                  | with_reducible refine Xm.wp_lstF ?_
                  | with_reducible refine Xm.wp_newF ?_
                  | with_reducible refine Xm.wp_listE ?_
                  | with_reducible refine Xm.wp_itD ?_
                  | with_reducible refine Xm.wp_for ?_
                  | with_reducible refine Xm.wp_clr ?_
                  | with_reducible refine Xm.wp_par2 ?_
                  | with_reducible refine Xm.wp_asgT ?_
                  | with_reducible refine Xm.wp_compF ?_
                  | with_reducible refine Xm.wp_compR ?_
                  | with_reducible refine Xm.wp_itR1 ?_
                  | with_reducible refine Xm.wp_cutF ?_
                  | with_reducible refine Xm.wp_noO ?_
                  | with_reducible refine Xm.wp_someO ?_
                  | with_reducible refine Xm.wp_chE ?_
                  | with_reducible refine Xm.wp_raise ?_
                  | with_reducible refine Xm.wp_retX ?_
                  | with_reducible refine Xm.wp_asgX ?_
                  | with_reducible refine Xm.wp_dropX ?_
                  | with_reducible refine Xm.wp_try ?_
                  | with_reducible refine Xm.wp_itK ?_
                  | with_reducible refine Xm.wp_itEnum ?_
                  | with_reducible refine Xm.wp_asgM ?_
                  | with_reducible refine Xm.wp_dicE ?_
                  | with_reducible refine Xm.wp_bN ?_
                  | with_reducible refine Xm.wp_itEnumA ?_
                  | with_reducible refine Xm.wp_rvM ?_
                  | with_reducible refine Xm.wp_retD ?_
                  | with_reducible refine Xm.wp_compM ?_
                  | with_reducible refine Xm.ite_tt ?_
                  | with_reducible refine Xm.ite_ff ?_
                  | with_reducible refine Xm.ite_nt ?_
                  | with_reducible refine Xm.ite_nf ?_
                  | with_reducible refine Xm.ite_nes ?_
                  | with_reducible refine Xm.ite_eqs ?_
                  | with_reducible refine Xm.ite_nei ?_
                  | with_reducible refine Xm.ite_eqi ?_
                  | with_reducible refine Xm.ex_le ?_
                  | with_reducible refine Xm.ex_lt ?_
                  | with_reducible refine Xm.ex_bool ?_
                  | with_reducible refine Xm.ex_new ?_
                  | with_reducible refine Xm.ex_int ?_
                  | with_reducible refine Xm.ex_of Xm.k_cat ?_
                  | with_reducible refine Xm.ex_of Xm.k_sub ?_
                  | with_reducible refine Xm.ex_of Xm.k_lt ?_
                  | with_reducible refine Xm.ex_of Xm.k_le ?_
                  | with_reducible refine Xm.ex_of Xm.k_gt ?_
                  | with_reducible refine Xm.ex_of Xm.k_ge ?_
                  | with_reducible refine Xm.ex_of Xm.k_eqI ?_
                  | with_reducible refine Xm.ex_of Xm.k_neI ?_
                  | with_reducible refine Xm.ex_of Xm.k_eqStr ?_
                  | with_reducible refine Xm.ex_of Xm.k_neStr ?_
                  | with_reducible refine Xm.ex_of Xm.k_neg ?_
                  | with_reducible refine Xm.ex_of Xm.k_abs ?_
                  | with_reducible refine Xm.ex_of Xm.k_lenL ?_
                  | with_reducible refine Xm.ex_of Xm.k_lenT ?_
                  | with_reducible refine Xm.ex_of Xm.k_list ?_
                  | with_reducible refine Xm.ex_of Xm.k_listT ?_
                  | with_reducible refine Xm.ex_of Xm.k_tupL ?_
                  | with_reducible refine Xm.ex_of Xm.k_tupT ?_
                  | with_reducible refine Xm.ex_of Xm.k_intB ?_
                  | with_reducible refine Xm.ex_of Xm.ix_t0 ?_
                  | with_reducible refine Xm.ex_of Xm.ix_t1 ?_
                  | with_reducible refine Xm.ex_of Xm.ix_t2 ?_
                  | with_reducible refine Xm.ex_of Xm.ix_l0 ?_
                  | with_reducible refine Xm.ex_of Xm.ix_l1 ?_
                  | with_reducible refine Xm.ex_of Xm.ix_l2 ?_
                  | with_reducible refine Xm.ex_of Xm.k_isa ?_
                  | with_reducible refine Xm.ex_of Xm.k_cutL ?_
                  | with_reducible refine Xm.ex_of Xm.k_cutT ?_
                  | with_reducible refine Xm.ex_of Xm.ix_sh0 ?_
                  | with_reducible refine Xm.ex_of Xm.ix_sh1 ?_
                  | with_reducible refine Xm.ex_of (Xm.k_eqS _ _) ?_
                  | ((with_reducible apply Xm.ex_of); · with_reducible assumption)
                  | ((with_reducible apply Xm.ex_arr); · (simp only [arr, List.map_cons, List.map_nil, List.getD_cons_zero, List.getD_cons_succ]; rfl))
                  | ((with_reducible apply Xm.np_and); · rfl)
                  | ((with_reducible apply Xm.np_and); · (show npB _ = true; with_reducible assumption))
                  | ((with_reducible apply Xm.len_and); · exact Nat.le_of_ble_eq_true rfl)
                  | ((with_reducible apply Xm.mu_and); · rfl)
                  | ((with_reducible apply Xm.ite_t); · with_reducible assumption)
                  | ((with_reducible apply Xm.ite_f); · with_reducible assumption)
                  | ((with_reducible apply Xm.ite_nbt); · with_reducible assumption)
                  | ((with_reducible apply Xm.ite_nbf); · with_reducible assumption)
                  | ((with_reducible apply Xm.ex_oo); · with_reducible assumption)
                  | ((with_reducible apply Xm.dcv_and); · rfl)
                  | ((with_reducible apply Xm.dcc_and); · rfl)
                  | with_reducible refine Xm.ex_dct ?_
                  | ((with_reducible apply Xm.nop_and); · rfl)
                  | ((with_reducible apply Xm.wp_rd); · rfl)
                  | ((with_reducible apply Xm.wp_rdo); · rfl)
                  | ((with_reducible apply Xm.wp_callQ); · rfl)
                  | ((with_reducible apply Xm.wp_ixM); · rfl)
                  | ((with_reducible apply Xm.wp_lenM); · rfl)
                  | ((with_reducible apply Xm.wp_appM); · rfl)
                  | ((with_reducible apply Xm.wp_extM); · rfl)
                  | ((with_reducible apply Xm.wp_popM); · rfl)
                  | ((with_reducible apply Xm.wp_revM); · rfl)
                  | ((with_reducible apply Xm.wp_reprM); · rfl)
                  | ((with_reducible apply Xm.wp_retM); · rfl)
                  | ((with_reducible apply Xm.wp_retMd); · rfl)
                  | ((with_reducible apply Xm.wp_aug); · rfl)
                  | ((with_reducible apply Xm.wp_setM); · rfl)
                  | ((with_reducible apply Xm.wp_frz); · rfl)
                  | ((with_reducible apply Xm.wp_frz2); · rfl)
                  | ((with_reducible apply Xm.wp_ixD); · rfl)
                  | ((with_reducible apply Xm.wp_getD1); · rfl)
                  | ((with_reducible apply Xm.wp_getD2); · rfl)
                  | ((with_reducible apply Xm.wp_putD); · rfl)
                  | ((with_reducible apply Xm.wp_extN); · rfl)
                  | ((with_reducible apply Xm.wp_callD); · rfl)
                  | ((with_reducible apply Xm.wp_isaM); · rfl))
                refine ⟨by rw [sizeLine_eq]; omega, ?_⟩
                repeat (first
                  | with_reducible refine Xm.wp_seq ?_
                  | with_reducible refine Xm.wp_asg ?_
                  | with_reducible refine Xm.wp_bin2 ?_
                  | with_reducible refine Xm.wp_un1 ?_
                  | with_reducible refine Xm.wp_consA ?_
                  | with_reducible refine Xm.wp_nilA ?_
                  | with_reducible refine Xm.wp_cst ?_
                  | with_reducible refine Xm.wp_valB ?_
                  | with_reducible refine Xm.wp_ifS ?_
                  | with_reducible refine Xm.wp_rvD ?_
                  | with_reducible refine Xm.wp_rvN ?_
                  | with_reducible refine Xm.wp_callP0 ?_
                  | with_reducible refine Xm.wp_callP ?_
                  | with_reducible refine Xm.wp_callK ?_
                  | with_reducible refine Xm.wp_skip ?_
                  | with_reducible refine Xm.wp_retS ?_
                  | with_reducible refine Xm.wp_retN ?_
                  | with_reducible refine Xm.wp_drop ?_
                  | with_reducible refine Xm.wp_asgN ?_
                  | with_reducible refine Xm.wp_andB ?_
                  | with_reducible refine Xm.wp_orB ?_
                  | with_reducible refine Xm.wp_notB ?_
                  | with_reducible refine Xm.wp_yesB ?_
                  | with_reducible refine Xm.wp_boolE ?_
                  | with_reducible refine Xm.wp_ifE ?_
                  | with_reducible refine Xm.wp_tupF ?_
                  | with_reducible refine Xm.wp_lstF ?_
                  | with_reducible refine Xm.wp_newF ?_
                  | with_reducible refine Xm.wp_listE ?_
                  | with_reducible refine Xm.wp_itD ?_
                  | with_reducible refine Xm.wp_for ?_
                  | with_reducible refine Xm.wp_clr ?_
                  | with_reducible refine Xm.wp_par2 ?_
                  | with_reducible refine Xm.wp_asgT ?_
                  | with_reducible refine Xm.wp_compF ?_
                  | with_reducible refine Xm.wp_compR ?_
                  | with_reducible refine Xm.wp_itR1 ?_
                  | with_reducible refine Xm.wp_cutF ?_
                  | with_reducible refine Xm.wp_noO ?_
                  | with_reducible refine Xm.wp_someO ?_
                  | with_reducible refine Xm.wp_chE ?_
                  | with_reducible refine Xm.wp_raise ?_
                  | with_reducible refine Xm.wp_retX ?_
                  | with_reducible refine Xm.wp_asgX ?_
                  | with_reducible refine Xm.wp_dropX ?_
                  | with_reducible refine Xm.wp_try ?_
                  | with_reducible refine Xm.wp_itK ?_
                  | with_reducible refine Xm.wp_itEnum ?_
                  | with_reducible refine Xm.wp_asgM ?_
                  | with_reducible refine Xm.wp_dicE ?_
                  | with_reducible refine Xm.wp_bN ?_
                  | with_reducible refine Xm.wp_itEnumA ?_
                  | with_reducible refine Xm.wp_rvM ?_
                  | with_reducible refine Xm.wp_retD ?_
                  | with_reducible refine Xm.wp_compM ?_
                  | with_reducible refine Xm.ite_tt ?_
                  | with_reducible refine Xm.ite_ff ?_
                  | with_reducible refine Xm.ite_nt ?_
                  | with_reducible refine Xm.ite_nf ?_
                  | with_reducible refine Xm.ite_nes ?_
                  | with_reducible refine Xm.ite_eqs ?_
                  | with_reducible refine Xm.ite_nei ?_
                  | with_reducible refine Xm.ite_eqi ?_
                  | with_reducible refine Xm.ex_le ?_
                  | with_reducible refine Xm.ex_lt ?_
                  | with_reducible refine Xm.ex_bool ?_
                  | with_reducible refine Xm.ex_new ?_
                  | with_reducible refine Xm.ex_int ?_
                  | with_reducible refine Xm.ex_of Xm.k_cat ?_
                  | with_reducible refine Xm.ex_of Xm.k_sub ?_
                  | with_reducible refine Xm.ex_of Xm.k_lt ?_
                  | with_reducible refine Xm.ex_of Xm.k_le ?_
                  | with_reducible refine Xm.ex_of Xm.k_gt ?_
                  | with_reducible refine Xm.ex_of Xm.k_ge ?_
                  | with_reducible refine Xm.ex_of Xm.k_eqI ?_
                  | with_reducible refine Xm.ex_of Xm.k_neI ?_
                  | with_reducible refine Xm.ex_of Xm.k_eqStr ?_
                  | with_reducible refine Xm.ex_of Xm.k_neStr ?_
                  | with_reducible refine Xm.ex_of Xm.k_neg ?_
                  | with_reducible refine Xm.ex_of Xm.k_abs ?_
                  | with_reducible refine Xm.ex_of Xm.k_lenL ?_
                  | with_reducible refine Xm.ex_of Xm.k_lenT ?_
                  | with_reducible refine Xm.ex_of Xm.k_list ?_
                  | with_reducible refine Xm.ex_of Xm.k_listT ?_
                  | with_reducible refine Xm.ex_of Xm.k_tupL ?_
                  | with_reducible refine Xm.ex_of Xm.k_tupT ?_
                  | with_reducible refine Xm.ex_of Xm.k_intB ?_
                  | with_reducible refine Xm.ex_of Xm.ix_t0 ?_
                  | with_reducible refine Xm.ex_of Xm.ix_t1 ?_
                  | with_reducible refine Xm.ex_of Xm.ix_t2 ?_
                  | with_reducible refine Xm.ex_of Xm.ix_l0 ?_
                  | with_reducible refine Xm.ex_of Xm.ix_l1 ?_
                  | with_reducible refine Xm.ex_of Xm.ix_l2 ?_
                  | with_reducible refine Xm.ex_of Xm.k_isa ?_
                  | with_reducible refine Xm.ex_of Xm.k_cutL ?_
                  | with_reducible refine Xm.ex_of Xm.k_cutT ?_
                  | with_reducible refine Xm.ex_of Xm.ix_sh0 ?_
                  | with_reducible refine Xm.ex_of Xm.ix_sh1 ?_
                  | with_reducible refine Xm.ex_of (Xm.k_eqS _ _) ?_
                  | ((with_reducible apply Xm.ex_of); · with_reducible assumption)
                  | ((with_reducible apply Xm.ex_arr); · (simp only [arr, List.map_cons, List.map_nil, List.getD_cons_zero, List.getD_cons_succ]; rfl))
                  | ((with_reducible apply Xm.np_and); · rfl)
                  | ((with_reducible apply Xm.np_and); · (show npB _ = true; with_reducible assumption))
                  | ((with_reducible apply Xm.len_and); · exact Nat.le_of_ble_eq_true rfl)
                  | ((with_reducible apply Xm.mu_and); · rfl)
                  | ((with_reducible apply Xm.ite_t); · with_reducible assumption)
                  | ((with_reducible apply Xm.ite_f); · with_reducible assumption)
                  | ((with_reducible apply Xm.ite_nbt); · with_reducible assumption)
                  | ((with_reducible apply Xm.ite_nbf); · with_reducible assumption)
                  | ((with_reducible apply Xm.ex_oo); · with_reducible assumption)
                  | ((with_reducible apply Xm.dcv_and); · rfl)
                  | ((with_reducible apply Xm.dcc_and); · rfl)
                  | with_reducible refine Xm.ex_dct ?_
                  | ((with_reducible apply Xm.nop_and); · rfl)
                  | ((with_reducible apply Xm.wp_rd); · rfl)
                  | ((with_reducible apply Xm.wp_rdo); · rfl)
                  | ((with_reducible apply Xm.wp_callQ); · rfl)
                  | ((with_reducible apply Xm.wp_ixM); · rfl)
                  | ((with_reducible apply Xm.wp_lenM); · rfl)
                  | ((with_reducible apply Xm.wp_appM); · rfl)
                  | ((with_reducible apply Xm.wp_extM); · rfl)
                  | ((with_reducible apply Xm.wp_popM); · rfl)
                  | ((with_reducible apply Xm.wp_revM); · rfl)
                  | ((with_reducible apply Xm.wp_reprM); · rfl)
                  | ((with_reducible apply Xm.wp_retM); · rfl)
                  | ((with_reducible apply Xm.wp_retMd); · rfl)
                  | ((with_reducible apply Xm.wp_aug); · rfl)
                  | ((with_reducible apply Xm.wp_setM); · rfl)
                  | ((with_reducible apply Xm.wp_frz); · rfl)
                  | ((with_reducible apply Xm.wp_frz2); · rfl)
                  | ((with_reducible apply Xm.wp_ixD); · rfl)
                  | ((with_reducible apply Xm.wp_getD1); · rfl)
                  | ((with_reducible apply Xm.wp_getD2); · rfl)
                  | ((with_reducible apply Xm.wp_putD); · rfl)
                  | ((with_reducible apply Xm.wp_extN); · rfl)
                  | ((with_reducible apply Xm.wp_callD); · rfl)
                  | ((with_reducible apply Xm.wp_isaM); · rfl))
                exact ⟨p ++ [r], q, by rw [hpq]; simp, rfl, by rw [hnx]; rfl⟩
            · rintro s ⟨p, q, hpq, hds, rfl⟩
              have : q = [] := List.map_eq_nil_iff.mp hds.symm
              subst this
              rw [List.append_nil] at hpq
              subst hpq
              exact ⟨rfl, rfl⟩
          refine ⟨[.dat L, .own (acc.map tc), .dat (.int (x : Int)), .no, .no], rfl, ?_⟩
          have hfin : ∃ (zs_1 : List (Nat × Nat)) (acc_1 : List (List Nat)), zs.map zx = zs_1.map zx ∧ (∀ p ∈ zs_1, p ∈ l.zipIdx) ∧ A5 L ((acc ++ qs.map (x :: ·)).map tc) .no .no = A5 L (acc_1.map tc) .no .no ∧ acc_1 ++ (zs_1.map fun p => (allN k (l.take p.2 ++ l.drop (p.2 + 1))).map (p.1 :: ·)).flatten = allN (k + 1) l := ⟨zs, acc ++ qs.map (x :: ·), rfl, (fun p hp => hz p (.tail _ hp)), rfl, hacc2⟩
          generalize hAC : acc.map tc = AC at *
          generalize hQS : qs.map tc = QS at *
          generalize (acc ++ qs.map (x :: ·)).map tc = AC2 at *
          generalize zs.map zx = ZS at *
          repeat (first
            | with_reducible refine Xm.wp_seq ?_
            | with_reducible refine Xm.wp_asg ?_
            | with_reducible refine Xm.wp_bin2 ?_
            | with_reducible refine Xm.wp_un1 ?_
            | with_reducible refine Xm.wp_consA ?_
            | with_reducible refine Xm.wp_nilA ?_
            | with_reducible refine Xm.wp_cst ?_
            | with_reducible refine Xm.wp_valB ?_
            | with_reducible refine Xm.wp_ifS ?_
            | with_reducible refine Xm.wp_rvD ?_
            | with_reducible refine Xm.wp_rvN ?_
            | with_reducible refine Xm.wp_callP0 ?_
            | with_reducible refine Xm.wp_callP ?_
            | with_reducible refine Xm.wp_callK ?_
            | with_reducible refine Xm.wp_skip ?_
            | with_reducible refine Xm.wp_retS ?_
            | with_reducible refine Xm.wp_retN ?_
            | with_reducible refine Xm.wp_drop ?_
            | with_reducible refine Xm.wp_asgN ?_
            | with_reducible refine Xm.wp_andB ?_
            | with_reducible refine Xm.wp_orB ?_
            | with_reducible refine Xm.wp_notB ?_
            | with_reducible refine Xm.wp_yesB ?_
            | with_reducible refine Xm.wp_boolE ?_
            | with_reducible refine Xm.wp_ifE ?_
            | with_reducible refine Xm.wp_tupF ?_
            | with_reducible refine Xm.wp_lstF ?_
            | with_reducible refine Xm.wp_newF ?_
            | with_reducible refine Xm.wp_listE ?_
            | with_reducible refine Xm.wp_itD ?_
            | with_reducible refine Xm.wp_for ?_
            | with_reducible refine Xm.wp_clr ?_
            | with_reducible refine Xm.wp_par2 ?_
            | with_reducible refine Xm.wp_asgT ?_
            | with_reducible refine Xm.wp_compF ?_
            | with_reducible refine Xm.wp_compR ?_
            | with_reducible refine Xm.wp_itR1 ?_
            | with_reducible refine Xm.wp_cutF ?_
            | with_reducible refine Xm.wp_noO ?_
            | with_reducible refine Xm.wp_someO ?_
            | with_reducible refine Xm.wp_chE ?_
            | with_reducible refine Xm.wp_raise ?_
            | with_reducible refine Xm.wp_retX ?_
            | with_reducible refine Xm.wp_asgX ?_
            | with_reducible refine Xm.wp_dropX ?_
            | with_reducible refine Xm.wp_try ?_
            | with_reducible refine Xm.wp_itK ?_
            | with_reducible refine Xm.wp_itEnum ?_
            | with_reducible refine Xm.wp_asgM ?_
            | with_reducible refine Xm.wp_dicE ?_
            | with_reducible refine Xm.wp_bN ?_
            | with_reducible refine Xm.wp_itEnumA ?_
            | with_reducible refine Xm.wp_rvM ?_
            | with_reducible refine Xm.wp_retD ?_
            | with_reducible refine Xm.wp_compM ?_
            | with_reducible refine Xm.ite_tt ?_
            | with_reducible refine Xm.ite_ff ?_
            | with_reducible refine Xm.ite_nt ?_
            | with_reducible refine Xm.ite_nf ?_
            | with_reducible refine Xm.ite_nes ?_
            | with_reducible refine Xm.ite_eqs ?_
            | with_reducible refine Xm.ite_nei ?_
            | with_reducible refine Xm.ite_eqi ?_
            | with_reducible refine Xm.ex_le ?_
            | with_reducible refine Xm.ex_lt ?_
            | with_reducible refine Xm.ex_bool ?_
            | with_reducible refine Xm.ex_new ?_
            | with_reducible refine Xm.ex_int ?_
            | with_reducible refine Xm.ex_of Xm.k_cat ?_
            | with_reducible refine Xm.ex_of Xm.k_sub ?_
            | with_reducible refine Xm.ex_of Xm.k_lt ?_
            | with_reducible refine Xm.ex_of Xm.k_le ?_
            | with_reducible refine Xm.ex_of Xm.k_gt ?_
            | with_reducible refine Xm.ex_of Xm.k_ge ?_
            | with_reducible refine Xm.ex_of Xm.k_eqI ?_
            | with_reducible refine Xm.ex_of Xm.k_neI ?_
            | with_reducible refine Xm.ex_of Xm.k_eqStr ?_
            | with_reducible refine Xm.ex_of Xm.k_neStr ?_
            | with_reducible refine Xm.ex_of Xm.k_neg ?_
            | with_reducible refine Xm.ex_of Xm.k_abs ?_
            | with_reducible refine Xm.ex_of Xm.k_lenL ?_
            | with_reducible refine Xm.ex_of Xm.k_lenT ?_
            | with_reducible refine Xm.ex_of Xm.k_list ?_
            | with_reducible refine Xm.ex_of Xm.k_listT ?_
            | with_reducible refine Xm.ex_of Xm.k_tupL ?_
            | with_reducible refine Xm.ex_of Xm.k_tupT ?_
            | with_reducible refine Xm.ex_of Xm.k_intB ?_
            | with_reducible refine Xm.ex_of Xm.ix_t0 ?_
            | with_reducible refine Xm.ex_of Xm.ix_t1 ?_
            | with_reducible refine Xm.ex_of Xm.ix_t2 ?_
            | with_reducible refine Xm.ex_of Xm.ix_l0 ?_
            | with_reducible refine Xm.ex_of Xm.ix_l1 ?_
            | with_reducible refine Xm.ex_of Xm.ix_l2 ?_
            | with_reducible refine Xm.ex_of Xm.k_isa ?_
            | with_reducible refine Xm.ex_of Xm.k_cutL ?_
            | with_reducible refine Xm.ex_of Xm.k_cutT ?_
            | with_reducible refine Xm.ex_of Xm.ix_sh0 ?_
            | with_reducible refine Xm.ex_of Xm.ix_sh1 ?_
            | with_reducible refine Xm.ex_of (Xm.k_eqS _ _) ?_
            | ((with_reducible apply Xm.ex_of); · with_reducible assumption)
            | ((with_reducible apply Xm.ex_arr); · (simp only [arr, List.map_cons, List.map_nil, List.getD_cons_zero, List.getD_cons_succ]; rfl))
            | ((with_reducible apply Xm.np_and); · rfl)
            | ((with_reducible apply Xm.np_and); · (show npB _ = true; with_reducible assumption))
            | ((with_reducible apply Xm.len_and); · exact Nat.le_of_ble_eq_true rfl)
            | ((with_reducible apply Xm.mu_and); · rfl)
            | ((with_reducible apply Xm.ite_t); · with_reducible assumption)
            | ((with_reducible apply Xm.ite_f); · with_reducible assumption)
            | ((with_reducible apply Xm.ite_nbt); · with_reducible assumption)
            | ((with_reducible apply Xm.ite_nbf); · with_reducible assumption)
            | ((with_reducible apply Xm.ex_oo); · with_reducible assumption)
            | ((with_reducible apply Xm.dcv_and); · rfl)
            | ((with_reducible apply Xm.dcc_and); · rfl)
            | with_reducible refine Xm.ex_dct ?_
            | ((with_reducible apply Xm.nop_and); · rfl)
            | ((with_reducible apply Xm.wp_rd); · rfl)
            | ((with_reducible apply Xm.wp_rdo); · rfl)
            | ((with_reducible apply Xm.wp_callQ); · rfl)
            | ((with_reducible apply Xm.wp_ixM); · rfl)
            | ((with_reducible apply Xm.wp_lenM); · rfl)
            | ((with_reducible apply Xm.wp_appM); · rfl)
            | ((with_reducible apply Xm.wp_extM); · rfl)
            | ((with_reducible apply Xm.wp_popM); · rfl)
            | ((with_reducible apply Xm.wp_revM); · rfl)
            | ((with_reducible apply Xm.wp_reprM); · rfl)
            | ((with_reducible apply Xm.wp_retM); · rfl)
            | ((with_reducible apply Xm.wp_retMd); · rfl)
            | ((with_reducible apply Xm.wp_aug); · rfl)
            | ((with_reducible apply Xm.wp_setM); · rfl)
            | ((with_reducible apply Xm.wp_frz); · rfl)
            | ((with_reducible apply Xm.wp_frz2); · rfl)
            | ((with_reducible apply Xm.wp_ixD); · rfl)
            | ((with_reducible apply Xm.wp_getD1); · rfl)
            | ((with_reducible apply Xm.wp_getD2); · rfl)
            | ((with_reducible apply Xm.wp_putD); · rfl)
            | ((with_reducible apply Xm.wp_extN); · rfl)
            | ((with_reducible apply Xm.wp_callD); · rfl)
            | ((with_reducible apply Xm.wp_isaM); · rfl))
          refine ⟨cols l, .inl hL.symm, ⟨rfl, sl_le (by rw [len_cols]; omega)⟩, ?_⟩
          refine wp_of hc ?_
          repeat (first
            | with_reducible refine Xm.wp_seq ?_
            | with_reducible refine Xm.wp_asg ?_
            | with_reducible refine Xm.wp_bin2 ?_
            | with_reducible refine Xm.wp_un1 ?_
            | with_reducible refine Xm.wp_consA ?_
            | with_reducible refine Xm.wp_nilA ?_
            | with_reducible refine Xm.wp_cst ?_
            | with_reducible refine Xm.wp_valB ?_
            | with_reducible refine Xm.wp_ifS ?_
            | with_reducible refine Xm.wp_rvD ?_
            | with_reducible refine Xm.wp_rvN ?_
            | with_reducible refine Xm.wp_callP0 ?_
            | with_reducible refine Xm.wp_callP ?_
            | with_reducible refine Xm.wp_callK ?_
            | with_reducible refine Xm.wp_skip ?_
            | with_reducible refine Xm.wp_retS ?_
            | with_reducible refine Xm.wp_retN ?_
            | with_reducible refine Xm.wp_drop ?_
            | with_reducible refine Xm.wp_asgN ?_
            | with_reducible refine Xm.wp_andB ?_
            | with_reducible refine Xm.wp_orB ?_
            | with_reducible refine Xm.wp_notB ?_
            | with_reducible refine Xm.wp_yesB ?_
            | with_reducible refine Xm.wp_boolE ?_
            | with_reducible refine Xm.wp_ifE ?_
            | with_reducible refine Xm.wp_tupF ?_
            | with_reducible refine Xm.wp_lstF ?_
            | with_reducible refine Xm.wp_newF ?_
            | with_reducible refine Xm.wp_listE ?_
            | with_reducible refine Xm.wp_itD ?_
            | with_reducible refine Xm.wp_for ?_
            | with_reducible refine Xm.wp_clr ?_
            | with_reducible refine Xm.wp_par2 ?_
            | with_reducible refine Xm.wp_asgT ?_
            | with_reducible refine Xm.wp_compF ?_
            | with_reducible refine Xm.wp_compR ?_
            | with_reducible refine Xm.wp_itR1 ?_
            | with_reducible refine Xm.wp_cutF ?_
            | with_reducible refine Xm.wp_noO ?_
            | with_reducible refine Xm.wp_someO ?_
            | with_reducible refine Xm.wp_chE ?_
            | with_reducible refine Xm.wp_raise ?_
            | with_reducible refine Xm.wp_retX ?_
            | with_reducible refine Xm.wp_asgX ?_
            | with_reducible refine Xm.wp_dropX ?_
            | with_reducible refine Xm.wp_try ?_
            | with_reducible refine Xm.wp_itK ?_
            | with_reducible refine Xm.wp_itEnum ?_
            | with_reducible refine Xm.wp_asgM ?_
            | with_reducible refine Xm.wp_dicE ?_
            | with_reducible refine Xm.wp_bN ?_
            | with_reducible refine Xm.wp_itEnumA ?_
            | with_reducible refine Xm.wp_rvM ?_
            | with_reducible refine Xm.wp_retD ?_
            | with_reducible refine Xm.wp_compM ?_
            | with_reducible refine Xm.ite_tt ?_
            | with_reducible refine Xm.ite_ff ?_
            | with_reducible refine Xm.ite_nt ?_
            | with_reducible refine Xm.ite_nf ?_
            | with_reducible refine Xm.ite_nes ?_
            | with_reducible refine Xm.ite_eqs ?_
            | with_reducible refine Xm.ite_nei ?_
            | with_reducible refine Xm.ite_eqi ?_
            | with_reducible refine Xm.ex_le ?_
            | with_reducible refine Xm.ex_lt ?_
            | with_reducible refine Xm.ex_bool ?_
            | with_reducible refine Xm.ex_new ?_
            | with_reducible refine Xm.ex_int ?_
            | with_reducible refine Xm.ex_of Xm.k_cat ?_
            | with_reducible refine Xm.ex_of Xm.k_sub ?_
            | with_reducible refine Xm.ex_of Xm.k_lt ?_
            | with_reducible refine Xm.ex_of Xm.k_le ?_
            | with_reducible refine Xm.ex_of Xm.k_gt ?_
            | with_reducible refine Xm.ex_of Xm.k_ge ?_
            | with_reducible refine Xm.ex_of Xm.k_eqI ?_
            | with_reducible refine Xm.ex_of Xm.k_neI ?_
            | with_reducible refine Xm.ex_of Xm.k_eqStr ?_
            | with_reducible refine Xm.ex_of Xm.k_neStr ?_
            | with_reducible refine Xm.ex_of Xm.k_neg ?_
            | with_reducible refine Xm.ex_of Xm.k_abs ?_
            | with_reducible refine Xm.ex_of Xm.k_lenL ?_
            | with_reducible refine Xm.ex_of Xm.k_lenT ?_
            | with_reducible refine Xm.ex_of Xm.k_list ?_
            | with_reducible refine Xm.ex_of Xm.k_listT ?_
            | with_reducible refine Xm.ex_of Xm.k_tupL ?_
            | with_reducible refine Xm.ex_of Xm.k_tupT ?_
            | with_reducible refine Xm.ex_of Xm.k_intB ?_
            | with_reducible refine Xm.ex_of Xm.ix_t0 ?_
            | with_reducible refine Xm.ex_of Xm.ix_t1 ?_
            | with_reducible refine Xm.ex_of Xm.ix_t2 ?_
            | with_reducible refine Xm.ex_of Xm.ix_l0 ?_
            | with_reducible refine Xm.ex_of Xm.ix_l1 ?_
            | with_reducible refine Xm.ex_of Xm.ix_l2 ?_
            | with_reducible refine Xm.ex_of Xm.k_isa ?_
            | with_reducible refine Xm.ex_of Xm.k_cutL ?_
            | with_reducible refine Xm.ex_of Xm.k_cutT ?_
            | with_reducible refine Xm.ex_of Xm.ix_sh0 ?_
            | with_reducible refine Xm.ex_of Xm.ix_sh1 ?_
            | with_reducible refine Xm.ex_of (Xm.k_eqS _ _) ?_
            | ((with_reducible apply Xm.ex_of); · with_reducible assumption)
            | ((with_reducible apply Xm.ex_arr); · (simp only [arr, List.map_cons, List.map_nil, List.getD_cons_zero, List.getD_cons_succ]; rfl))
            | ((with_reducible apply Xm.np_and); · rfl)
            | ((with_reducible apply Xm.np_and); · (show npB _ = true; with_reducible assumption))
            | ((with_reducible apply Xm.len_and); · exact Nat.le_of_ble_eq_true rfl)
            | ((with_reducible apply Xm.mu_and); · rfl)
            | ((with_reducible apply Xm.ite_t); · with_reducible assumption)
            | ((with_reducible apply Xm.ite_f); · with_reducible assumption)
            | ((with_reducible apply Xm.ite_nbt); · with_reducible assumption)
            | ((with_reducible apply Xm.ite_nbf); · with_reducible assumption)
            | ((with_reducible apply Xm.ex_oo); · with_reducible assumption)
            | ((with_reducible apply Xm.dcv_and); · rfl)
            | ((with_reducible apply Xm.dcc_and); · rfl)
            | with_reducible refine Xm.ex_dct ?_
            | ((with_reducible apply Xm.nop_and); · rfl)
            | ((with_reducible apply Xm.wp_rd); · rfl)
            | ((with_reducible apply Xm.wp_rdo); · rfl)
            | ((with_reducible apply Xm.wp_callQ); · rfl)
            | ((with_reducible apply Xm.wp_ixM); · rfl)
            | ((with_reducible apply Xm.wp_lenM); · rfl)
            | ((with_reducible apply Xm.wp_appM); · rfl)
            | ((with_reducible apply Xm.wp_extM); · rfl)
            | ((with_reducible apply Xm.wp_popM); · rfl)
            | ((with_reducible apply Xm.wp_revM); · rfl)
            | ((with_reducible apply Xm.wp_reprM); · rfl)
            | ((with_reducible apply Xm.wp_retM); · rfl)
            | ((with_reducible apply Xm.wp_retMd); · rfl)
            | ((with_reducible apply Xm.wp_aug); · rfl)
            | ((with_reducible apply Xm.wp_setM); · rfl)
            | ((with_reducible apply Xm.wp_frz); · rfl)
            | ((with_reducible apply Xm.wp_frz2); · rfl)
            | ((with_reducible apply Xm.wp_ixD); · rfl)
            | ((with_reducible apply Xm.wp_getD1); · rfl)
            | ((with_reducible apply Xm.wp_getD2); · rfl)
            | ((with_reducible apply Xm.wp_putD); · rfl)
            | ((with_reducible apply Xm.wp_extN); · rfl)
            | ((with_reducible apply Xm.wp_callD); · rfl)
            | ((with_reducible apply Xm.wp_isaM); · rfl))
          refine ⟨QS, .inl rfl, ?_⟩
          refine hloop.imp ?_
          rintro fl s ⟨rfl, rfl⟩
          exact hfin
      · rintro s ⟨zs, acc, hds, hz, rfl, hacc⟩
        cases zs with
        | cons p zs => cases hds
        | nil =>
          rw [List.map_nil, List.flatten_nil, List.append_nil] at hacc
          rw [← hacc]
          repeat (first
            | with_reducible refine Xm.wp_seq ?_
            | with_reducible refine Xm.wp_asg ?_
            | with_reducible refine Xm.wp_bin2 ?_
            | with_reducible refine Xm.wp_un1 ?_
            | with_reducible refine Xm.wp_consA ?_
            | with_reducible refine Xm.wp_nilA ?_
            | with_reducible refine Xm.wp_cst ?_
            | with_reducible refine Xm.wp_valB ?_
            | with_reducible refine Xm.wp_ifS ?_
            | with_reducible refine Xm.wp_rvD ?_
            | with_reducible refine Xm.wp_rvN ?_
            | with_reducible refine Xm.wp_callP0 ?_
            | with_reducible refine Xm.wp_callP ?_
            | with_reducible refine Xm.wp_callK ?_
            | with_reducible refine Xm.wp_skip ?_
            | with_reducible refine Xm.wp_retS ?_
            | with_reducible refine Xm.wp_retN ?_
            | with_reducible refine Xm.wp_drop ?_
            | with_reducible refine Xm.wp_asgN ?_
            | with_reducible refine Xm.wp_andB ?_
            | with_reducible refine Xm.wp_orB ?_
            | with_reducible refine Xm.wp_notB ?_
            | with_reducible refine Xm.wp_yesB ?_
            | with_reducible refine Xm.wp_boolE ?_
            | with_reducible refine Xm.wp_ifE ?_
            | with_reducible refine Xm.wp_tupF ?_
            | with_reducible refine Xm.wp_lstF ?_
            | with_reducible refine Xm.wp_newF ?_
            | with_reducible refine Xm.wp_listE ?_
            | with_reducible refine Xm.wp_itD ?_
            | with_reducible refine Xm.wp_for ?_
            | with_reducible refine Xm.wp_clr ?_
            | with_reducible refine Xm.wp_par2 ?_
            | with_reducible refine Xm.wp_asgT ?_
            | with_reducible refine Xm.wp_compF ?_
            | with_reducible refine Xm.wp_compR ?_
            | with_reducible refine Xm.wp_itR1 ?_
            | with_reducible refine Xm.wp_cutF ?_
            | with_reducible refine Xm.wp_noO ?_
            | with_reducible refine Xm.wp_someO ?_
            | with_reducible refine Xm.wp_chE ?_
            | with_reducible refine Xm.wp_raise ?_
            | with_reducible refine Xm.wp_retX ?_
            | with_reducible refine Xm.wp_asgX ?_
            | with_reducible refine Xm.wp_dropX ?_
            | with_reducible refine Xm.wp_try ?_
            | with_reducible refine Xm.wp_itK ?_
            | with_reducible refine Xm.wp_itEnum ?_
            | with_reducible refine Xm.wp_asgM ?_
            | with_reducible refine Xm.wp_dicE ?_
            | with_reducible refine Xm.wp_bN ?_
            | with_reducible refine Xm.wp_itEnumA ?_
            | with_reducible refine Xm.wp_rvM ?_
            | with_reducible refine Xm.wp_retD ?_
            | with_reducible refine Xm.wp_compM ?_
            | with_reducible refine Xm.ite_tt ?_
            | with_reducible refine Xm.ite_ff ?_
            | with_reducible refine Xm.ite_nt ?_
            | with_reducible refine Xm.ite_nf ?_
            | with_reducible refine Xm.ite_nes ?_
            | with_reducible refine Xm.ite_eqs ?_
            | with_reducible refine Xm.ite_nei ?_
            | with_reducible refine Xm.ite_eqi ?_
            | with_reducible refine Xm.ex_le ?_
            | with_reducible refine Xm.ex_lt ?_
            | with_reducible refine Xm.ex_bool ?_
            | with_reducible refine Xm.ex_new ?_
            | with_reducible refine Xm.ex_int ?_
            | with_reducible refine Xm.ex_of Xm.k_cat ?_
            | with_reducible refine Xm.ex_of Xm.k_sub ?_
            | with_reducible refine Xm.ex_of Xm.k_lt ?_
            | with_reducible refine Xm.ex_of Xm.k_le ?_
            | with_reducible refine Xm.ex_of Xm.k_gt ?_
            | with_reducible refine Xm.ex_of Xm.k_ge ?_
            | with_reducible refine Xm.ex_of Xm.k_eqI ?_
            | with_reducible refine Xm.ex_of Xm.k_neI ?_
            | with_reducible refine Xm.ex_of Xm.k_eqStr ?_
            | with_reducible refine Xm.ex_of Xm.k_neStr ?_
            | with_reducible refine Xm.ex_of Xm.k_neg ?_
            | with_reducible refine Xm.ex_of Xm.k_abs ?_
            | with_reducible refine Xm.ex_of Xm.k_lenL ?_
            | with_reducible refine Xm.ex_of Xm.k_lenT ?_
            | with_reducible refine Xm.ex_of Xm.k_list ?_
            | with_reducible refine Xm.ex_of Xm.k_listT ?_
            | with_reducible refine Xm.ex_of Xm.k_tupL ?_
            | with_reducible refine Xm.ex_of Xm.k_tupT ?_
            | with_reducible refine Xm.ex_of Xm.k_intB ?_
            | with_reducible refine Xm.ex_of Xm.ix_t0 ?_
            | with_reducible refine Xm.ex_of Xm.ix_t1 ?_
            | with_reducible refine Xm.ex_of Xm.ix_t2 ?_
            | with_reducible refine Xm.ex_of Xm.ix_l0 ?_
            | with_reducible refine Xm.ex_of Xm.ix_l1 ?_
            | with_reducible refine Xm.ex_of Xm.ix_l2 ?_
            | with_reducible refine Xm.ex_of Xm.k_isa ?_
            | with_reducible refine Xm.ex_of Xm.k_cutL ?_
            | with_reducible refine Xm.ex_of Xm.k_cutT ?_
            | with_reducible refine Xm.ex_of Xm.ix_sh0 ?_
            | with_reducible refine Xm.ex_of Xm.ix_sh1 ?_
            | with_reducible refine Xm.ex_of (Xm.k_eqS _ _) ?_
            | ((with_reducible apply Xm.ex_of); · with_reducible assumption)
            | ((with_reducible apply Xm.ex_arr); · (simp only [arr, List.map_cons, List.map_nil, List.getD_cons_zero, List.getD_cons_succ]; rfl))
            | ((with_reducible apply Xm.np_and); · rfl)
            | ((with_reducible apply Xm.np_and); · (show npB _ = true; with_reducible assumption))
            | ((with_reducible apply Xm.len_and); · exact Nat.le_of_ble_eq_true rfl)
            | ((with_reducible apply Xm.mu_and); · rfl)
            | ((with_reducible apply Xm.ite_t); · with_reducible assumption)
            | ((with_reducible apply Xm.ite_f); · with_reducible assumption)
            | ((with_reducible apply Xm.ite_nbt); · with_reducible assumption)
            | ((with_reducible apply Xm.ite_nbf); · with_reducible assumption)
            | ((with_reducible apply Xm.ex_oo); · with_reducible assumption)
            | ((with_reducible apply Xm.dcv_and); · rfl)
            | ((with_reducible apply Xm.dcc_and); · rfl)
            | with_reducible refine Xm.ex_dct ?_
            | ((with_reducible apply Xm.nop_and); · rfl)
            | ((with_reducible apply Xm.wp_rd); · rfl)
            | ((with_reducible apply Xm.wp_rdo); · rfl)
            | ((with_reducible apply Xm.wp_callQ); · rfl)
            | ((with_reducible apply Xm.wp_ixM); · rfl)
            | ((with_reducible apply Xm.wp_lenM); · rfl)
            | ((with_reducible apply Xm.wp_appM); · rfl)
            | ((with_reducible apply Xm.wp_extM); · rfl)
            | ((with_reducible apply Xm.wp_popM); · rfl)
            | ((with_reducible apply Xm.wp_revM); · rfl)
            | ((with_reducible apply Xm.wp_reprM); · rfl)
            | ((with_reducible apply Xm.wp_retM); · rfl)
            | ((with_reducible apply Xm.wp_retMd); · rfl)
            | ((with_reducible apply Xm.wp_aug); · rfl)
            | ((with_reducible apply Xm.wp_setM); · rfl)
            | ((with_reducible apply Xm.wp_frz); · rfl)
            | ((with_reducible apply Xm.wp_frz2); · rfl)
            | ((with_reducible apply Xm.wp_ixD); · rfl)
            | ((with_reducible apply Xm.wp_getD1); · rfl)
            | ((with_reducible apply Xm.wp_getD2); · rfl)
            | ((with_reducible apply Xm.wp_putD); · rfl)
            | ((with_reducible apply Xm.wp_extN); · rfl)
            | ((with_reducible apply Xm.wp_callD); · rfl)
            | ((with_reducible apply Xm.wp_isaM); · rfl))
          rfl
end K64
set_option Elab.async false
set_option linter.all false
set_option maxRecDepth 100000
set_option maxHeartbeats 4000000
namespace K64
open PySem PySem.Spec PyProof.Rows L2 Xm DwF CrF ExF LxF BoF
def kvM (K : List Int) (v : Int → D) : List (D × D) := K.map fun m => (.int m, v m)
theorem kvM_atom (K : List Int) (v : Int → D) : ((kvM K v).all fun p => atomK p.1) = true := by
  rw [List.all_eq_true]
  intro p hp
  obtain ⟨m, _, rfl⟩ := List.mem_map.mp hp
  rfl
theorem key_int {a b : Int} : (Xm.keyOf (.int a) = Xm.keyOf (.int b)) ↔ a = b := by
  show (some (NestedKey.num a) = some (NestedKey.num b)) ↔ a = b
  exact ⟨fun h => NestedKey.num.inj (Option.some.inj h), fun h => by rw [h]⟩
theorem kvM_find (v : Int → D) (m : Int) : ∀ K : List Int, dFind (kvM K v) (.int m) = if m ∈ K then some (v m) else none
  | [] => rfl
  | k :: K => by
    have ih := kvM_find v m K
    unfold dFind kvM at ih ⊢
    rw [List.map_cons, List.find?_cons]
    by_cases h : k = m
    · subst h
      rw [decide_eq_true rfl]
      simp
    · rw [decide_eq_false (fun z => h (key_int.mp z))]
      dsimp only
      rw [ih]
      have : (m ∈ k :: K) ↔ m ∈ K := ⟨fun z => (List.mem_cons.mp z).elim (fun e => absurd e.symm h) id, fun z => .tail _ z⟩
      by_cases h2 : m ∈ K
      · rw [if_pos h2, if_pos (this.mpr h2)]
      · rw [if_neg h2, if_neg fun z => h2 (this.mp z)]
theorem kvM_get {K : List Int} {v : Int → D} {m : Int} : dGet (kvM K v) (.int m) = some (if m ∈ K then some (v m) else none) := by
  unfold dGet
  rw [if_pos (by rw [kvM_atom]; rfl), kvM_find]
theorem kvM_put {K : List Int} {v : Int → D} {m : Int} {d : D} (hl : K.length ≤ 1000000) : dPut (kvM K v) (.int m) d = some (if m ∈ K then kvM K (fun k => if k = m then d else v k) else kvM K v ++ [(.int m, d)]) := by
  unfold dPut
  rw [if_pos ⟨by rw [kvM_atom]; rfl, by unfold kvM; rw [List.length_map, sizeLine_eq]; omega⟩]
  congr 1
  unfold dStore
  by_cases h : m ∈ K
  · rw [if_pos h, if_pos]
    · unfold kvM
      rw [List.map_map]
      refine List.map_congr_left fun k hk => ?_
      show (if Xm.keyOf (.int k) = Xm.keyOf (.int m) then (PyData.int k, d) else (PyData.int k, v k)) = (PyData.int k, if k = m then d else v k)
      by_cases e : k = m
      · rw [if_pos (key_int.mpr e), if_pos e]
      · rw [if_neg (fun z => e (key_int.mp z)), if_neg e]
    · rw [List.any_eq_true]
      exact ⟨(.int m, v m), List.mem_map.mpr ⟨m, h, rfl⟩, decide_eq_true rfl⟩
  · rw [if_neg h, if_neg]
    rw [List.any_eq_true]
    rintro ⟨p, hp, e⟩
    obtain ⟨k, hk, rfl⟩ := List.mem_map.mp hp
    exact h ((key_int.mp (of_decide_eq_true e)) ▸ hk)
theorem at_last {xs : List D} {b : D} : atI (xs ++ [b]) (-1) = some b := by
  unfold atI ixN
  simp only [List.length_append, List.length_singleton]
  rw [if_neg (by omega), if_pos (by omega)]
  have : (-1 + ((xs.length + 1 : Nat) : Int)).toNat = xs.length := by omega
  rw [Option.bind_some, this]
  simp
theorem ends_of {c : Nat} {l : List Nat} (h : l.Perm (List.range c)) (h2 : 2 ≤ c) : ∃ a m b, l = a :: (m ++ [b]) ∧ a ≠ b ∧ lexN l l.reverse = decide (a < b) := by
  have hl := perm_len h
  have hn : l.Nodup := h.nodup_iff.mpr List.nodup_range
  cases l with
  | nil => simp at hl; omega
  | cons a r =>
    have hr : r ≠ [] := fun z => by subst z; simp at hl; omega
    obtain ⟨m, b, rfl⟩ : ∃ m b, r = m ++ [b] := ⟨r.dropLast, r.getLast hr, (List.dropLast_concat_getLast hr).symm⟩
    have hab : a ≠ b := fun z => by
      subst z
      exact (List.nodup_cons.mp hn).1 (by simp)
    refine ⟨a, m, b, rfl, hab, ?_⟩
    have e : (a :: (m ++ [b])).reverse = b :: (m.reverse ++ [a]) := by simp
    rw [e]
    show (decide (a < b) || (decide (a = b) && lexN (m ++ [b]) (m.reverse ++ [a]))) = decide (a < b)
    rw [decide_eq_false hab]
    simp
theorem least_some : ∀ {K : List Int}, K ≠ [] → ∃ m, leastI K = some m
  | [], h => absurd rfl h
  | [i], _ => ⟨i, rfl⟩
  | i :: j :: r, _ => by
    obtain ⟨m, hm⟩ := least_some (K := j :: r) (by simp)
    exact ⟨_, by show (leastI (j :: r)).map _ = _; rw [hm]; rfl⟩
def vl (rows : List (List D)) (ps : List (List Nat)) (m : Int) : D := .list ((ps.filter fun l => decide (tot rows l = m)).map tc)
theorem vl_snoc {rows : List (List D)} {ps : List (List Nat)} {l : List Nat} {m : Int} : vl rows (ps ++ [l]) m = if m = tot rows l then .list ((ps.filter fun l => decide (tot rows l = m)).map tc ++ [tc l]) else vl rows ps m := by
  unfold vl
  rw [List.filter_append]
  by_cases h : m = tot rows l
  · rw [if_pos h]
    simp [h]
  · rw [if_neg h]
    have : decide (tot rows l = m) = false := decide_eq_false fun z => h z.symm
    simp [this]
abbrev B5 (T : D) (kv : List (D × D)) (s2 : Slot) : AS := [.dat T, .dct kv, s2, .no, .no]
theorem wp_lstR1 {f : EF} {st : AS} {QL : List D → AS → Prop} (w : Wp f st fun d s1 => ∃ k : Nat, d = .int k ∧ k ≤ 1000000 ∧ QL (rngD 0 k) s1) : Wp (lstR1 f) st QL := by
  obtain ⟨d, s1, e, k, rfl, hk, q⟩ := w
  exact ⟨_, _, lstR1_nat e hk, q⟩
theorem m_law_best {c : Nat} {rows : List (List D)} (hr : ∀ r ∈ rows, RowOk c r) (h1 : 1 ≤ rows.length) (h2 : 2 ≤ c) (h6 : c ≤ 6) :
    mf_law_best [.tuple (rows.map PyData.tuple)] = some (.val (.tuple [.int (few rows c), .list ((bests rows c).map tc)])) := by
  obtain ⟨r0, rs, e0⟩ : ∃ r0 rs, rows = r0 :: rs := by
    cases rows with
    | nil => simp at h1
    | cons a b => exact ⟨a, b, rfl⟩
  have l0 : r0.length = c := (hr r0 (by rw [e0]; exact .head _)).1
  have hix : kIx (.tuple (rows.map PyData.tuple)) (.int 0) = some (.tuple r0) := by rw [e0, List.map_cons]; exact ix_t0
  have hcr : ∀ l : List Nat, l.Perm (List.range c) → mf_law_crossed [.tuple (rows.map PyData.tuple), tc l] = some (.val (.int (tot rows l))) := fun l hl => m_law_crossed hr (perm_lt hl)
  have hln : mf_law_lines [.list (cols (List.range c))] = some (.new ((allN 8 (List.range c)).map tc)) := m_lines 8 _ List.nodup_range (by rw [List.length_range]; omega) (by rw [List.length_range]; omega) fun x hx => by have := List.mem_range.mp hx; omega
  have hall : ∀ l ∈ allN 8 (List.range c), l.Perm (List.range c) := fun l hl => (all_mem 8 _ _ (by rw [List.length_range]; omega)).mp hl
  have hlen8 := all_len 8 (List.range c) (by rw [List.length_range]; omega)
  have hpw := pow6 (n := (List.range c).length) (by rw [List.length_range]; omega)
  obtain ⟨lm, hlm, hlt⟩ := few_at (rows := rows) h2 h6
  have hfle : ∀ l ∈ orders c, few rows c ≤ tot rows l := fun l hl => few_le h2 h6 hl
  have hrg : rngD 0 (r0.length : Int) = cols (List.range c) := by rw [l0]; exact rng_cols c
  have hlr : kLen (.tuple r0) = some (.int (r0.length : Int)) := rfl
  have hor : (allN 8 (List.range c)).filter (fun l => lexN l l.reverse) = orders c := rfl
  have hbs : bests rows c = srt ((orders c).filter fun l => decide (tot rows l = few rows c)) := rfl
  have hol := orders_len h6
  have hop : ∀ l ∈ orders c, l.Perm (List.range c) := fun l hl => ((orders_mem h6).mp hl).1
  generalize hT : PyData.tuple (rows.map PyData.tuple) = T at *
  generalize allN 8 (List.range c) = AL at *
  generalize few rows c = fw at *
  have hloop : Wp (loopS (setD 2) (clrS [2, 4] (clrS [4] (ifS (valB (bin2 kLt (bin2 kIx (rd 2) (cst (.int 0))) (bin2 kIx (rd 2) (un1 kNeg (cst (.int 1)))))) (seqS (asgS 4 (rvD (callP mf_law_crossed [] (consA (rd 0) (consA (rd 2) nilA))))) (putD 1 (bin2 kCat (getD2 1 (rd 4) (lstF nilA)) (lstF (consA (rd 2) nilA))) (rd 4))) skipS))) (AL.map tc)) (B5 T [] .no)
      fun fl s => fl = .nx ∧ ∃ K, (∀ l ∈ orders c, tot rows l ∈ K) ∧ (∀ m ∈ K, ∃ l ∈ orders c, tot rows l = m) ∧ s = B5 T (kvM K (vl rows (orders c))) .no := by
    refine wp_loop (fun ds s => ∃ p q K, AL = p ++ q ∧ ds = q.map tc ∧ (∀ l ∈ p.filter (fun l => lexN l l.reverse), tot rows l ∈ K) ∧ (∀ m ∈ K, ∃ l ∈ p.filter (fun l => lexN l l.reverse), tot rows l = m) ∧ K.length ≤ p.length ∧ s = B5 T (kvM K (vl rows (p.filter fun l => lexN l l.reverse))) .no) ?_ ?_ _ _ ⟨[], AL, [], rfl, rfl, (fun l hl => nomatch hl), (fun m hm => nomatch hm), Nat.le_refl _, rfl⟩
    · rintro d ds s ⟨p, q, K, hpq, hds, k1, k2, k3, rfl⟩
      cases q with
      | nil => cases hds
      | cons l q =>
        rw [List.map_cons] at hds
        obtain ⟨rfl, rfl⟩ := List.cons.inj hds
        have hp := hall l (by rw [hpq]; simp)
        obtain ⟨a, m, b, el, hab, hlex⟩ := ends_of hp h2
        have i0 : kIx (tc l) (.int 0) = some (.int (a : Int)) := by rw [el]; exact ix_t0
        have i1 : kIx (tc l) (.int (-1)) = some (.int (b : Int)) := by
          rw [el]
          have e : cols (a :: (m ++ [b])) = cols (a :: m) ++ [.int (b : Int)] := by unfold cols; simp
          show kIx (.tuple (cols (a :: (m ++ [b])))) _ = _
          rw [e]
          exact k_ixT at_last
        have hc1 := hcr l hp
        have hpl : p.length < AL.length := by rw [hpq]; simp
        have hfs : (p ++ [l]).filter (fun l => lexN l l.reverse) = p.filter (fun l => lexN l l.reverse) ++ if a < b then [l] else [] := by
          rw [List.filter_append, List.filter_cons, hlex]
          by_cases h : a < b
          · rw [if_pos h, decide_eq_true h]; rfl
          · rw [if_neg h, decide_eq_false h]; rfl
        refine ⟨[.dat T, .dct (kvM K (vl rows (p.filter fun l => lexN l l.reverse))), .dat (tc l), .no, .no], rfl, ?_⟩
        by_cases h : a < b
        · rw [if_pos h] at hfs
          have hd : decide ((a : Int) < (b : Int)) = true := decide_eq_true (by omega)
          have hg := kvM_get (K := K) (v := vl rows (p.filter fun l => lexN l l.reverse)) (m := tot rows l)
          generalize hM : tot rows l = M at *
          generalize hPF : p.filter (fun l => lexN l l.reverse) = PF at *
          have hPl : PF.length ≤ p.length := by rw [← hPF]; exact List.length_filter_le _ _
          have hvm : ∀ k, vl rows (PF ++ [l]) k = if k = M then .list ((PF.filter fun l => decide (tot rows l = M)).map tc ++ [tc l]) else vl rows PF k := fun k => by
            have := vl_snoc (rows := rows) (ps := PF) (l := l) (m := k)
            rw [hM] at this
            rw [this]
            by_cases e : k = M
            · rw [if_pos e, if_pos e, e]
            · rw [if_neg e, if_neg e]
          have hcat : kCat (.list ((PF.filter fun l => decide (tot rows l = M)).map tc)) (.list [tc l]) = some (.list ((PF.filter fun l => decide (tot rows l = M)).map tc ++ [tc l])) := k_catL0 (by rw [List.length_map]; have := List.length_filter_le (fun l => decide (tot rows l = M)) PF; simp; omega)
          have hput := kvM_put (K := K) (v := vl rows PF) (m := M) (d := .list ((PF.filter fun l => decide (tot rows l = M)).map tc ++ [tc l])) (by omega)
          by_cases hK : M ∈ K
          · rw [if_pos hK] at hg hput
            have hnew : kvM K (fun k => if k = M then .list ((PF.filter fun l => decide (tot rows l = M)).map tc ++ [tc l]) else vl rows PF k) = kvM K (vl rows (PF ++ [l])) := List.map_congr_left fun k _ => by rw [hvm k]
            rw [hnew] at hput
            have hvl : vl rows PF M = .list ((PF.filter fun l => decide (tot rows l = M)).map tc) := rfl
            rw [hvl] at hg
            have hfin : ∃ p_1 q_1 K_1, AL = p_1 ++ q_1 ∧ q.map tc = q_1.map tc ∧ (∀ l ∈ p_1.filter (fun l => lexN l l.reverse), tot rows l ∈ K_1) ∧ (∀ m ∈ K_1, ∃ l ∈ p_1.filter (fun l => lexN l l.reverse), tot rows l = m) ∧ K_1.length ≤ p_1.length ∧ B5 T (kvM K (vl rows (PF ++ [l]))) .no = B5 T (kvM K_1 (vl rows (p_1.filter fun l => lexN l l.reverse))) .no := by
              refine ⟨p ++ [l], q, K, by rw [hpq]; simp, rfl, fun x hx => ?_, fun x hx => ?_, by simp; omega, by rw [hfs]⟩
              · rw [hfs] at hx
                rcases List.mem_append.mp hx with hx | hx
                · exact k1 x hx
                · rw [List.mem_singleton.mp hx, hM]; exact hK
              · obtain ⟨y, hy, e⟩ := k2 x hx
                exact ⟨y, by rw [hfs]; exact List.mem_append_left _ hy, e⟩
            generalize kvM K (vl rows (PF ++ [l])) = KV2 at *
            generalize kvM K (vl rows PF) = KV at *
            generalize ((PF.filter fun l => decide (tot rows l = M)).map tc ++ [tc l]) = NL at *
            generalize ((PF.filter fun l => decide (tot rows l = M)).map tc) = OL at *
            generalize hTL : tc l = TL at *
            generalize q.map tc = QM at *
            repeat (first
              | with_reducible refine Xm.wp_seq ?_
              | with_reducible refine Xm.wp_asg ?_
              | with_reducible refine Xm.wp_bin2 ?_
              | with_reducible refine Xm.wp_un1 ?_
              | with_reducible refine Xm.wp_consA ?_
              | with_reducible refine Xm.wp_nilA ?_
              | with_reducible refine Xm.wp_cst ?_
              | with_reducible refine Xm.wp_valB ?_
              | with_reducible refine Xm.wp_ifS ?_
              | with_reducible refine Xm.wp_rvD ?_
              | with_reducible refine Xm.wp_rvN ?_
              | with_reducible refine Xm.wp_callP0 ?_
              | with_reducible refine Xm.wp_callP ?_
              | with_reducible refine Xm.wp_callK ?_
              | with_reducible refine Xm.wp_skip ?_
              | with_reducible refine Xm.wp_retS ?_
              | with_reducible refine Xm.wp_retN ?_
              | with_reducible refine Xm.wp_drop ?_
              | with_reducible refine Xm.wp_asgN ?_
              | with_reducible refine Xm.wp_andB ?_
              | with_reducible refine Xm.wp_orB ?_
              | with_reducible refine Xm.wp_notB ?_
              | with_reducible refine Xm.wp_yesB ?_
              | with_reducible refine Xm.wp_boolE ?_
              | with_reducible refine Xm.wp_ifE ?_
              | with_reducible refine Xm.wp_tupF ?_
              | with_reducible refine Xm.wp_lstF ?_
              | with_reducible refine Xm.wp_newF ?_
              | with_reducible refine Xm.wp_listE ?_
              | with_reducible refine Xm.wp_itD ?_
              | with_reducible refine Xm.wp_for ?_
              | with_reducible refine Xm.wp_clr ?_
              | with_reducible refine Xm.wp_par2 ?_
              | with_reducible refine Xm.wp_asgT ?_
              | with_reducible refine Xm.wp_compF ?_
              | with_reducible refine Xm.wp_compR ?_
              | with_reducible refine Xm.wp_itR1 ?_
              | with_reducible refine Xm.wp_cutF ?_
              | with_reducible refine Xm.wp_noO ?_
              | with_reducible refine Xm.wp_someO ?_
              | with_reducible refine Xm.wp_chE ?_
              | with_reducible refine Xm.wp_raise ?_
              | with_reducible refine Xm.wp_retX ?_
              | with_reducible refine Xm.wp_asgX ?_
              | with_reducible refine Xm.wp_dropX ?_
              | with_reducible refine Xm.wp_try ?_
              | with_reducible refine Xm.wp_itK ?_
              | with_reducible refine Xm.wp_itEnum ?_
              | with_reducible refine Xm.wp_asgM ?_
              | with_reducible refine Xm.wp_dicE ?_
              | with_reducible refine Xm.wp_bN ?_
              | with_reducible refine Xm.wp_itEnumA ?_
              | with_reducible refine Xm.wp_rvM ?_
              | with_reducible refine Xm.wp_retD ?_
              | with_reducible refine Xm.wp_compM ?_
              | with_reducible refine Xm.ite_tt ?_
              | with_reducible refine Xm.ite_ff ?_
              | with_reducible refine Xm.ite_nt ?_
              | with_reducible refine Xm.ite_nf ?_
              | with_reducible refine Xm.ite_nes ?_
              | with_reducible refine Xm.ite_eqs ?_
              | with_reducible refine Xm.ite_nei ?_
              | with_reducible refine Xm.ite_eqi ?_
              | with_reducible refine Xm.ex_le ?_
              | with_reducible refine Xm.ex_lt ?_
              | with_reducible refine Xm.ex_bool ?_
              | with_reducible refine Xm.ex_new ?_
              | with_reducible refine Xm.ex_int ?_
              | with_reducible refine Xm.ex_of Xm.k_cat ?_
              | with_reducible refine Xm.ex_of Xm.k_sub ?_
              | with_reducible refine Xm.ex_of Xm.k_lt ?_
              | with_reducible refine Xm.ex_of Xm.k_le ?_
              | with_reducible refine Xm.ex_of Xm.k_gt ?_
              | with_reducible refine Xm.ex_of Xm.k_ge ?_
              | with_reducible refine Xm.ex_of Xm.k_eqI ?_
              | with_reducible refine Xm.ex_of Xm.k_neI ?_
              | with_reducible refine Xm.ex_of Xm.k_eqStr ?_
              | with_reducible refine Xm.ex_of Xm.k_neStr ?_
              | with_reducible refine Xm.ex_of Xm.k_neg ?_
              | with_reducible refine Xm.ex_of Xm.k_abs ?_
              | with_reducible refine Xm.ex_of Xm.k_lenL ?_
              | with_reducible refine Xm.ex_of Xm.k_lenT ?_
              | with_reducible refine Xm.ex_of Xm.k_list ?_
              | with_reducible refine Xm.ex_of Xm.k_listT ?_
              | with_reducible refine Xm.ex_of Xm.k_tupL ?_
              | with_reducible refine Xm.ex_of Xm.k_tupT ?_
              | with_reducible refine Xm.ex_of Xm.k_intB ?_
              | with_reducible refine Xm.ex_of Xm.ix_t0 ?_
              | with_reducible refine Xm.ex_of Xm.ix_t1 ?_
              | with_reducible refine Xm.ex_of Xm.ix_t2 ?_
              | with_reducible refine Xm.ex_of Xm.ix_l0 ?_
              | with_reducible refine Xm.ex_of Xm.ix_l1 ?_
              | with_reducible refine Xm.ex_of Xm.ix_l2 ?_
              | with_reducible refine Xm.ex_of Xm.k_isa ?_
              | with_reducible refine Xm.ex_of Xm.k_cutL ?_
              | with_reducible refine Xm.ex_of Xm.k_cutT ?_
              | with_reducible refine Xm.ex_of Xm.ix_sh0 ?_
              | with_reducible refine Xm.ex_of Xm.ix_sh1 ?_
              | with_reducible refine Xm.ex_of (Xm.k_eqS _ _) ?_
              | ((with_reducible apply Xm.ex_of); · with_reducible assumption)
              | ((with_reducible apply Xm.ex_arr); · (simp only [arr, List.map_cons, List.map_nil, List.getD_cons_zero, List.getD_cons_succ]; rfl))
              | ((with_reducible apply Xm.np_and); · rfl)
              | ((with_reducible apply Xm.np_and); · (show npB _ = true; with_reducible assumption))
              | ((with_reducible apply Xm.len_and); · exact Nat.le_of_ble_eq_true rfl)
              | ((with_reducible apply Xm.mu_and); · rfl)
              | ((with_reducible apply Xm.ite_t); · with_reducible assumption)
              | ((with_reducible apply Xm.ite_f); · with_reducible assumption)
              | ((with_reducible apply Xm.ite_nbt); · with_reducible assumption)
              | ((with_reducible apply Xm.ite_nbf); · with_reducible assumption)
              | ((with_reducible apply Xm.ex_oo); · with_reducible assumption)
              | ((with_reducible apply Xm.dcv_and); · rfl)
              | ((with_reducible apply Xm.dcc_and); · rfl)
              | with_reducible refine Xm.ex_dct ?_
              | ((with_reducible apply Xm.nop_and); · rfl)
              | ((with_reducible apply Xm.wp_rd); · rfl)
              | ((with_reducible apply Xm.wp_rdo); · rfl)
              | ((with_reducible apply Xm.wp_callQ); · rfl)
              | ((with_reducible apply Xm.wp_ixM); · rfl)
              | ((with_reducible apply Xm.wp_lenM); · rfl)
              | ((with_reducible apply Xm.wp_appM); · rfl)
              | ((with_reducible apply Xm.wp_extM); · rfl)
              | ((with_reducible apply Xm.wp_popM); · rfl)
              | ((with_reducible apply Xm.wp_revM); · rfl)
              | ((with_reducible apply Xm.wp_reprM); · rfl)
              | ((with_reducible apply Xm.wp_retM); · rfl)
              | ((with_reducible apply Xm.wp_retMd); · rfl)
              | ((with_reducible apply Xm.wp_aug); · rfl)
              | ((with_reducible apply Xm.wp_setM); · rfl)
              | ((with_reducible apply Xm.wp_frz); · rfl)
              | ((with_reducible apply Xm.wp_frz2); · rfl)
              | ((with_reducible apply Xm.wp_ixD); · rfl)
              | ((with_reducible apply Xm.wp_getD1); · rfl)
              | ((with_reducible apply Xm.wp_getD2); · rfl)
              | ((with_reducible apply Xm.wp_putD); · rfl)
              | ((with_reducible apply Xm.wp_extN); · rfl)
              | ((with_reducible apply Xm.wp_callD); · rfl)
              | ((with_reducible apply Xm.wp_isaM); · rfl))
            refine ⟨_, hcat, _, rfl, ?_⟩
            repeat (first
              | with_reducible refine Xm.wp_seq ?_
              | with_reducible refine Xm.wp_asg ?_
              | with_reducible refine Xm.wp_bin2 ?_
              | with_reducible refine Xm.wp_un1 ?_
              | with_reducible refine Xm.wp_consA ?_
              | with_reducible refine Xm.wp_nilA ?_
              | with_reducible refine Xm.wp_cst ?_
              | with_reducible refine Xm.wp_valB ?_
              | with_reducible refine Xm.wp_ifS ?_
              | with_reducible refine Xm.wp_rvD ?_
              | with_reducible refine Xm.wp_rvN ?_
              | with_reducible refine Xm.wp_callP0 ?_
              | with_reducible refine Xm.wp_callP ?_
              | with_reducible refine Xm.wp_callK ?_
              | with_reducible refine Xm.wp_skip ?_
              | with_reducible refine Xm.wp_retS ?_
              | with_reducible refine Xm.wp_retN ?_
              | with_reducible refine Xm.wp_drop ?_
              | with_reducible refine Xm.wp_asgN ?_
              | with_reducible refine Xm.wp_andB ?_
              | with_reducible refine Xm.wp_orB ?_
              | with_reducible refine Xm.wp_notB ?_
              | with_reducible refine Xm.wp_yesB ?_
              | with_reducible refine Xm.wp_boolE ?_
              | with_reducible refine Xm.wp_ifE ?_
              | with_reducible refine Xm.wp_tupF ?_
              | with_reducible refine Xm.wp_lstF ?_
              | with_reducible refine Xm.wp_newF ?_
              | with_reducible refine Xm.wp_listE ?_
              | with_reducible refine Xm.wp_itD ?_
              | with_reducible refine Xm.wp_for ?_
              | with_reducible refine Xm.wp_clr ?_
              | with_reducible refine Xm.wp_par2 ?_
              | with_reducible refine Xm.wp_asgT ?_
              | with_reducible refine Xm.wp_compF ?_
              | with_reducible refine Xm.wp_compR ?_
              | with_reducible refine Xm.wp_itR1 ?_
              | with_reducible refine Xm.wp_cutF ?_
              | with_reducible refine Xm.wp_noO ?_
              | with_reducible refine Xm.wp_someO ?_
              | with_reducible refine Xm.wp_chE ?_
              | with_reducible refine Xm.wp_raise ?_
              | with_reducible refine Xm.wp_retX ?_
              | with_reducible refine Xm.wp_asgX ?_
              | with_reducible refine Xm.wp_dropX ?_
              | with_reducible refine Xm.wp_try ?_
              | with_reducible refine Xm.wp_itK ?_
              | with_reducible refine Xm.wp_itEnum ?_
              | with_reducible refine Xm.wp_asgM ?_
              | with_reducible refine Xm.wp_dicE ?_
              | with_reducible refine Xm.wp_bN ?_
              | with_reducible refine Xm.wp_itEnumA ?_
              | with_reducible refine Xm.wp_rvM ?_
              | with_reducible refine Xm.wp_retD ?_
              | with_reducible refine Xm.wp_compM ?_
              | with_reducible refine Xm.ite_tt ?_
              | with_reducible refine Xm.ite_ff ?_
              | with_reducible refine Xm.ite_nt ?_
              | with_reducible refine Xm.ite_nf ?_
              | with_reducible refine Xm.ite_nes ?_
              | with_reducible refine Xm.ite_eqs ?_
              | with_reducible refine Xm.ite_nei ?_
              | with_reducible refine Xm.ite_eqi ?_
              | with_reducible refine Xm.ex_le ?_
              | with_reducible refine Xm.ex_lt ?_
              | with_reducible refine Xm.ex_bool ?_
              | with_reducible refine Xm.ex_new ?_
              | with_reducible refine Xm.ex_int ?_
              | with_reducible refine Xm.ex_of Xm.k_cat ?_
              | with_reducible refine Xm.ex_of Xm.k_sub ?_
              | with_reducible refine Xm.ex_of Xm.k_lt ?_
              | with_reducible refine Xm.ex_of Xm.k_le ?_
              | with_reducible refine Xm.ex_of Xm.k_gt ?_
              | with_reducible refine Xm.ex_of Xm.k_ge ?_
              | with_reducible refine Xm.ex_of Xm.k_eqI ?_
              | with_reducible refine Xm.ex_of Xm.k_neI ?_
              | with_reducible refine Xm.ex_of Xm.k_eqStr ?_
              | with_reducible refine Xm.ex_of Xm.k_neStr ?_
              | with_reducible refine Xm.ex_of Xm.k_neg ?_
              | with_reducible refine Xm.ex_of Xm.k_abs ?_
              | with_reducible refine Xm.ex_of Xm.k_lenL ?_
              | with_reducible refine Xm.ex_of Xm.k_lenT ?_
              | with_reducible refine Xm.ex_of Xm.k_list ?_
              | with_reducible refine Xm.ex_of Xm.k_listT ?_
              | with_reducible refine Xm.ex_of Xm.k_tupL ?_
              | with_reducible refine Xm.ex_of Xm.k_tupT ?_
              | with_reducible refine Xm.ex_of Xm.k_intB ?_
              | with_reducible refine Xm.ex_of Xm.ix_t0 ?_
              | with_reducible refine Xm.ex_of Xm.ix_t1 ?_
              | with_reducible refine Xm.ex_of Xm.ix_t2 ?_
              | with_reducible refine Xm.ex_of Xm.ix_l0 ?_
              | with_reducible refine Xm.ex_of Xm.ix_l1 ?_
              | with_reducible refine Xm.ex_of Xm.ix_l2 ?_
              | with_reducible refine Xm.ex_of Xm.k_isa ?_
              | with_reducible refine Xm.ex_of Xm.k_cutL ?_
              | with_reducible refine Xm.ex_of Xm.k_cutT ?_
              | with_reducible refine Xm.ex_of Xm.ix_sh0 ?_
              | with_reducible refine Xm.ex_of Xm.ix_sh1 ?_
              | with_reducible refine Xm.ex_of (Xm.k_eqS _ _) ?_
              | ((with_reducible apply Xm.ex_of); · with_reducible assumption)
              | ((with_reducible apply Xm.ex_arr); · (simp only [arr, List.map_cons, List.map_nil, List.getD_cons_zero, List.getD_cons_succ]; rfl))
              | ((with_reducible apply Xm.np_and); · rfl)
              | ((with_reducible apply Xm.np_and); · (show npB _ = true; with_reducible assumption))
              | ((with_reducible apply Xm.len_and); · exact Nat.le_of_ble_eq_true rfl)
              | ((with_reducible apply Xm.mu_and); · rfl)
              | ((with_reducible apply Xm.ite_t); · with_reducible assumption)
              | ((with_reducible apply Xm.ite_f); · with_reducible assumption)
              | ((with_reducible apply Xm.ite_nbt); · with_reducible assumption)
              | ((with_reducible apply Xm.ite_nbf); · with_reducible assumption)
              | ((with_reducible apply Xm.ex_oo); · with_reducible assumption)
              | ((with_reducible apply Xm.dcv_and); · rfl)
              | ((with_reducible apply Xm.dcc_and); · rfl)
              | with_reducible refine Xm.ex_dct ?_
              | ((with_reducible apply Xm.nop_and); · rfl)
              | ((with_reducible apply Xm.wp_rd); · rfl)
              | ((with_reducible apply Xm.wp_rdo); · rfl)
              | ((with_reducible apply Xm.wp_callQ); · rfl)
              | ((with_reducible apply Xm.wp_ixM); · rfl)
              | ((with_reducible apply Xm.wp_lenM); · rfl)
              | ((with_reducible apply Xm.wp_appM); · rfl)
              | ((with_reducible apply Xm.wp_extM); · rfl)
              | ((with_reducible apply Xm.wp_popM); · rfl)
              | ((with_reducible apply Xm.wp_revM); · rfl)
              | ((with_reducible apply Xm.wp_reprM); · rfl)
              | ((with_reducible apply Xm.wp_retM); · rfl)
              | ((with_reducible apply Xm.wp_retMd); · rfl)
              | ((with_reducible apply Xm.wp_aug); · rfl)
              | ((with_reducible apply Xm.wp_setM); · rfl)
              | ((with_reducible apply Xm.wp_frz); · rfl)
              | ((with_reducible apply Xm.wp_frz2); · rfl)
              | ((with_reducible apply Xm.wp_ixD); · rfl)
              | ((with_reducible apply Xm.wp_getD1); · rfl)
              | ((with_reducible apply Xm.wp_getD2); · rfl)
              | ((with_reducible apply Xm.wp_putD); · rfl)
              | ((with_reducible apply Xm.wp_extN); · rfl)
              | ((with_reducible apply Xm.wp_callD); · rfl)
              | ((with_reducible apply Xm.wp_isaM); · rfl))
            exact hfin
          · rw [if_neg hK] at hg hput
            have hno : PF.filter (fun l => decide (tot rows l = M)) = [] := List.filter_eq_nil_iff.mpr fun y hy z => hK (by rw [← of_decide_eq_true z]; exact k1 y hy)
            have hnew : kvM K (vl rows PF) ++ [(.int M, .list [tc l])] = kvM (K ++ [M]) (vl rows (PF ++ [l])) := by
              unfold kvM
              rw [List.map_append]
              congr 1
              · refine List.map_congr_left fun k hk => ?_
                rw [hvm k, if_neg (fun z : k = M => hK (z ▸ hk))]
              · rw [List.map_singleton, hvm M, if_pos rfl, hno]
                rfl
            rw [hno] at hput hcat
            rw [List.map_nil, List.nil_append] at hput hcat
            rw [hnew] at hput
            have hfin : ∃ p_1 q_1 K_1, AL = p_1 ++ q_1 ∧ q.map tc = q_1.map tc ∧ (∀ l ∈ p_1.filter (fun l => lexN l l.reverse), tot rows l ∈ K_1) ∧ (∀ m ∈ K_1, ∃ l ∈ p_1.filter (fun l => lexN l l.reverse), tot rows l = m) ∧ K_1.length ≤ p_1.length ∧ B5 T (kvM (K ++ [M]) (vl rows (PF ++ [l]))) .no = B5 T (kvM K_1 (vl rows (p_1.filter fun l => lexN l l.reverse))) .no := by
              refine ⟨p ++ [l], q, K ++ [M], by rw [hpq]; simp, rfl, fun x hx => ?_, fun x hx => ?_, by simp; omega, by rw [hfs]⟩
              · rw [hfs] at hx
                rcases List.mem_append.mp hx with hx | hx
                · exact List.mem_append_left _ (k1 x hx)
                · rw [List.mem_singleton.mp hx, hM]; simp
              · rcases List.mem_append.mp hx with hx | hx
                · obtain ⟨y, hy, e⟩ := k2 x hx
                  exact ⟨y, by rw [hfs]; exact List.mem_append_left _ hy, e⟩
                · exact ⟨l, by rw [hfs]; simp, by rw [hM, List.mem_singleton.mp hx]⟩
            generalize kvM (K ++ [M]) (vl rows (PF ++ [l])) = KV2 at *
            generalize kvM K (vl rows PF) = KV at *
            generalize hTL : tc l = TL at *
            generalize q.map tc = QM at *
            repeat (first
              | with_reducible refine Xm.wp_seq ?_
              | with_reducible refine Xm.wp_asg ?_
              | with_reducible refine Xm.wp_bin2 ?_
              | with_reducible refine Xm.wp_un1 ?_
              | with_reducible refine Xm.wp_consA ?_
              | with_reducible refine Xm.wp_nilA ?_
              | with_reducible refine Xm.wp_cst ?_
              | with_reducible refine Xm.wp_valB ?_
              | with_reducible refine Xm.wp_ifS ?_
              | with_reducible refine Xm.wp_rvD ?_
              | with_reducible refine Xm.wp_rvN ?_
              | with_reducible refine Xm.wp_callP0 ?_
              | with_reducible refine Xm.wp_callP ?_
              | with_reducible refine Xm.wp_callK ?_
              | with_reducible refine Xm.wp_skip ?_
              | with_reducible refine Xm.wp_retS ?_
              | with_reducible refine Xm.wp_retN ?_
              | with_reducible refine Xm.wp_drop ?_
              | with_reducible refine Xm.wp_asgN ?_
              | with_reducible refine Xm.wp_andB ?_
              | with_reducible refine Xm.wp_orB ?_
              | with_reducible refine Xm.wp_notB ?_
              | with_reducible refine Xm.wp_yesB ?_
              | with_reducible refine Xm.wp_boolE ?_
              | with_reducible refine Xm.wp_ifE ?_
              | with_reducible refine Xm.wp_tupF ?_
              | with_reducible refine Xm.wp_lstF ?_
              | with_reducible refine Xm.wp_newF ?_
              | with_reducible refine Xm.wp_listE ?_
              | with_reducible refine Xm.wp_itD ?_
              | with_reducible refine Xm.wp_for ?_
              | with_reducible refine Xm.wp_clr ?_
              | with_reducible refine Xm.wp_par2 ?_
              | with_reducible refine Xm.wp_asgT ?_
              | with_reducible refine Xm.wp_compF ?_
              | with_reducible refine Xm.wp_compR ?_
              | with_reducible refine Xm.wp_itR1 ?_
              | with_reducible refine Xm.wp_cutF ?_
              | with_reducible refine Xm.wp_noO ?_
              | with_reducible refine Xm.wp_someO ?_
              | with_reducible refine Xm.wp_chE ?_
              | with_reducible refine Xm.wp_raise ?_
              | with_reducible refine Xm.wp_retX ?_
              | with_reducible refine Xm.wp_asgX ?_
              | with_reducible refine Xm.wp_dropX ?_
              | with_reducible refine Xm.wp_try ?_
              | with_reducible refine Xm.wp_itK ?_
              | with_reducible refine Xm.wp_itEnum ?_
              | with_reducible refine Xm.wp_asgM ?_
              | with_reducible refine Xm.wp_dicE ?_
              | with_reducible refine Xm.wp_bN ?_
              | with_reducible refine Xm.wp_itEnumA ?_
              | with_reducible refine Xm.wp_rvM ?_
              | with_reducible refine Xm.wp_retD ?_
              | with_reducible refine Xm.wp_compM ?_
              | with_reducible refine Xm.ite_tt ?_
              | with_reducible refine Xm.ite_ff ?_
              | with_reducible refine Xm.ite_nt ?_
              | with_reducible refine Xm.ite_nf ?_
              | with_reducible refine Xm.ite_nes ?_
              | with_reducible refine Xm.ite_eqs ?_
              | with_reducible refine Xm.ite_nei ?_
              | with_reducible refine Xm.ite_eqi ?_
              | with_reducible refine Xm.ex_le ?_
              | with_reducible refine Xm.ex_lt ?_
              | with_reducible refine Xm.ex_bool ?_
              | with_reducible refine Xm.ex_new ?_
              | with_reducible refine Xm.ex_int ?_
              | with_reducible refine Xm.ex_of Xm.k_cat ?_
              | with_reducible refine Xm.ex_of Xm.k_sub ?_
              | with_reducible refine Xm.ex_of Xm.k_lt ?_
              | with_reducible refine Xm.ex_of Xm.k_le ?_
              | with_reducible refine Xm.ex_of Xm.k_gt ?_
              | with_reducible refine Xm.ex_of Xm.k_ge ?_
              | with_reducible refine Xm.ex_of Xm.k_eqI ?_
              | with_reducible refine Xm.ex_of Xm.k_neI ?_
              | with_reducible refine Xm.ex_of Xm.k_eqStr ?_
              | with_reducible refine Xm.ex_of Xm.k_neStr ?_
              | with_reducible refine Xm.ex_of Xm.k_neg ?_
              | with_reducible refine Xm.ex_of Xm.k_abs ?_
              | with_reducible refine Xm.ex_of Xm.k_lenL ?_
              | with_reducible refine Xm.ex_of Xm.k_lenT ?_
              | with_reducible refine Xm.ex_of Xm.k_list ?_
              | with_reducible refine Xm.ex_of Xm.k_listT ?_
              | with_reducible refine Xm.ex_of Xm.k_tupL ?_
              | with_reducible refine Xm.ex_of Xm.k_tupT ?_
              | with_reducible refine Xm.ex_of Xm.k_intB ?_
              | with_reducible refine Xm.ex_of Xm.ix_t0 ?_
              | with_reducible refine Xm.ex_of Xm.ix_t1 ?_
              | with_reducible refine Xm.ex_of Xm.ix_t2 ?_
              | with_reducible refine Xm.ex_of Xm.ix_l0 ?_
              | with_reducible refine Xm.ex_of Xm.ix_l1 ?_
              | with_reducible refine Xm.ex_of Xm.ix_l2 ?_
              | with_reducible refine Xm.ex_of Xm.k_isa ?_
              | with_reducible refine Xm.ex_of Xm.k_cutL ?_
              | with_reducible refine Xm.ex_of Xm.k_cutT ?_
              | with_reducible refine Xm.ex_of Xm.ix_sh0 ?_
              | with_reducible refine Xm.ex_of Xm.ix_sh1 ?_
              | with_reducible refine Xm.ex_of (Xm.k_eqS _ _) ?_
              | ((with_reducible apply Xm.ex_of); · with_reducible assumption)
              | ((with_reducible apply Xm.ex_arr); · (simp only [arr, List.map_cons, List.map_nil, List.getD_cons_zero, List.getD_cons_succ]; rfl))
              | ((with_reducible apply Xm.np_and); · rfl)
              | ((with_reducible apply Xm.np_and); · (show npB _ = true; with_reducible assumption))
              | ((with_reducible apply Xm.len_and); · exact Nat.le_of_ble_eq_true rfl)
              | ((with_reducible apply Xm.mu_and); · rfl)
              | ((with_reducible apply Xm.ite_t); · with_reducible assumption)
              | ((with_reducible apply Xm.ite_f); · with_reducible assumption)
              | ((with_reducible apply Xm.ite_nbt); · with_reducible assumption)
              | ((with_reducible apply Xm.ite_nbf); · with_reducible assumption)
              | ((with_reducible apply Xm.ex_oo); · with_reducible assumption)
              | ((with_reducible apply Xm.dcv_and); · rfl)
              | ((with_reducible apply Xm.dcc_and); · rfl)
              | with_reducible refine Xm.ex_dct ?_
              | ((with_reducible apply Xm.nop_and); · rfl)
              | ((with_reducible apply Xm.wp_rd); · rfl)
              | ((with_reducible apply Xm.wp_rdo); · rfl)
              | ((with_reducible apply Xm.wp_callQ); · rfl)
              | ((with_reducible apply Xm.wp_ixM); · rfl)
              | ((with_reducible apply Xm.wp_lenM); · rfl)
              | ((with_reducible apply Xm.wp_appM); · rfl)
              | ((with_reducible apply Xm.wp_extM); · rfl)
              | ((with_reducible apply Xm.wp_popM); · rfl)
              | ((with_reducible apply Xm.wp_revM); · rfl)
              | ((with_reducible apply Xm.wp_reprM); · rfl)
              | ((with_reducible apply Xm.wp_retM); · rfl)
              | ((with_reducible apply Xm.wp_retMd); · rfl)
              | ((with_reducible apply Xm.wp_aug); · rfl)
              | ((with_reducible apply Xm.wp_setM); · rfl)
              | ((with_reducible apply Xm.wp_frz); · rfl)
              | ((with_reducible apply Xm.wp_frz2); · rfl)
              | ((with_reducible apply Xm.wp_ixD); · rfl)
              | ((with_reducible apply Xm.wp_getD1); · rfl)
              | ((with_reducible apply Xm.wp_getD2); · rfl)
              | ((with_reducible apply Xm.wp_putD); · rfl)
              | ((with_reducible apply Xm.wp_extN); · rfl)
              | ((with_reducible apply Xm.wp_callD); · rfl)
              | ((with_reducible apply Xm.wp_isaM); · rfl))
            refine ⟨_, hcat, _, rfl, ?_⟩
            repeat (first
              | with_reducible refine Xm.wp_seq ?_
              | with_reducible refine Xm.wp_asg ?_
              | with_reducible refine Xm.wp_bin2 ?_
              | with_reducible refine Xm.wp_un1 ?_
              | with_reducible refine Xm.wp_consA ?_
              | with_reducible refine Xm.wp_nilA ?_
              | with_reducible refine Xm.wp_cst ?_
              | with_reducible refine Xm.wp_valB ?_
              | with_reducible refine Xm.wp_ifS ?_
              | with_reducible refine Xm.wp_rvD ?_
              | with_reducible refine Xm.wp_rvN ?_
              | with_reducible refine Xm.wp_callP0 ?_
              | with_reducible refine Xm.wp_callP ?_
              | with_reducible refine Xm.wp_callK ?_
              | with_reducible refine Xm.wp_skip ?_
              | with_reducible refine Xm.wp_retS ?_
              | with_reducible refine Xm.wp_retN ?_
              | with_reducible refine Xm.wp_drop ?_
              | with_reducible refine Xm.wp_asgN ?_
              | with_reducible refine Xm.wp_andB ?_
              | with_reducible refine Xm.wp_orB ?_
              | with_reducible refine Xm.wp_notB ?_
              | with_reducible refine Xm.wp_yesB ?_
              | with_reducible refine Xm.wp_boolE ?_
              | with_reducible refine Xm.wp_ifE ?_
              | with_reducible refine Xm.wp_tupF ?_
              | with_reducible refine Xm.wp_lstF ?_
              | with_reducible refine Xm.wp_newF ?_
              | with_reducible refine Xm.wp_listE ?_
              | with_reducible refine Xm.wp_itD ?_
              | with_reducible refine Xm.wp_for ?_
              | with_reducible refine Xm.wp_clr ?_
              | with_reducible refine Xm.wp_par2 ?_
              | with_reducible refine Xm.wp_asgT ?_
              | with_reducible refine Xm.wp_compF ?_
              | with_reducible refine Xm.wp_compR ?_
              | with_reducible refine Xm.wp_itR1 ?_
              | with_reducible refine Xm.wp_cutF ?_
              | with_reducible refine Xm.wp_noO ?_
              | with_reducible refine Xm.wp_someO ?_
              | with_reducible refine Xm.wp_chE ?_
              | with_reducible refine Xm.wp_raise ?_
              | with_reducible refine Xm.wp_retX ?_
              | with_reducible refine Xm.wp_asgX ?_
              | with_reducible refine Xm.wp_dropX ?_
              | with_reducible refine Xm.wp_try ?_
              | with_reducible refine Xm.wp_itK ?_
              | with_reducible refine Xm.wp_itEnum ?_
              | with_reducible refine Xm.wp_asgM ?_
              | with_reducible refine Xm.wp_dicE ?_
              | with_reducible refine Xm.wp_bN ?_
              | with_reducible refine Xm.wp_itEnumA ?_
              | with_reducible refine Xm.wp_rvM ?_
              | with_reducible refine Xm.wp_retD ?_
              | with_reducible refine Xm.wp_compM ?_
              | with_reducible refine Xm.ite_tt ?_
              | with_reducible refine Xm.ite_ff ?_
              | with_reducible refine Xm.ite_nt ?_
              | with_reducible refine Xm.ite_nf ?_
              | with_reducible refine Xm.ite_nes ?_
              | with_reducible refine Xm.ite_eqs ?_
              | with_reducible refine Xm.ite_nei ?_
              | with_reducible refine Xm.ite_eqi ?_
              | with_reducible refine Xm.ex_le ?_
              | with_reducible refine Xm.ex_lt ?_
              | with_reducible refine Xm.ex_bool ?_
              | with_reducible refine Xm.ex_new ?_
              | with_reducible refine Xm.ex_int ?_
              | with_reducible refine Xm.ex_of Xm.k_cat ?_
              | with_reducible refine Xm.ex_of Xm.k_sub ?_
              | with_reducible refine Xm.ex_of Xm.k_lt ?_
              | with_reducible refine Xm.ex_of Xm.k_le ?_
              | with_reducible refine Xm.ex_of Xm.k_gt ?_
              | with_reducible refine Xm.ex_of Xm.k_ge ?_
              | with_reducible refine Xm.ex_of Xm.k_eqI ?_
              | with_reducible refine Xm.ex_of Xm.k_neI ?_
              | with_reducible refine Xm.ex_of Xm.k_eqStr ?_
              | with_reducible refine Xm.ex_of Xm.k_neStr ?_
              | with_reducible refine Xm.ex_of Xm.k_neg ?_
              | with_reducible refine Xm.ex_of Xm.k_abs ?_
              | with_reducible refine Xm.ex_of Xm.k_lenL ?_
              | with_reducible refine Xm.ex_of Xm.k_lenT ?_
              | with_reducible refine Xm.ex_of Xm.k_list ?_
              | with_reducible refine Xm.ex_of Xm.k_listT ?_
              | with_reducible refine Xm.ex_of Xm.k_tupL ?_
              | with_reducible refine Xm.ex_of Xm.k_tupT ?_
              | with_reducible refine Xm.ex_of Xm.k_intB ?_
              | with_reducible refine Xm.ex_of Xm.ix_t0 ?_
              | with_reducible refine Xm.ex_of Xm.ix_t1 ?_
              | with_reducible refine Xm.ex_of Xm.ix_t2 ?_
              | with_reducible refine Xm.ex_of Xm.ix_l0 ?_
              | with_reducible refine Xm.ex_of Xm.ix_l1 ?_
              | with_reducible refine Xm.ex_of Xm.ix_l2 ?_
              | with_reducible refine Xm.ex_of Xm.k_isa ?_
              | with_reducible refine Xm.ex_of Xm.k_cutL ?_
              | with_reducible refine Xm.ex_of Xm.k_cutT ?_
              | with_reducible refine Xm.ex_of Xm.ix_sh0 ?_
              | with_reducible refine Xm.ex_of Xm.ix_sh1 ?_
              | with_reducible refine Xm.ex_of (Xm.k_eqS _ _) ?_
              | ((with_reducible apply Xm.ex_of); · with_reducible assumption)
              | ((with_reducible apply Xm.ex_arr); · (simp only [arr, List.map_cons, List.map_nil, List.getD_cons_zero, List.getD_cons_succ]; rfl))
              | ((with_reducible apply Xm.np_and); · rfl)
              | ((with_reducible apply Xm.np_and); · (show npB _ = true; with_reducible assumption))
              | ((with_reducible apply Xm.len_and); · exact Nat.le_of_ble_eq_true rfl)
              | ((with_reducible apply Xm.mu_and); · rfl)
              | ((with_reducible apply Xm.ite_t); · with_reducible assumption)
              | ((with_reducible apply Xm.ite_f); · with_reducible assumption)
              | ((with_reducible apply Xm.ite_nbt); · with_reducible assumption)
              | ((with_reducible apply Xm.ite_nbf); · with_reducible assumption)
              | ((with_reducible apply Xm.ex_oo); · with_reducible assumption)
              | ((with_reducible apply Xm.dcv_and); · rfl)
              | ((with_reducible apply Xm.dcc_and); · rfl)
              | with_reducible refine Xm.ex_dct ?_
              | ((with_reducible apply Xm.nop_and); · rfl)
              | ((with_reducible apply Xm.wp_rd); · rfl)
              | ((with_reducible apply Xm.wp_rdo); · rfl)
              | ((with_reducible apply Xm.wp_callQ); · rfl)
              | ((with_reducible apply Xm.wp_ixM); · rfl)
              | ((with_reducible apply Xm.wp_lenM); · rfl)
              | ((with_reducible apply Xm.wp_appM); · rfl)
              | ((with_reducible apply Xm.wp_extM); · rfl)
              | ((with_reducible apply Xm.wp_popM); · rfl)
              | ((with_reducible apply Xm.wp_revM); · rfl)
              | ((with_reducible apply Xm.wp_reprM); · rfl)
              | ((with_reducible apply Xm.wp_retM); · rfl)
              | ((with_reducible apply Xm.wp_retMd); · rfl)
              | ((with_reducible apply Xm.wp_aug); · rfl)
              | ((with_reducible apply Xm.wp_setM); · rfl)
              | ((with_reducible apply Xm.wp_frz); · rfl)
              | ((with_reducible apply Xm.wp_frz2); · rfl)
              | ((with_reducible apply Xm.wp_ixD); · rfl)
              | ((with_reducible apply Xm.wp_getD1); · rfl)
              | ((with_reducible apply Xm.wp_getD2); · rfl)
              | ((with_reducible apply Xm.wp_putD); · rfl)
              | ((with_reducible apply Xm.wp_extN); · rfl)
              | ((with_reducible apply Xm.wp_callD); · rfl)
              | ((with_reducible apply Xm.wp_isaM); · rfl))
            exact hfin
        · rw [if_neg h, List.append_nil] at hfs
          have hd : decide ((a : Int) < (b : Int)) = false := decide_eq_false (by omega)
          generalize hTL : tc l = TL at *
          generalize hKV : kvM K (vl rows (p.filter fun l => lexN l l.reverse)) = KV at *
          repeat (first
            | with_reducible refine Xm.wp_seq ?_
            | with_reducible refine Xm.wp_asg ?_
            | with_reducible refine Xm.wp_bin2 ?_
            | with_reducible refine Xm.wp_un1 ?_
            | with_reducible refine Xm.wp_consA ?_
            | with_reducible refine Xm.wp_nilA ?_
            | with_reducible refine Xm.wp_cst ?_
            | with_reducible refine Xm.wp_valB ?_
            | with_reducible refine Xm.wp_ifS ?_
            | with_reducible refine Xm.wp_rvD ?_
            | with_reducible refine Xm.wp_rvN ?_
            | with_reducible refine Xm.wp_callP0 ?_
            | with_reducible refine Xm.wp_callP ?_
            | with_reducible refine Xm.wp_callK ?_
            | with_reducible refine Xm.wp_skip ?_
            | with_reducible refine Xm.wp_retS ?_
            | with_reducible refine Xm.wp_retN ?_
            | with_reducible refine Xm.wp_drop ?_
            | with_reducible refine Xm.wp_asgN ?_
            | with_reducible refine Xm.wp_andB ?_
            | with_reducible refine Xm.wp_orB ?_
            | with_reducible refine Xm.wp_notB ?_
            | with_reducible refine Xm.wp_yesB ?_
            | with_reducible refine Xm.wp_boolE ?_
            | with_reducible refine Xm.wp_ifE ?_
            | with_reducible refine Xm.wp_tupF ?_
            | with_reducible refine Xm.wp_lstF ?_
            | with_reducible refine Xm.wp_newF ?_
            | with_reducible refine Xm.wp_listE ?_
            | with_reducible refine Xm.wp_itD ?_
            | with_reducible refine Xm.wp_for ?_
            | with_reducible refine Xm.wp_clr ?_
            | with_reducible refine Xm.wp_par2 ?_
            | with_reducible refine Xm.wp_asgT ?_
            | with_reducible refine Xm.wp_compF ?_
            | with_reducible refine Xm.wp_compR ?_
            | with_reducible refine Xm.wp_itR1 ?_
            | with_reducible refine Xm.wp_cutF ?_
            | with_reducible refine Xm.wp_noO ?_
            | with_reducible refine Xm.wp_someO ?_
            | with_reducible refine Xm.wp_chE ?_
            | with_reducible refine Xm.wp_raise ?_
            | with_reducible refine Xm.wp_retX ?_
            | with_reducible refine Xm.wp_asgX ?_
            | with_reducible refine Xm.wp_dropX ?_
            | with_reducible refine Xm.wp_try ?_
            | with_reducible refine Xm.wp_itK ?_
            | with_reducible refine Xm.wp_itEnum ?_
            | with_reducible refine Xm.wp_asgM ?_
            | with_reducible refine Xm.wp_dicE ?_
            | with_reducible refine Xm.wp_bN ?_
            | with_reducible refine Xm.wp_itEnumA ?_
            | with_reducible refine Xm.wp_rvM ?_
            | with_reducible refine Xm.wp_retD ?_
            | with_reducible refine Xm.wp_compM ?_
            | with_reducible refine Xm.ite_tt ?_
            | with_reducible refine Xm.ite_ff ?_
            | with_reducible refine Xm.ite_nt ?_
            | with_reducible refine Xm.ite_nf ?_
            | with_reducible refine Xm.ite_nes ?_
            | with_reducible refine Xm.ite_eqs ?_
            | with_reducible refine Xm.ite_nei ?_
            | with_reducible refine Xm.ite_eqi ?_
            | with_reducible refine Xm.ex_le ?_
            | with_reducible refine Xm.ex_lt ?_
            | with_reducible refine Xm.ex_bool ?_
            | with_reducible refine Xm.ex_new ?_
            | with_reducible refine Xm.ex_int ?_
            | with_reducible refine Xm.ex_of Xm.k_cat ?_
            | with_reducible refine Xm.ex_of Xm.k_sub ?_
            | with_reducible refine Xm.ex_of Xm.k_lt ?_
            | with_reducible refine Xm.ex_of Xm.k_le ?_
            | with_reducible refine Xm.ex_of Xm.k_gt ?_
            | with_reducible refine Xm.ex_of Xm.k_ge ?_
            | with_reducible refine Xm.ex_of Xm.k_eqI ?_
            | with_reducible refine Xm.ex_of Xm.k_neI ?_
            | with_reducible refine Xm.ex_of Xm.k_eqStr ?_
            | with_reducible refine Xm.ex_of Xm.k_neStr ?_
            | with_reducible refine Xm.ex_of Xm.k_neg ?_
            | with_reducible refine Xm.ex_of Xm.k_abs ?_
            | with_reducible refine Xm.ex_of Xm.k_lenL ?_
            | with_reducible refine Xm.ex_of Xm.k_lenT ?_
            | with_reducible refine Xm.ex_of Xm.k_list ?_
            | with_reducible refine Xm.ex_of Xm.k_listT ?_
            | with_reducible refine Xm.ex_of Xm.k_tupL ?_
            | with_reducible refine Xm.ex_of Xm.k_tupT ?_
            | with_reducible refine Xm.ex_of Xm.k_intB ?_
            | with_reducible refine Xm.ex_of Xm.ix_t0 ?_
            | with_reducible refine Xm.ex_of Xm.ix_t1 ?_
            | with_reducible refine Xm.ex_of Xm.ix_t2 ?_
            | with_reducible refine Xm.ex_of Xm.ix_l0 ?_
            | with_reducible refine Xm.ex_of Xm.ix_l1 ?_
            | with_reducible refine Xm.ex_of Xm.ix_l2 ?_
            | with_reducible refine Xm.ex_of Xm.k_isa ?_
            | with_reducible refine Xm.ex_of Xm.k_cutL ?_
            | with_reducible refine Xm.ex_of Xm.k_cutT ?_
            | with_reducible refine Xm.ex_of Xm.ix_sh0 ?_
            | with_reducible refine Xm.ex_of Xm.ix_sh1 ?_
            | with_reducible refine Xm.ex_of (Xm.k_eqS _ _) ?_
            | ((with_reducible apply Xm.ex_of); · with_reducible assumption)
            | ((with_reducible apply Xm.ex_arr); · (simp only [arr, List.map_cons, List.map_nil, List.getD_cons_zero, List.getD_cons_succ]; rfl))
            | ((with_reducible apply Xm.np_and); · rfl)
            | ((with_reducible apply Xm.np_and); · (show npB _ = true; with_reducible assumption))
            | ((with_reducible apply Xm.len_and); · exact Nat.le_of_ble_eq_true rfl)
            | ((with_reducible apply Xm.mu_and); · rfl)
            | ((with_reducible apply Xm.ite_t); · with_reducible assumption)
            | ((with_reducible apply Xm.ite_f); · with_reducible assumption)
            | ((with_reducible apply Xm.ite_nbt); · with_reducible assumption)
            | ((with_reducible apply Xm.ite_nbf); · with_reducible assumption)
            | ((with_reducible apply Xm.ex_oo); · with_reducible assumption)
            | ((with_reducible apply Xm.dcv_and); · rfl)
            | ((with_reducible apply Xm.dcc_and); · rfl)
            | with_reducible refine Xm.ex_dct ?_
            | ((with_reducible apply Xm.nop_and); · rfl)
            | ((with_reducible apply Xm.wp_rd); · rfl)
            | ((with_reducible apply Xm.wp_rdo); · rfl)
            | ((with_reducible apply Xm.wp_callQ); · rfl)
            | ((with_reducible apply Xm.wp_ixM); · rfl)
            | ((with_reducible apply Xm.wp_lenM); · rfl)
            | ((with_reducible apply Xm.wp_appM); · rfl)
            | ((with_reducible apply Xm.wp_extM); · rfl)
            | ((with_reducible apply Xm.wp_popM); · rfl)
            | ((with_reducible apply Xm.wp_revM); · rfl)
            | ((with_reducible apply Xm.wp_reprM); · rfl)
            | ((with_reducible apply Xm.wp_retM); · rfl)
            | ((with_reducible apply Xm.wp_retMd); · rfl)
            | ((with_reducible apply Xm.wp_aug); · rfl)
            | ((with_reducible apply Xm.wp_setM); · rfl)
            | ((with_reducible apply Xm.wp_frz); · rfl)
            | ((with_reducible apply Xm.wp_frz2); · rfl)
            | ((with_reducible apply Xm.wp_ixD); · rfl)
            | ((with_reducible apply Xm.wp_getD1); · rfl)
            | ((with_reducible apply Xm.wp_getD2); · rfl)
            | ((with_reducible apply Xm.wp_putD); · rfl)
            | ((with_reducible apply Xm.wp_extN); · rfl)
            | ((with_reducible apply Xm.wp_callD); · rfl)
            | ((with_reducible apply Xm.wp_isaM); · rfl))
          exact ⟨p ++ [l], q, K, by rw [hpq]; simp, rfl, by rw [hfs]; exact k1, by rw [hfs]; exact k2, by simp; omega, by rw [hfs, hKV]; rfl⟩
    · rintro s ⟨p, q, K, hpq, hds, k1, k2, k3, rfl⟩
      have : q = [] := List.map_eq_nil_iff.mp hds.symm
      subst this
      rw [List.append_nil] at hpq
      subst hpq
      rw [hor] at k1 k2 ⊢
      exact ⟨rfl, K, k1, k2, rfl⟩
  refine runP_wp ?_
  unfold g_law_best
  have hALl : (AL.map tc).length ≤ sizeLine := sl_le (by rw [List.length_map]; omega)
  repeat (first
    | with_reducible refine Xm.wp_seq ?_
    | with_reducible refine Xm.wp_asg ?_
    | with_reducible refine Xm.wp_bin2 ?_
    | with_reducible refine Xm.wp_un1 ?_
    | with_reducible refine Xm.wp_consA ?_
    | with_reducible refine Xm.wp_nilA ?_
    | with_reducible refine Xm.wp_cst ?_
    | with_reducible refine Xm.wp_valB ?_
    | with_reducible refine Xm.wp_ifS ?_
    | with_reducible refine Xm.wp_rvD ?_
    | with_reducible refine Xm.wp_rvN ?_
    | with_reducible refine Xm.wp_callP0 ?_
    | with_reducible refine Xm.wp_callP ?_
    | with_reducible refine Xm.wp_callK ?_
    | with_reducible refine Xm.wp_skip ?_
    | with_reducible refine Xm.wp_retS ?_
    | with_reducible refine Xm.wp_retN ?_
    | with_reducible refine Xm.wp_drop ?_
    | with_reducible refine Xm.wp_asgN ?_
    | with_reducible refine Xm.wp_andB ?_
    | with_reducible refine Xm.wp_orB ?_
    | with_reducible refine Xm.wp_notB ?_
    | with_reducible refine Xm.wp_yesB ?_
    | with_reducible refine Xm.wp_boolE ?_
    | with_reducible refine Xm.wp_ifE ?_
    | with_reducible refine Xm.wp_tupF ?_
    | with_reducible refine Xm.wp_lstF ?_
    | with_reducible refine Xm.wp_newF ?_
    | with_reducible refine Xm.wp_listE ?_
    | with_reducible refine Xm.wp_itD ?_
    | with_reducible refine Xm.wp_for ?_
    | with_reducible refine Xm.wp_clr ?_
    | with_reducible refine Xm.wp_par2 ?_
    | with_reducible refine Xm.wp_asgT ?_
    | with_reducible refine Xm.wp_compF ?_
    | with_reducible refine Xm.wp_compR ?_
    | with_reducible refine Xm.wp_itR1 ?_
    | with_reducible refine Xm.wp_cutF ?_
    | with_reducible refine Xm.wp_noO ?_
    | with_reducible refine Xm.wp_someO ?_
    | with_reducible refine Xm.wp_chE ?_
    | with_reducible refine Xm.wp_raise ?_
    | with_reducible refine Xm.wp_retX ?_
    | with_reducible refine Xm.wp_asgX ?_
    | with_reducible refine Xm.wp_dropX ?_
    | with_reducible refine Xm.wp_try ?_
    | with_reducible refine Xm.wp_itK ?_
    | with_reducible refine Xm.wp_itEnum ?_
    | with_reducible refine Xm.wp_asgM ?_
    | with_reducible refine Xm.wp_dicE ?_
    | with_reducible refine Xm.wp_bN ?_
    | with_reducible refine Xm.wp_itEnumA ?_
    | with_reducible refine Xm.wp_rvM ?_
    | with_reducible refine Xm.wp_retD ?_
    | with_reducible refine Xm.wp_compM ?_
    | with_reducible refine Xm.ite_tt ?_
    | with_reducible refine Xm.ite_ff ?_
    | with_reducible refine Xm.ite_nt ?_
    | with_reducible refine Xm.ite_nf ?_
    | with_reducible refine Xm.ite_nes ?_
    | with_reducible refine Xm.ite_eqs ?_
    | with_reducible refine Xm.ite_nei ?_
    | with_reducible refine Xm.ite_eqi ?_
    | with_reducible refine Xm.ex_le ?_
    | with_reducible refine Xm.ex_lt ?_
    | with_reducible refine Xm.ex_bool ?_
    | with_reducible refine Xm.ex_new ?_
    | with_reducible refine Xm.ex_int ?_
    | with_reducible refine Xm.ex_of Xm.k_cat ?_
    | with_reducible refine Xm.ex_of Xm.k_sub ?_
    | with_reducible refine Xm.ex_of Xm.k_lt ?_
    | with_reducible refine Xm.ex_of Xm.k_le ?_
    | with_reducible refine Xm.ex_of Xm.k_gt ?_
    | with_reducible refine Xm.ex_of Xm.k_ge ?_
    | with_reducible refine Xm.ex_of Xm.k_eqI ?_
    | with_reducible refine Xm.ex_of Xm.k_neI ?_
    | with_reducible refine Xm.ex_of Xm.k_eqStr ?_
    | with_reducible refine Xm.ex_of Xm.k_neStr ?_
    | with_reducible refine Xm.ex_of Xm.k_neg ?_
    | with_reducible refine Xm.ex_of Xm.k_abs ?_
    | with_reducible refine Xm.ex_of Xm.k_lenL ?_
    | with_reducible refine Xm.ex_of Xm.k_lenT ?_
    | with_reducible refine Xm.ex_of Xm.k_list ?_
    | with_reducible refine Xm.ex_of Xm.k_listT ?_
    | with_reducible refine Xm.ex_of Xm.k_tupL ?_
    | with_reducible refine Xm.ex_of Xm.k_tupT ?_
    | with_reducible refine Xm.ex_of Xm.k_intB ?_
    | with_reducible refine Xm.ex_of Xm.ix_t0 ?_
    | with_reducible refine Xm.ex_of Xm.ix_t1 ?_
    | with_reducible refine Xm.ex_of Xm.ix_t2 ?_
    | with_reducible refine Xm.ex_of Xm.ix_l0 ?_
    | with_reducible refine Xm.ex_of Xm.ix_l1 ?_
    | with_reducible refine Xm.ex_of Xm.ix_l2 ?_
    | with_reducible refine Xm.ex_of Xm.k_isa ?_
    | with_reducible refine Xm.ex_of Xm.k_cutL ?_
    | with_reducible refine Xm.ex_of Xm.k_cutT ?_
    | with_reducible refine Xm.ex_of Xm.ix_sh0 ?_
    | with_reducible refine Xm.ex_of Xm.ix_sh1 ?_
    | with_reducible refine Xm.ex_of (Xm.k_eqS _ _) ?_
    | ((with_reducible apply Xm.ex_of); · with_reducible assumption)
    | ((with_reducible apply Xm.ex_arr); · (simp only [arr, List.map_cons, List.map_nil, List.getD_cons_zero, List.getD_cons_succ]; rfl))
    | ((with_reducible apply Xm.np_and); · rfl)
    | ((with_reducible apply Xm.np_and); · (show npB _ = true; with_reducible assumption))
    | ((with_reducible apply Xm.len_and); · exact Nat.le_of_ble_eq_true rfl)
    | ((with_reducible apply Xm.mu_and); · rfl)
    | ((with_reducible apply Xm.ite_t); · with_reducible assumption)
    | ((with_reducible apply Xm.ite_f); · with_reducible assumption)
    | ((with_reducible apply Xm.ite_nbt); · with_reducible assumption)
    | ((with_reducible apply Xm.ite_nbf); · with_reducible assumption)
    | ((with_reducible apply Xm.ex_oo); · with_reducible assumption)
    | ((with_reducible apply Xm.dcv_and); · rfl)
    | ((with_reducible apply Xm.dcc_and); · rfl)
    | with_reducible refine Xm.ex_dct ?_
    | ((with_reducible apply Xm.nop_and); · rfl)
    | ((with_reducible apply Xm.wp_rd); · rfl)
    | ((with_reducible apply Xm.wp_rdo); · rfl)
    | ((with_reducible apply Xm.wp_callQ); · rfl)
    | ((with_reducible apply Xm.wp_ixM); · rfl)
    | ((with_reducible apply Xm.wp_lenM); · rfl)
    | ((with_reducible apply Xm.wp_appM); · rfl)
    | ((with_reducible apply Xm.wp_extM); · rfl)
    | ((with_reducible apply Xm.wp_popM); · rfl)
    | ((with_reducible apply Xm.wp_revM); · rfl)
    | ((with_reducible apply Xm.wp_reprM); · rfl)
    | ((with_reducible apply Xm.wp_retM); · rfl)
    | ((with_reducible apply Xm.wp_retMd); · rfl)
    | ((with_reducible apply Xm.wp_aug); · rfl)
    | ((with_reducible apply Xm.wp_setM); · rfl)
    | ((with_reducible apply Xm.wp_frz); · rfl)
    | ((with_reducible apply Xm.wp_frz2); · rfl)
    | ((with_reducible apply Xm.wp_ixD); · rfl)
    | ((with_reducible apply Xm.wp_getD1); · rfl)
    | ((with_reducible apply Xm.wp_getD2); · rfl)
    | ((with_reducible apply Xm.wp_putD); · rfl)
    | ((with_reducible apply Xm.wp_extN); · rfl)
    | ((with_reducible apply Xm.wp_callD); · rfl)
    | ((with_reducible apply Xm.wp_isaM); · rfl))
  refine ⟨[], _, rfl, rfl, ?_⟩
  repeat (first
    | with_reducible refine Xm.wp_seq ?_
    | with_reducible refine Xm.wp_asg ?_
    | with_reducible refine Xm.wp_bin2 ?_
    | with_reducible refine Xm.wp_un1 ?_
    | with_reducible refine Xm.wp_consA ?_
    | with_reducible refine Xm.wp_nilA ?_
    | with_reducible refine Xm.wp_cst ?_
    | with_reducible refine Xm.wp_valB ?_
    | with_reducible refine Xm.wp_ifS ?_
    | with_reducible refine Xm.wp_rvD ?_
    | with_reducible refine Xm.wp_rvN ?_
    | with_reducible refine Xm.wp_callP0 ?_
    | with_reducible refine Xm.wp_callP ?_
    | with_reducible refine Xm.wp_callK ?_
    | with_reducible refine Xm.wp_skip ?_
    | with_reducible refine Xm.wp_retS ?_
    | with_reducible refine Xm.wp_retN ?_
    | with_reducible refine Xm.wp_drop ?_
    | with_reducible refine Xm.wp_asgN ?_
    | with_reducible refine Xm.wp_andB ?_
    | with_reducible refine Xm.wp_orB ?_
    | with_reducible refine Xm.wp_notB ?_
    | with_reducible refine Xm.wp_yesB ?_
    | with_reducible refine Xm.wp_boolE ?_
    | with_reducible refine Xm.wp_ifE ?_
    | with_reducible refine Xm.wp_tupF ?_
    | with_reducible refine Xm.wp_lstF ?_
    | with_reducible refine Xm.wp_newF ?_
    | with_reducible refine Xm.wp_listE ?_
    | with_reducible refine Xm.wp_itD ?_
    | with_reducible refine Xm.wp_for ?_
    | with_reducible refine Xm.wp_clr ?_
    | with_reducible refine Xm.wp_par2 ?_
    | with_reducible refine Xm.wp_asgT ?_
    | with_reducible refine Xm.wp_compF ?_
    | with_reducible refine Xm.wp_compR ?_
    | with_reducible refine Xm.wp_itR1 ?_
    | with_reducible refine Xm.wp_cutF ?_
    | with_reducible refine Xm.wp_noO ?_
    | with_reducible refine Xm.wp_someO ?_
    | with_reducible refine Xm.wp_chE ?_
    | with_reducible refine Xm.wp_raise ?_
    | with_reducible refine Xm.wp_retX ?_
    | with_reducible refine Xm.wp_asgX ?_
    | with_reducible refine Xm.wp_dropX ?_
    | with_reducible refine Xm.wp_try ?_
    | with_reducible refine Xm.wp_itK ?_
    | with_reducible refine Xm.wp_itEnum ?_
    | with_reducible refine Xm.wp_asgM ?_
    | with_reducible refine Xm.wp_dicE ?_
    | with_reducible refine Xm.wp_bN ?_
    | with_reducible refine Xm.wp_itEnumA ?_
    | with_reducible refine Xm.wp_rvM ?_
    | with_reducible refine Xm.wp_retD ?_
    | with_reducible refine Xm.wp_compM ?_
    | with_reducible refine Xm.ite_tt ?_
    | with_reducible refine Xm.ite_ff ?_
    | with_reducible refine Xm.ite_nt ?_
    | with_reducible refine Xm.ite_nf ?_
    | with_reducible refine Xm.ite_nes ?_
    | with_reducible refine Xm.ite_eqs ?_
    | with_reducible refine Xm.ite_nei ?_
    | with_reducible refine Xm.ite_eqi ?_
    | with_reducible refine Xm.ex_le ?_
    | with_reducible refine Xm.ex_lt ?_
    | with_reducible refine Xm.ex_bool ?_
    | with_reducible refine Xm.ex_new ?_
    | with_reducible refine Xm.ex_int ?_
    | with_reducible refine Xm.ex_of Xm.k_cat ?_
    | with_reducible refine Xm.ex_of Xm.k_sub ?_
    | with_reducible refine Xm.ex_of Xm.k_lt ?_
    | with_reducible refine Xm.ex_of Xm.k_le ?_
    | with_reducible refine Xm.ex_of Xm.k_gt ?_
    | with_reducible refine Xm.ex_of Xm.k_ge ?_
    | with_reducible refine Xm.ex_of Xm.k_eqI ?_
    | with_reducible refine Xm.ex_of Xm.k_neI ?_
    | with_reducible refine Xm.ex_of Xm.k_eqStr ?_
    | with_reducible refine Xm.ex_of Xm.k_neStr ?_
    | with_reducible refine Xm.ex_of Xm.k_neg ?_
    | with_reducible refine Xm.ex_of Xm.k_abs ?_
    | with_reducible refine Xm.ex_of Xm.k_lenL ?_
    | with_reducible refine Xm.ex_of Xm.k_lenT ?_
    | with_reducible refine Xm.ex_of Xm.k_list ?_
    | with_reducible refine Xm.ex_of Xm.k_listT ?_
    | with_reducible refine Xm.ex_of Xm.k_tupL ?_
    | with_reducible refine Xm.ex_of Xm.k_tupT ?_
    | with_reducible refine Xm.ex_of Xm.k_intB ?_
    | with_reducible refine Xm.ex_of Xm.ix_t0 ?_
    | with_reducible refine Xm.ex_of Xm.ix_t1 ?_
    | with_reducible refine Xm.ex_of Xm.ix_t2 ?_
    | with_reducible refine Xm.ex_of Xm.ix_l0 ?_
    | with_reducible refine Xm.ex_of Xm.ix_l1 ?_
    | with_reducible refine Xm.ex_of Xm.ix_l2 ?_
    | with_reducible refine Xm.ex_of Xm.k_isa ?_
    | with_reducible refine Xm.ex_of Xm.k_cutL ?_
    | with_reducible refine Xm.ex_of Xm.k_cutT ?_
    | with_reducible refine Xm.ex_of Xm.ix_sh0 ?_
    | with_reducible refine Xm.ex_of Xm.ix_sh1 ?_
    | with_reducible refine Xm.ex_of (Xm.k_eqS _ _) ?_
    | ((with_reducible apply Xm.ex_of); · with_reducible assumption)
    | ((with_reducible apply Xm.ex_arr); · (simp only [arr, List.map_cons, List.map_nil, List.getD_cons_zero, List.getD_cons_succ]; rfl))
    | ((with_reducible apply Xm.np_and); · rfl)
    | ((with_reducible apply Xm.np_and); · (show npB _ = true; with_reducible assumption))
    | ((with_reducible apply Xm.len_and); · exact Nat.le_of_ble_eq_true rfl)
    | ((with_reducible apply Xm.mu_and); · rfl)
    | ((with_reducible apply Xm.ite_t); · with_reducible assumption)
    | ((with_reducible apply Xm.ite_f); · with_reducible assumption)
    | ((with_reducible apply Xm.ite_nbt); · with_reducible assumption)
    | ((with_reducible apply Xm.ite_nbf); · with_reducible assumption)
    | ((with_reducible apply Xm.ex_oo); · with_reducible assumption)
    | ((with_reducible apply Xm.dcv_and); · rfl)
    | ((with_reducible apply Xm.dcc_and); · rfl)
    | with_reducible refine Xm.ex_dct ?_
    | ((with_reducible apply Xm.nop_and); · rfl)
    | ((with_reducible apply Xm.wp_rd); · rfl)
    | ((with_reducible apply Xm.wp_rdo); · rfl)
    | ((with_reducible apply Xm.wp_callQ); · rfl)
    | ((with_reducible apply Xm.wp_ixM); · rfl)
    | ((with_reducible apply Xm.wp_lenM); · rfl)
    | ((with_reducible apply Xm.wp_appM); · rfl)
    | ((with_reducible apply Xm.wp_extM); · rfl)
    | ((with_reducible apply Xm.wp_popM); · rfl)
    | ((with_reducible apply Xm.wp_revM); · rfl)
    | ((with_reducible apply Xm.wp_reprM); · rfl)
    | ((with_reducible apply Xm.wp_retM); · rfl)
    | ((with_reducible apply Xm.wp_retMd); · rfl)
    | ((with_reducible apply Xm.wp_aug); · rfl)
    | ((with_reducible apply Xm.wp_setM); · rfl)
    | ((with_reducible apply Xm.wp_frz); · rfl)
    | ((with_reducible apply Xm.wp_frz2); · rfl)
    | ((with_reducible apply Xm.wp_ixD); · rfl)
    | ((with_reducible apply Xm.wp_getD1); · rfl)
    | ((with_reducible apply Xm.wp_getD2); · rfl)
    | ((with_reducible apply Xm.wp_putD); · rfl)
    | ((with_reducible apply Xm.wp_extN); · rfl)
    | ((with_reducible apply Xm.wp_callD); · rfl)
    | ((with_reducible apply Xm.wp_isaM); · rfl))
  refine wp_lstR1 ?_
  repeat (first
    | with_reducible refine Xm.wp_seq ?_
    | with_reducible refine Xm.wp_asg ?_
    | with_reducible refine Xm.wp_bin2 ?_
    | with_reducible refine Xm.wp_un1 ?_
    | with_reducible refine Xm.wp_consA ?_
    | with_reducible refine Xm.wp_nilA ?_
    | with_reducible refine Xm.wp_cst ?_
    | with_reducible refine Xm.wp_valB ?_
    | with_reducible refine Xm.wp_ifS ?_
    | with_reducible refine Xm.wp_rvD ?_
    | with_reducible refine Xm.wp_rvN ?_
    | with_reducible refine Xm.wp_callP0 ?_
    | with_reducible refine Xm.wp_callP ?_
    | with_reducible refine Xm.wp_callK ?_
    | with_reducible refine Xm.wp_skip ?_
    | with_reducible refine Xm.wp_retS ?_
    | with_reducible refine Xm.wp_retN ?_
    | with_reducible refine Xm.wp_drop ?_
    | with_reducible refine Xm.wp_asgN ?_
    | with_reducible refine Xm.wp_andB ?_
    | with_reducible refine Xm.wp_orB ?_
    | with_reducible refine Xm.wp_notB ?_
    | with_reducible refine Xm.wp_yesB ?_
    | with_reducible refine Xm.wp_boolE ?_
    | with_reducible refine Xm.wp_ifE ?_
    | with_reducible refine Xm.wp_tupF ?_
    | with_reducible refine Xm.wp_lstF ?_
    | with_reducible refine Xm.wp_newF ?_
    | with_reducible refine Xm.wp_listE ?_
    | with_reducible refine Xm.wp_itD ?_
    | with_reducible refine Xm.wp_for ?_
    | with_reducible refine Xm.wp_clr ?_
    | with_reducible refine Xm.wp_par2 ?_
    | with_reducible refine Xm.wp_asgT ?_
    | with_reducible refine Xm.wp_compF ?_
    | with_reducible refine Xm.wp_compR ?_
    | with_reducible refine Xm.wp_itR1 ?_
    | with_reducible refine Xm.wp_cutF ?_
    | with_reducible refine Xm.wp_noO ?_
    | with_reducible refine Xm.wp_someO ?_
    | with_reducible refine Xm.wp_chE ?_
    | with_reducible refine Xm.wp_raise ?_
    | with_reducible refine Xm.wp_retX ?_
    | with_reducible refine Xm.wp_asgX ?_
    | with_reducible refine Xm.wp_dropX ?_
    | with_reducible refine Xm.wp_try ?_
    | with_reducible refine Xm.wp_itK ?_
    | with_reducible refine Xm.wp_itEnum ?_
    | with_reducible refine Xm.wp_asgM ?_
    | with_reducible refine Xm.wp_dicE ?_
    | with_reducible refine Xm.wp_bN ?_
    | with_reducible refine Xm.wp_itEnumA ?_
    | with_reducible refine Xm.wp_rvM ?_
    | with_reducible refine Xm.wp_retD ?_
    | with_reducible refine Xm.wp_compM ?_
    | with_reducible refine Xm.ite_tt ?_
    | with_reducible refine Xm.ite_ff ?_
    | with_reducible refine Xm.ite_nt ?_
    | with_reducible refine Xm.ite_nf ?_
    | with_reducible refine Xm.ite_nes ?_
    | with_reducible refine Xm.ite_eqs ?_
    | with_reducible refine Xm.ite_nei ?_
    | with_reducible refine Xm.ite_eqi ?_
    | with_reducible refine Xm.ex_le ?_
    | with_reducible refine Xm.ex_lt ?_
    | with_reducible refine Xm.ex_bool ?_
    | with_reducible refine Xm.ex_new ?_
    | with_reducible refine Xm.ex_int ?_
    | with_reducible refine Xm.ex_of Xm.k_cat ?_
    | with_reducible refine Xm.ex_of Xm.k_sub ?_
    | with_reducible refine Xm.ex_of Xm.k_lt ?_
    | with_reducible refine Xm.ex_of Xm.k_le ?_
    | with_reducible refine Xm.ex_of Xm.k_gt ?_
    | with_reducible refine Xm.ex_of Xm.k_ge ?_
    | with_reducible refine Xm.ex_of Xm.k_eqI ?_
    | with_reducible refine Xm.ex_of Xm.k_neI ?_
    | with_reducible refine Xm.ex_of Xm.k_eqStr ?_
    | with_reducible refine Xm.ex_of Xm.k_neStr ?_
    | with_reducible refine Xm.ex_of Xm.k_neg ?_
    | with_reducible refine Xm.ex_of Xm.k_abs ?_
    | with_reducible refine Xm.ex_of Xm.k_lenL ?_
    | with_reducible refine Xm.ex_of Xm.k_lenT ?_
    | with_reducible refine Xm.ex_of Xm.k_list ?_
    | with_reducible refine Xm.ex_of Xm.k_listT ?_
    | with_reducible refine Xm.ex_of Xm.k_tupL ?_
    | with_reducible refine Xm.ex_of Xm.k_tupT ?_
    | with_reducible refine Xm.ex_of Xm.k_intB ?_
    | with_reducible refine Xm.ex_of Xm.ix_t0 ?_
    | with_reducible refine Xm.ex_of Xm.ix_t1 ?_
    | with_reducible refine Xm.ex_of Xm.ix_t2 ?_
    | with_reducible refine Xm.ex_of Xm.ix_l0 ?_
    | with_reducible refine Xm.ex_of Xm.ix_l1 ?_
    | with_reducible refine Xm.ex_of Xm.ix_l2 ?_
    | with_reducible refine Xm.ex_of Xm.k_isa ?_
    | with_reducible refine Xm.ex_of Xm.k_cutL ?_
    | with_reducible refine Xm.ex_of Xm.k_cutT ?_
    | with_reducible refine Xm.ex_of Xm.ix_sh0 ?_
    | with_reducible refine Xm.ex_of Xm.ix_sh1 ?_
    | with_reducible refine Xm.ex_of (Xm.k_eqS _ _) ?_
    | ((with_reducible apply Xm.ex_of); · with_reducible assumption)
    | ((with_reducible apply Xm.ex_arr); · (simp only [arr, List.map_cons, List.map_nil, List.getD_cons_zero, List.getD_cons_succ]; rfl))
    | ((with_reducible apply Xm.np_and); · rfl)
    | ((with_reducible apply Xm.np_and); · (show npB _ = true; with_reducible assumption))
    | ((with_reducible apply Xm.len_and); · exact Nat.le_of_ble_eq_true rfl)
    | ((with_reducible apply Xm.mu_and); · rfl)
    | ((with_reducible apply Xm.ite_t); · with_reducible assumption)
    | ((with_reducible apply Xm.ite_f); · with_reducible assumption)
    | ((with_reducible apply Xm.ite_nbt); · with_reducible assumption)
    | ((with_reducible apply Xm.ite_nbf); · with_reducible assumption)
    | ((with_reducible apply Xm.ex_oo); · with_reducible assumption)
    | ((with_reducible apply Xm.dcv_and); · rfl)
    | ((with_reducible apply Xm.dcc_and); · rfl)
    | with_reducible refine Xm.ex_dct ?_
    | ((with_reducible apply Xm.nop_and); · rfl)
    | ((with_reducible apply Xm.wp_rd); · rfl)
    | ((with_reducible apply Xm.wp_rdo); · rfl)
    | ((with_reducible apply Xm.wp_callQ); · rfl)
    | ((with_reducible apply Xm.wp_ixM); · rfl)
    | ((with_reducible apply Xm.wp_lenM); · rfl)
    | ((with_reducible apply Xm.wp_appM); · rfl)
    | ((with_reducible apply Xm.wp_extM); · rfl)
    | ((with_reducible apply Xm.wp_popM); · rfl)
    | ((with_reducible apply Xm.wp_revM); · rfl)
    | ((with_reducible apply Xm.wp_reprM); · rfl)
    | ((with_reducible apply Xm.wp_retM); · rfl)
    | ((with_reducible apply Xm.wp_retMd); · rfl)
    | ((with_reducible apply Xm.wp_aug); · rfl)
    | ((with_reducible apply Xm.wp_setM); · rfl)
    | ((with_reducible apply Xm.wp_frz); · rfl)
    | ((with_reducible apply Xm.wp_frz2); · rfl)
    | ((with_reducible apply Xm.wp_ixD); · rfl)
    | ((with_reducible apply Xm.wp_getD1); · rfl)
    | ((with_reducible apply Xm.wp_getD2); · rfl)
    | ((with_reducible apply Xm.wp_putD); · rfl)
    | ((with_reducible apply Xm.wp_extN); · rfl)
    | ((with_reducible apply Xm.wp_callD); · rfl)
    | ((with_reducible apply Xm.wp_isaM); · rfl))
  refine ⟨r0.length, rfl, by omega, ?_⟩
  rw [hrg]
  repeat (first
    | with_reducible refine Xm.wp_seq ?_
    | with_reducible refine Xm.wp_asg ?_
    | with_reducible refine Xm.wp_bin2 ?_
    | with_reducible refine Xm.wp_un1 ?_
    | with_reducible refine Xm.wp_consA ?_
    | with_reducible refine Xm.wp_nilA ?_
    | with_reducible refine Xm.wp_cst ?_
    | with_reducible refine Xm.wp_valB ?_
    | with_reducible refine Xm.wp_ifS ?_
    | with_reducible refine Xm.wp_rvD ?_
    | with_reducible refine Xm.wp_rvN ?_
    | with_reducible refine Xm.wp_callP0 ?_
    | with_reducible refine Xm.wp_callP ?_
    | with_reducible refine Xm.wp_callK ?_
    | with_reducible refine Xm.wp_skip ?_
    | with_reducible refine Xm.wp_retS ?_
    | with_reducible refine Xm.wp_retN ?_
    | with_reducible refine Xm.wp_drop ?_
    | with_reducible refine Xm.wp_asgN ?_
    | with_reducible refine Xm.wp_andB ?_
    | with_reducible refine Xm.wp_orB ?_
    | with_reducible refine Xm.wp_notB ?_
    | with_reducible refine Xm.wp_yesB ?_
    | with_reducible refine Xm.wp_boolE ?_
    | with_reducible refine Xm.wp_ifE ?_
    | with_reducible refine Xm.wp_tupF ?_
    | with_reducible refine Xm.wp_lstF ?_
    | with_reducible refine Xm.wp_newF ?_
    | with_reducible refine Xm.wp_listE ?_
    | with_reducible refine Xm.wp_itD ?_
    | with_reducible refine Xm.wp_for ?_
    | with_reducible refine Xm.wp_clr ?_
    | with_reducible refine Xm.wp_par2 ?_
    | with_reducible refine Xm.wp_asgT ?_
    | with_reducible refine Xm.wp_compF ?_
    | with_reducible refine Xm.wp_compR ?_
    | with_reducible refine Xm.wp_itR1 ?_
    | with_reducible refine Xm.wp_cutF ?_
    | with_reducible refine Xm.wp_noO ?_
    | with_reducible refine Xm.wp_someO ?_
    | with_reducible refine Xm.wp_chE ?_
    | with_reducible refine Xm.wp_raise ?_
    | with_reducible refine Xm.wp_retX ?_
    | with_reducible refine Xm.wp_asgX ?_
    | with_reducible refine Xm.wp_dropX ?_
    | with_reducible refine Xm.wp_try ?_
    | with_reducible refine Xm.wp_itK ?_
    | with_reducible refine Xm.wp_itEnum ?_
    | with_reducible refine Xm.wp_asgM ?_
    | with_reducible refine Xm.wp_dicE ?_
    | with_reducible refine Xm.wp_bN ?_
    | with_reducible refine Xm.wp_itEnumA ?_
    | with_reducible refine Xm.wp_rvM ?_
    | with_reducible refine Xm.wp_retD ?_
    | with_reducible refine Xm.wp_compM ?_
    | with_reducible refine Xm.ite_tt ?_
    | with_reducible refine Xm.ite_ff ?_
    | with_reducible refine Xm.ite_nt ?_
    | with_reducible refine Xm.ite_nf ?_
    | with_reducible refine Xm.ite_nes ?_
    | with_reducible refine Xm.ite_eqs ?_
    | with_reducible refine Xm.ite_nei ?_
    | with_reducible refine Xm.ite_eqi ?_
    | with_reducible refine Xm.ex_le ?_
    | with_reducible refine Xm.ex_lt ?_
    | with_reducible refine Xm.ex_bool ?_
    | with_reducible refine Xm.ex_new ?_
    | with_reducible refine Xm.ex_int ?_
    | with_reducible refine Xm.ex_of Xm.k_cat ?_
    | with_reducible refine Xm.ex_of Xm.k_sub ?_
    | with_reducible refine Xm.ex_of Xm.k_lt ?_
    | with_reducible refine Xm.ex_of Xm.k_le ?_
    | with_reducible refine Xm.ex_of Xm.k_gt ?_
    | with_reducible refine Xm.ex_of Xm.k_ge ?_
    | with_reducible refine Xm.ex_of Xm.k_eqI ?_
    | with_reducible refine Xm.ex_of Xm.k_neI ?_
    | with_reducible refine Xm.ex_of Xm.k_eqStr ?_
    | with_reducible refine Xm.ex_of Xm.k_neStr ?_
    | with_reducible refine Xm.ex_of Xm.k_neg ?_
    | with_reducible refine Xm.ex_of Xm.k_abs ?_
    | with_reducible refine Xm.ex_of Xm.k_lenL ?_
    | with_reducible refine Xm.ex_of Xm.k_lenT ?_
    | with_reducible refine Xm.ex_of Xm.k_list ?_
    | with_reducible refine Xm.ex_of Xm.k_listT ?_
    | with_reducible refine Xm.ex_of Xm.k_tupL ?_
    | with_reducible refine Xm.ex_of Xm.k_tupT ?_
    | with_reducible refine Xm.ex_of Xm.k_intB ?_
    | with_reducible refine Xm.ex_of Xm.ix_t0 ?_
    | with_reducible refine Xm.ex_of Xm.ix_t1 ?_
    | with_reducible refine Xm.ex_of Xm.ix_t2 ?_
    | with_reducible refine Xm.ex_of Xm.ix_l0 ?_
    | with_reducible refine Xm.ex_of Xm.ix_l1 ?_
    | with_reducible refine Xm.ex_of Xm.ix_l2 ?_
    | with_reducible refine Xm.ex_of Xm.k_isa ?_
    | with_reducible refine Xm.ex_of Xm.k_cutL ?_
    | with_reducible refine Xm.ex_of Xm.k_cutT ?_
    | with_reducible refine Xm.ex_of Xm.ix_sh0 ?_
    | with_reducible refine Xm.ex_of Xm.ix_sh1 ?_
    | with_reducible refine Xm.ex_of (Xm.k_eqS _ _) ?_
    | ((with_reducible apply Xm.ex_of); · with_reducible assumption)
    | ((with_reducible apply Xm.ex_arr); · (simp only [arr, List.map_cons, List.map_nil, List.getD_cons_zero, List.getD_cons_succ]; rfl))
    | ((with_reducible apply Xm.np_and); · rfl)
    | ((with_reducible apply Xm.np_and); · (show npB _ = true; with_reducible assumption))
    | ((with_reducible apply Xm.len_and); · exact Nat.le_of_ble_eq_true rfl)
    | ((with_reducible apply Xm.mu_and); · rfl)
    | ((with_reducible apply Xm.ite_t); · with_reducible assumption)
    | ((with_reducible apply Xm.ite_f); · with_reducible assumption)
    | ((with_reducible apply Xm.ite_nbt); · with_reducible assumption)
    | ((with_reducible apply Xm.ite_nbf); · with_reducible assumption)
    | ((with_reducible apply Xm.ex_oo); · with_reducible assumption)
    | ((with_reducible apply Xm.dcv_and); · rfl)
    | ((with_reducible apply Xm.dcc_and); · rfl)
    | with_reducible refine Xm.ex_dct ?_
    | ((with_reducible apply Xm.nop_and); · rfl)
    | ((with_reducible apply Xm.wp_rd); · rfl)
    | ((with_reducible apply Xm.wp_rdo); · rfl)
    | ((with_reducible apply Xm.wp_callQ); · rfl)
    | ((with_reducible apply Xm.wp_ixM); · rfl)
    | ((with_reducible apply Xm.wp_lenM); · rfl)
    | ((with_reducible apply Xm.wp_appM); · rfl)
    | ((with_reducible apply Xm.wp_extM); · rfl)
    | ((with_reducible apply Xm.wp_popM); · rfl)
    | ((with_reducible apply Xm.wp_revM); · rfl)
    | ((with_reducible apply Xm.wp_reprM); · rfl)
    | ((with_reducible apply Xm.wp_retM); · rfl)
    | ((with_reducible apply Xm.wp_retMd); · rfl)
    | ((with_reducible apply Xm.wp_aug); · rfl)
    | ((with_reducible apply Xm.wp_setM); · rfl)
    | ((with_reducible apply Xm.wp_frz); · rfl)
    | ((with_reducible apply Xm.wp_frz2); · rfl)
    | ((with_reducible apply Xm.wp_ixD); · rfl)
    | ((with_reducible apply Xm.wp_getD1); · rfl)
    | ((with_reducible apply Xm.wp_getD2); · rfl)
    | ((with_reducible apply Xm.wp_putD); · rfl)
    | ((with_reducible apply Xm.wp_extN); · rfl)
    | ((with_reducible apply Xm.wp_callD); · rfl)
    | ((with_reducible apply Xm.wp_isaM); · rfl))
  refine ⟨AL.map tc, .inl rfl, ?_⟩
  refine hloop.imp ?_
  rintro fl s ⟨rfl, K, k1, k2, rfl⟩
  have hK0 : K ≠ [] := fun z => by
    have := k1 lm hlm
    rw [z] at this
    cases this
  obtain ⟨mm, hmm⟩ := least_some hK0
  obtain ⟨m1, m2⟩ := leastI_spec hmm
  have hmf : mm = fw := by
    obtain ⟨y, hy, e⟩ := k2 mm m1
    have a1 := hfle y hy
    have a2 := m2 (tot rows lm) (k1 lm hlm)
    omega
  subst hmf
  have hkeys : kListD (.dict (kvM K (vl rows (orders c)))) = some (.list (K.map PyData.int)) := by
    show some (PyData.list ((kvM K (vl rows (orders c))).map (·.1))) = _
    unfold kvM
    rw [List.map_map]
    rfl
  have hmin : kMinL (.list (K.map PyData.int)) = some (.int mm) := by
    show (intsD (K.map PyData.int)).bind _ = _
    rw [CrF.ints_map, Option.bind_some, hmm]
    rfl
  have hg := kvM_get (K := K) (v := vl rows (orders c)) (m := mm)
  rw [if_pos m1] at hg
  have hne : ∀ l ∈ (orders c).filter (fun l => decide (tot rows l = mm)), l ≠ [] := fun l hl z => by
    have := perm_len (hop l (List.mem_filter.mp hl).1)
    rw [z] at this
    simp at this
    omega
  have hfl : ((orders c).filter fun l => decide (tot rows l = mm)).length ≤ 46656 := Nat.le_trans (List.length_filter_le _ _) hol
  have hso := k_sortedL (ls := (orders c).filter fun l => decide (tot rows l = mm)) (sl_le (by omega)) hne
  rw [← hbs] at hso
  have hvl : vl rows (orders c) mm = .list (((orders c).filter fun l => decide (tot rows l = mm)).map tc) := rfl
  rw [hvl] at hg
  generalize kvM K (vl rows (orders c)) = KV at *
  generalize PyData.list (((orders c).filter fun l => decide (tot rows l = mm)).map tc) = FL at *
  generalize PyData.list ((bests rows c).map tc) = BL at *
  generalize PyData.list (K.map PyData.int) = KL at *
  repeat (first
    | with_reducible refine Xm.wp_seq ?_
    | with_reducible refine Xm.wp_asg ?_
    | with_reducible refine Xm.wp_bin2 ?_
    | with_reducible refine Xm.wp_un1 ?_
    | with_reducible refine Xm.wp_consA ?_
    | with_reducible refine Xm.wp_nilA ?_
    | with_reducible refine Xm.wp_cst ?_
    | with_reducible refine Xm.wp_valB ?_
    | with_reducible refine Xm.wp_ifS ?_
    | with_reducible refine Xm.wp_rvD ?_
    | with_reducible refine Xm.wp_rvN ?_
    | with_reducible refine Xm.wp_callP0 ?_
    | with_reducible refine Xm.wp_callP ?_
    | with_reducible refine Xm.wp_callK ?_
    | with_reducible refine Xm.wp_skip ?_
    | with_reducible refine Xm.wp_retS ?_
    | with_reducible refine Xm.wp_retN ?_
    | with_reducible refine Xm.wp_drop ?_
    | with_reducible refine Xm.wp_asgN ?_
    | with_reducible refine Xm.wp_andB ?_
    | with_reducible refine Xm.wp_orB ?_
    | with_reducible refine Xm.wp_notB ?_
    | with_reducible refine Xm.wp_yesB ?_
    | with_reducible refine Xm.wp_boolE ?_
    | with_reducible refine Xm.wp_ifE ?_
    | with_reducible refine Xm.wp_tupF ?_
    | with_reducible refine Xm.wp_lstF ?_
    | with_reducible refine Xm.wp_newF ?_
    | with_reducible refine Xm.wp_listE ?_
    | with_reducible refine Xm.wp_itD ?_
    | with_reducible refine Xm.wp_for ?_
    | with_reducible refine Xm.wp_clr ?_
    | with_reducible refine Xm.wp_par2 ?_
    | with_reducible refine Xm.wp_asgT ?_
    | with_reducible refine Xm.wp_compF ?_
    | with_reducible refine Xm.wp_compR ?_
    | with_reducible refine Xm.wp_itR1 ?_
    | with_reducible refine Xm.wp_cutF ?_
    | with_reducible refine Xm.wp_noO ?_
    | with_reducible refine Xm.wp_someO ?_
    | with_reducible refine Xm.wp_chE ?_
    | with_reducible refine Xm.wp_raise ?_
    | with_reducible refine Xm.wp_retX ?_
    | with_reducible refine Xm.wp_asgX ?_
    | with_reducible refine Xm.wp_dropX ?_
    | with_reducible refine Xm.wp_try ?_
    | with_reducible refine Xm.wp_itK ?_
    | with_reducible refine Xm.wp_itEnum ?_
    | with_reducible refine Xm.wp_asgM ?_
    | with_reducible refine Xm.wp_dicE ?_
    | with_reducible refine Xm.wp_bN ?_
    | with_reducible refine Xm.wp_itEnumA ?_
    | with_reducible refine Xm.wp_rvM ?_
    | with_reducible refine Xm.wp_retD ?_
    | with_reducible refine Xm.wp_compM ?_
    | with_reducible refine Xm.ite_tt ?_
    | with_reducible refine Xm.ite_ff ?_
    | with_reducible refine Xm.ite_nt ?_
    | with_reducible refine Xm.ite_nf ?_
    | with_reducible refine Xm.ite_nes ?_
    | with_reducible refine Xm.ite_eqs ?_
    | with_reducible refine Xm.ite_nei ?_
    | with_reducible refine Xm.ite_eqi ?_
    | with_reducible refine Xm.ex_le ?_
    | with_reducible refine Xm.ex_lt ?_
    | with_reducible refine Xm.ex_bool ?_
    | with_reducible refine Xm.ex_new ?_
    | with_reducible refine Xm.ex_int ?_
    | with_reducible refine Xm.ex_of Xm.k_cat ?_
    | with_reducible refine Xm.ex_of Xm.k_sub ?_
    | with_reducible refine Xm.ex_of Xm.k_lt ?_
    | with_reducible refine Xm.ex_of Xm.k_le ?_
    | with_reducible refine Xm.ex_of Xm.k_gt ?_
    | with_reducible refine Xm.ex_of Xm.k_ge ?_
    | with_reducible refine Xm.ex_of Xm.k_eqI ?_
    | with_reducible refine Xm.ex_of Xm.k_neI ?_
    | with_reducible refine Xm.ex_of Xm.k_eqStr ?_
    | with_reducible refine Xm.ex_of Xm.k_neStr ?_
    | with_reducible refine Xm.ex_of Xm.k_neg ?_
    | with_reducible refine Xm.ex_of Xm.k_abs ?_
    | with_reducible refine Xm.ex_of Xm.k_lenL ?_
    | with_reducible refine Xm.ex_of Xm.k_lenT ?_
    | with_reducible refine Xm.ex_of Xm.k_list ?_
    | with_reducible refine Xm.ex_of Xm.k_listT ?_
    | with_reducible refine Xm.ex_of Xm.k_tupL ?_
    | with_reducible refine Xm.ex_of Xm.k_tupT ?_
    | with_reducible refine Xm.ex_of Xm.k_intB ?_
    | with_reducible refine Xm.ex_of Xm.ix_t0 ?_
    | with_reducible refine Xm.ex_of Xm.ix_t1 ?_
    | with_reducible refine Xm.ex_of Xm.ix_t2 ?_
    | with_reducible refine Xm.ex_of Xm.ix_l0 ?_
    | with_reducible refine Xm.ex_of Xm.ix_l1 ?_
    | with_reducible refine Xm.ex_of Xm.ix_l2 ?_
    | with_reducible refine Xm.ex_of Xm.k_isa ?_
    | with_reducible refine Xm.ex_of Xm.k_cutL ?_
    | with_reducible refine Xm.ex_of Xm.k_cutT ?_
    | with_reducible refine Xm.ex_of Xm.ix_sh0 ?_
    | with_reducible refine Xm.ex_of Xm.ix_sh1 ?_
    | with_reducible refine Xm.ex_of (Xm.k_eqS _ _) ?_
    | ((with_reducible apply Xm.ex_of); · with_reducible assumption)
    | ((with_reducible apply Xm.ex_arr); · (simp only [arr, List.map_cons, List.map_nil, List.getD_cons_zero, List.getD_cons_succ]; rfl))
    | ((with_reducible apply Xm.np_and); · rfl)
    | ((with_reducible apply Xm.np_and); · (show npB _ = true; with_reducible assumption))
    | ((with_reducible apply Xm.len_and); · exact Nat.le_of_ble_eq_true rfl)
    | ((with_reducible apply Xm.mu_and); · rfl)
    | ((with_reducible apply Xm.ite_t); · with_reducible assumption)
    | ((with_reducible apply Xm.ite_f); · with_reducible assumption)
    | ((with_reducible apply Xm.ite_nbt); · with_reducible assumption)
    | ((with_reducible apply Xm.ite_nbf); · with_reducible assumption)
    | ((with_reducible apply Xm.ex_oo); · with_reducible assumption)
    | ((with_reducible apply Xm.dcv_and); · rfl)
    | ((with_reducible apply Xm.dcc_and); · rfl)
    | with_reducible refine Xm.ex_dct ?_
    | ((with_reducible apply Xm.nop_and); · rfl)
    | ((with_reducible apply Xm.wp_rd); · rfl)
    | ((with_reducible apply Xm.wp_rdo); · rfl)
    | ((with_reducible apply Xm.wp_callQ); · rfl)
    | ((with_reducible apply Xm.wp_ixM); · rfl)
    | ((with_reducible apply Xm.wp_lenM); · rfl)
    | ((with_reducible apply Xm.wp_appM); · rfl)
    | ((with_reducible apply Xm.wp_extM); · rfl)
    | ((with_reducible apply Xm.wp_popM); · rfl)
    | ((with_reducible apply Xm.wp_revM); · rfl)
    | ((with_reducible apply Xm.wp_reprM); · rfl)
    | ((with_reducible apply Xm.wp_retM); · rfl)
    | ((with_reducible apply Xm.wp_retMd); · rfl)
    | ((with_reducible apply Xm.wp_aug); · rfl)
    | ((with_reducible apply Xm.wp_setM); · rfl)
    | ((with_reducible apply Xm.wp_frz); · rfl)
    | ((with_reducible apply Xm.wp_frz2); · rfl)
    | ((with_reducible apply Xm.wp_ixD); · rfl)
    | ((with_reducible apply Xm.wp_getD1); · rfl)
    | ((with_reducible apply Xm.wp_getD2); · rfl)
    | ((with_reducible apply Xm.wp_putD); · rfl)
    | ((with_reducible apply Xm.wp_extN); · rfl)
    | ((with_reducible apply Xm.wp_callD); · rfl)
    | ((with_reducible apply Xm.wp_isaM); · rfl))
  rfl
end K64
set_option Elab.async false
set_option linter.all false
set_option maxRecDepth 100000
set_option maxHeartbeats 4000000
namespace K64
open PySem PySem.Spec PyProof.Rows L2 Xm DwF CrF ExF LxF BoF
abbrev Sh := Nat × List (List D)
def shD (p : Sh) : D := .tuple (p.2.map PyData.tuple)
noncomputable def rtD (p : Sh) : D := .tuple [.int (few p.2 p.1), .list ((bests p.2 p.1).map tc)]
structure ShOk (p : Sh) : Prop where
  c2 : 2 ≤ p.1
  c6 : p.1 ≤ 6
  r1 : 1 ≤ p.2.length
  r12 : p.2.length ≤ 12
  ok : ∀ r ∈ p.2, RowOk p.1 r
theorem rk_1 {i : Nat} (h : i < 6) : Rk 0 1 (.int (i : Int)) := by
  have : i = 0 ∨ i = 1 ∨ i = 2 ∨ i = 3 ∨ i = 4 ∨ i = 5 := by omega
  rcases this with rfl | rfl | rfl | rfl | rfl | rfl <;> exact ⟨by decide +kernel, rfl, Nat.le_refl 0, by decide +kernel⟩
theorem alt_le : ∀ l : List Int, alt l ≤ l.length
  | [] => Nat.le_refl _
  | [_] => Nat.zero_le _
  | x :: y :: l => by
    have := alt_le (y :: l)
    show (if x = y then 0 else 1) + alt (y :: l) ≤ (y :: l).length + 1
    split <;> omega
theorem tot_le {js : List Nat} (hj : js.length ≤ 6) : ∀ rows : List (List D), 0 ≤ tot rows js ∧ tot rows js ≤ 6 * rows.length
  | [] => ⟨Int.le_refl _, Int.le_refl _⟩
  | r :: rows => by
    have ih := tot_le hj rows
    have h1 := alt_le (kn r js)
    have h2 : (kn r js).length ≤ js.length := List.length_filterMap_le _ _
    have e : tot (r :: rows) js = ((alt (kn r js) : Nat) : Int) + tot rows js := by
      unfold tot
      rw [List.map_cons, List.sum_cons]
    rw [e, List.length_cons]
    omega
theorem few_small {p : Sh} (h : ShOk p) : (few p.2 p.1).natAbs < 2 ^ 1900 := by
  obtain ⟨l, hl, e⟩ := few_at (rows := p.2) h.c2 h.c6
  have hp := ((orders_mem h.c6).mp hl).1
  have := tot_le (js := l) (by rw [perm_len hp]; exact h.c6) p.2
  have := h.r12
  rw [← e]
  exact Nat.lt_of_lt_of_le (show (tot p.2 l).natAbs < 128 by omega) (by decide +kernel)
theorem rt_repr {p : Sh} (h : ShOk p) : ∃ z, kRepr (rtD p) = some (.str z) := by
  have hb := bests_len (rows := p.2) h.c6
  have h1 : Rk 2 1073093 (.list ((bests p.2 p.1).map tc)) := (Rk.list (k := 1) (n := 21) fun d hd => by
    obtain ⟨l, hl, rfl⟩ := List.mem_map.mp hd
    have hp := ((bests_mem h.c6).mp hl).1
    have hlen := perm_len hp
    refine (Rk.tuple (k := 0) (n := 1) fun e he => ?_).mono (Nat.le_refl _) (by rw [len_cols, hlen]; have := h.c6; omega)
    obtain ⟨j, hj, rfl⟩ := List.mem_map.mp he
    exact rk_1 (by have := perm_lt hp j hj; have := h.c6; omega)).mono (Nat.le_refl _) (by rw [List.length_map]; omega)
  exact ⟨_, k_reprT ((Rk.tuple (k := 2) (n := 1073093) (ds := [.int (few p.2 p.1), .list ((bests p.2 p.1).map tc)]) fun d hd => by
    rcases List.mem_cons.mp hd with rfl | hd
    · exact (Rk.int (few_small h)).mono (by omega) (by omega)
    · rw [List.mem_singleton.mp hd]; exact h1).mono (Nat.le_refl _) (Nat.le_refl _)) (by omega) (by simp)⟩
theorem wp_revL {f : EF} {st : AS} {QD : D → AS → Prop} (w : Wp f st fun d s1 => ∃ l : List D, d = .list l ∧ QD (.list l.reverse) s1) : Wp (revA f) st QD := by
  obtain ⟨d, s1, e, l, rfl, q⟩ := w
  refine ⟨_, _, ?_, q⟩
  unfold revA
  rw [e]
  rfl
theorem sheets3 {x : Int} (h0 : 0 ≤ x) (h3 : x < 3) : ∃ p, ShOk p ∧ kIx (.list [.tuple [.tuple [.none, .none, .none]], .tuple [.tuple [.int 0, .none, .none, .int 1]], .tuple [.tuple [.int 1, .int 1, .int 1, .int 1], .tuple [.int 0, .int 0, .int 0, .int 0]]]) (.int x) = some (shD p) := by
  have : x = 0 ∨ x = 1 ∨ x = 2 := by omega
  rcases this with rfl | rfl | rfl
  · refine ⟨(3, [[.none, .none, .none]]), ⟨by decide, by decide, by decide, by decide, fun r hr => ?_⟩, ix_l0⟩
    rw [List.mem_singleton.mp hr]
    exact ⟨rfl, fun e he => by simp at he; subst he; exact .inl rfl⟩
  · refine ⟨(4, [[.int 0, .none, .none, .int 1]]), ⟨by decide, by decide, by decide, by decide, fun r hr => ?_⟩, ix_l1⟩
    rw [List.mem_singleton.mp hr]
    refine ⟨rfl, fun e he => ?_⟩
    simp only [List.mem_cons, List.not_mem_nil, or_false] at he
    rcases he with rfl | rfl | rfl | rfl
    · exact .inr (.inl rfl)
    · exact .inl rfl
    · exact .inl rfl
    · exact .inr (.inr rfl)
  · refine ⟨(4, [[.int 1, .int 1, .int 1, .int 1], [.int 0, .int 0, .int 0, .int 0]]), ⟨by decide, by decide, by decide, by decide, fun r hr => ?_⟩, ix_l2⟩
    simp only [List.mem_cons, List.not_mem_nil, or_false] at hr
    rcases hr with rfl | rfl
    · exact ⟨rfl, fun e he => by simp at he; subst he; exact .inr (.inr rfl)⟩
    · exact ⟨rfl, fun e he => by simp at he; subst he; exact .inr (.inl rfl)⟩
noncomputable def bodyS : SF := (clrS [4, 5, 6, 7] (seqS (asgS 6 (un1 kRepr (rd 4))) (seqS (blkR (mfR mf_best_orders) (consA (rd 4) nilA) 7 (orB (valB (bin2 kNe (un1 kRepr (rd 7)) (un1 kRepr (rd 5)))) (valB (bin2 kNe (un1 kRepr (rd 4)) (rd 6))))) (ifS (valB (bin2 kNe (un1 kRepr (rvD (callK mf_best_orders [.inr 0] nilA (consA (rd 4) nilA)))) (un1 kRepr (rd 5)))) (retS (cst (.bool false))) skipS))))
theorem body_ok {SC X : D} {p : Sh} (h : ShOk p) : Wp bodyS [.dat SC, .no, .no, .dat X, .dat (shD p), .dat (rtD p), .no, .no, .no] fun fl s => fl = .nx ∧ s = [.dat SC, .no, .no, .dat X, .no, .no, .no, .no, .no] := by
  have hb := m_best (rows := p.2) (c := p.1) h.ok h.r1 (by have := h.r12; omega) h.c2 h.c6
  change mf_best_orders [shD p] = some (.val (rtD p)) at hb
  have hR : mfR mf_best_orders [shD p] = some (.int (few p.2 p.1), (bests p.2 p.1).map tc) := mfR_of hb
  obtain ⟨z1, k1⟩ := rk_sheet h.ok h.c6 h.r12
  change kRepr (shD p) = _ at k1
  obtain ⟨z2, k2⟩ := rt_repr h
  have hbl := bests_len (rows := p.2) h.c6
  have hsz : ((bests p.2 p.1).map tc).length < sizeLine := by rw [List.length_map, sizeLine_eq]; omega
  have hrt : PyData.tuple [.int (few p.2 p.1), .list ((bests p.2 p.1).map tc)] = rtD p := rfl
  unfold bodyS
  generalize (bests p.2 p.1).map tc = BL at *
  generalize few p.2 p.1 = fw at *
  generalize shD p = T at *
  generalize rtD p = RT at *
  repeat (first
    | with_reducible refine Xm.wp_seq ?_
    | with_reducible refine Xm.wp_asg ?_
    | with_reducible refine Xm.wp_bin2 ?_
    | with_reducible refine Xm.wp_un1 ?_
    | with_reducible refine Xm.wp_consA ?_
    | with_reducible refine Xm.wp_nilA ?_
    | with_reducible refine Xm.wp_cst ?_
    | with_reducible refine Xm.wp_valB ?_
    | with_reducible refine Xm.wp_ifS ?_
    | with_reducible refine Xm.wp_rvD ?_
    | with_reducible refine Xm.wp_rvN ?_
    | with_reducible refine Xm.wp_callP0 ?_
    | with_reducible refine Xm.wp_callP ?_
    | with_reducible refine Xm.wp_callK ?_
    | with_reducible refine Xm.wp_skip ?_
    | with_reducible refine Xm.wp_retS ?_
    | with_reducible refine Xm.wp_retN ?_
    | with_reducible refine Xm.wp_drop ?_
    | with_reducible refine Xm.wp_asgN ?_
    | with_reducible refine Xm.wp_andB ?_
    | with_reducible refine Xm.wp_orB ?_
    | with_reducible refine Xm.wp_notB ?_
    | with_reducible refine Xm.wp_yesB ?_
    | with_reducible refine Xm.wp_boolE ?_
    | with_reducible refine Xm.wp_ifE ?_
    | with_reducible refine Xm.wp_tupF ?_
    | with_reducible refine Xm.wp_lstF ?_
    | with_reducible refine Xm.wp_newF ?_
    | with_reducible refine Xm.wp_listE ?_
    | with_reducible refine Xm.wp_itD ?_
    | with_reducible refine Xm.wp_for ?_
    | with_reducible refine Xm.wp_clr ?_
    | with_reducible refine Xm.wp_par2 ?_
    | with_reducible refine Xm.wp_asgT ?_
    | with_reducible refine Xm.wp_compF ?_
    | with_reducible refine Xm.wp_compR ?_
    | with_reducible refine Xm.wp_itR1 ?_
    | with_reducible refine Xm.wp_cutF ?_
    | with_reducible refine Xm.wp_noO ?_
    | with_reducible refine Xm.wp_someO ?_
    | with_reducible refine Xm.wp_chE ?_
    | with_reducible refine Xm.wp_raise ?_
    | with_reducible refine Xm.wp_retX ?_
    | with_reducible refine Xm.wp_asgX ?_
    | with_reducible refine Xm.wp_dropX ?_
    | with_reducible refine Xm.wp_try ?_
    | with_reducible refine Xm.wp_itK ?_
    | with_reducible refine Xm.wp_itEnum ?_
    | with_reducible refine Xm.wp_asgM ?_
    | with_reducible refine Xm.wp_dicE ?_
    | with_reducible refine Xm.wp_bN ?_
    | with_reducible refine Xm.wp_itEnumA ?_
    | with_reducible refine Xm.wp_rvM ?_
    | with_reducible refine Xm.wp_retD ?_
    | with_reducible refine Xm.wp_compM ?_
    | with_reducible refine Xm.ite_tt ?_
    | with_reducible refine Xm.ite_ff ?_
    | with_reducible refine Xm.ite_nt ?_
    | with_reducible refine Xm.ite_nf ?_
    | with_reducible refine Xm.ite_nes ?_
    | with_reducible refine Xm.ite_eqs ?_
    | with_reducible refine Xm.ite_nei ?_
    | with_reducible refine Xm.ite_eqi ?_
    | with_reducible refine Xm.ex_le ?_
    | with_reducible refine Xm.ex_lt ?_
    | with_reducible refine Xm.ex_bool ?_
    | with_reducible refine Xm.ex_new ?_
    | with_reducible refine Xm.ex_int ?_
    | with_reducible refine Xm.ex_of Xm.k_cat ?_
    | with_reducible refine Xm.ex_of Xm.k_sub ?_
    | with_reducible refine Xm.ex_of Xm.k_lt ?_
    | with_reducible refine Xm.ex_of Xm.k_le ?_
    | with_reducible refine Xm.ex_of Xm.k_gt ?_
    | with_reducible refine Xm.ex_of Xm.k_ge ?_
    | with_reducible refine Xm.ex_of Xm.k_eqI ?_
    | with_reducible refine Xm.ex_of Xm.k_neI ?_
    | with_reducible refine Xm.ex_of Xm.k_eqStr ?_
    | with_reducible refine Xm.ex_of Xm.k_neStr ?_
    | with_reducible refine Xm.ex_of Xm.k_neg ?_
    | with_reducible refine Xm.ex_of Xm.k_abs ?_
    | with_reducible refine Xm.ex_of Xm.k_lenL ?_
    | with_reducible refine Xm.ex_of Xm.k_lenT ?_
    | with_reducible refine Xm.ex_of Xm.k_list ?_
    | with_reducible refine Xm.ex_of Xm.k_listT ?_
    | with_reducible refine Xm.ex_of Xm.k_tupL ?_
    | with_reducible refine Xm.ex_of Xm.k_tupT ?_
    | with_reducible refine Xm.ex_of Xm.k_intB ?_
    | with_reducible refine Xm.ex_of Xm.ix_t0 ?_
    | with_reducible refine Xm.ex_of Xm.ix_t1 ?_
    | with_reducible refine Xm.ex_of Xm.ix_t2 ?_
    | with_reducible refine Xm.ex_of Xm.ix_l0 ?_
    | with_reducible refine Xm.ex_of Xm.ix_l1 ?_
    | with_reducible refine Xm.ex_of Xm.ix_l2 ?_
    | with_reducible refine Xm.ex_of Xm.k_isa ?_
    | with_reducible refine Xm.ex_of Xm.k_cutL ?_
    | with_reducible refine Xm.ex_of Xm.k_cutT ?_
    | with_reducible refine Xm.ex_of Xm.ix_sh0 ?_
    | with_reducible refine Xm.ex_of Xm.ix_sh1 ?_
    | with_reducible refine Xm.ex_of (Xm.k_eqS _ _) ?_
    | ((with_reducible apply Xm.ex_of); · with_reducible assumption)
    | ((with_reducible apply Xm.ex_arr); · (simp only [arr, List.map_cons, List.map_nil, List.getD_cons_zero, List.getD_cons_succ]; rfl))
    | ((with_reducible apply Xm.np_and); · rfl)
    | ((with_reducible apply Xm.np_and); · (show npB _ = true; with_reducible assumption))
    | ((with_reducible apply Xm.len_and); · exact Nat.le_of_ble_eq_true rfl)
    | ((with_reducible apply Xm.mu_and); · rfl)
    | ((with_reducible apply Xm.ite_t); · with_reducible assumption)
    | ((with_reducible apply Xm.ite_f); · with_reducible assumption)
    | ((with_reducible apply Xm.ite_nbt); · with_reducible assumption)
    | ((with_reducible apply Xm.ite_nbf); · with_reducible assumption)
    | ((with_reducible apply Xm.ex_oo); · with_reducible assumption)
    | ((with_reducible apply Xm.dcv_and); · rfl)
    | ((with_reducible apply Xm.dcc_and); · rfl)
    | with_reducible refine Xm.ex_dct ?_
    | ((with_reducible apply Xm.nop_and); · rfl)
    | ((with_reducible apply Xm.wp_rd); · rfl)
    | ((with_reducible apply Xm.wp_rdo); · rfl)
    | ((with_reducible apply Xm.wp_callQ); · rfl)
    | ((with_reducible apply Xm.wp_ixM); · rfl)
    | ((with_reducible apply Xm.wp_lenM); · rfl)
    | ((with_reducible apply Xm.wp_appM); · rfl)
    | ((with_reducible apply Xm.wp_extM); · rfl)
    | ((with_reducible apply Xm.wp_popM); · rfl)
    | ((with_reducible apply Xm.wp_revM); · rfl)
    | ((with_reducible apply Xm.wp_reprM); · rfl)
    | ((with_reducible apply Xm.wp_retM); · rfl)
    | ((with_reducible apply Xm.wp_retMd); · rfl)
    | ((with_reducible apply Xm.wp_aug); · rfl)
    | ((with_reducible apply Xm.wp_setM); · rfl)
    | ((with_reducible apply Xm.wp_frz); · rfl)
    | ((with_reducible apply Xm.wp_frz2); · rfl)
    | ((with_reducible apply Xm.wp_ixD); · rfl)
    | ((with_reducible apply Xm.wp_getD1); · rfl)
    | ((with_reducible apply Xm.wp_getD2); · rfl)
    | ((with_reducible apply Xm.wp_putD); · rfl)
    | ((with_reducible apply Xm.wp_extN); · rfl)
    | ((with_reducible apply Xm.wp_callD); · rfl)
    | ((with_reducible apply Xm.wp_isaM); · rfl))
  refine wp_blkR ?_
  repeat (first
    | with_reducible refine Xm.wp_seq ?_
    | with_reducible refine Xm.wp_asg ?_
    | with_reducible refine Xm.wp_bin2 ?_
    | with_reducible refine Xm.wp_un1 ?_
    | with_reducible refine Xm.wp_consA ?_
    | with_reducible refine Xm.wp_nilA ?_
    | with_reducible refine Xm.wp_cst ?_
    | with_reducible refine Xm.wp_valB ?_
    | with_reducible refine Xm.wp_ifS ?_
    | with_reducible refine Xm.wp_rvD ?_
    | with_reducible refine Xm.wp_rvN ?_
    | with_reducible refine Xm.wp_callP0 ?_
    | with_reducible refine Xm.wp_callP ?_
    | with_reducible refine Xm.wp_callK ?_
    | with_reducible refine Xm.wp_skip ?_
    | with_reducible refine Xm.wp_retS ?_
    | with_reducible refine Xm.wp_retN ?_
    | with_reducible refine Xm.wp_drop ?_
    | with_reducible refine Xm.wp_asgN ?_
    | with_reducible refine Xm.wp_andB ?_
    | with_reducible refine Xm.wp_orB ?_
    | with_reducible refine Xm.wp_notB ?_
    | with_reducible refine Xm.wp_yesB ?_
    | with_reducible refine Xm.wp_boolE ?_
    | with_reducible refine Xm.wp_ifE ?_
    | with_reducible refine Xm.wp_tupF ?_
    | with_reducible refine Xm.wp_lstF ?_
    | with_reducible refine Xm.wp_newF ?_
    | with_reducible refine Xm.wp_listE ?_
    | with_reducible refine Xm.wp_itD ?_
    | with_reducible refine Xm.wp_for ?_
    | with_reducible refine Xm.wp_clr ?_
    | with_reducible refine Xm.wp_par2 ?_
    | with_reducible refine Xm.wp_asgT ?_
    | with_reducible refine Xm.wp_compF ?_
    | with_reducible refine Xm.wp_compR ?_
    | with_reducible refine Xm.wp_itR1 ?_
    | with_reducible refine Xm.wp_cutF ?_
    | with_reducible refine Xm.wp_noO ?_
    | with_reducible refine Xm.wp_someO ?_
    | with_reducible refine Xm.wp_chE ?_
    | with_reducible refine Xm.wp_raise ?_
    | with_reducible refine Xm.wp_retX ?_
    | with_reducible refine Xm.wp_asgX ?_
    | with_reducible refine Xm.wp_dropX ?_
    | with_reducible refine Xm.wp_try ?_
    | with_reducible refine Xm.wp_itK ?_
    | with_reducible refine Xm.wp_itEnum ?_
    | with_reducible refine Xm.wp_asgM ?_
    | with_reducible refine Xm.wp_dicE ?_
    | with_reducible refine Xm.wp_bN ?_
    | with_reducible refine Xm.wp_itEnumA ?_
    | with_reducible refine Xm.wp_rvM ?_
    | with_reducible refine Xm.wp_retD ?_
    | with_reducible refine Xm.wp_compM ?_
    | with_reducible refine Xm.ite_tt ?_
    | with_reducible refine Xm.ite_ff ?_
    | with_reducible refine Xm.ite_nt ?_
    | with_reducible refine Xm.ite_nf ?_
    | with_reducible refine Xm.ite_nes ?_
    | with_reducible refine Xm.ite_eqs ?_
    | with_reducible refine Xm.ite_nei ?_
    | with_reducible refine Xm.ite_eqi ?_
    | with_reducible refine Xm.ex_le ?_
    | with_reducible refine Xm.ex_lt ?_
    | with_reducible refine Xm.ex_bool ?_
    | with_reducible refine Xm.ex_new ?_
    | with_reducible refine Xm.ex_int ?_
    | with_reducible refine Xm.ex_of Xm.k_cat ?_
    | with_reducible refine Xm.ex_of Xm.k_sub ?_
    | with_reducible refine Xm.ex_of Xm.k_lt ?_
    | with_reducible refine Xm.ex_of Xm.k_le ?_
    | with_reducible refine Xm.ex_of Xm.k_gt ?_
    | with_reducible refine Xm.ex_of Xm.k_ge ?_
    | with_reducible refine Xm.ex_of Xm.k_eqI ?_
    | with_reducible refine Xm.ex_of Xm.k_neI ?_
    | with_reducible refine Xm.ex_of Xm.k_eqStr ?_
    | with_reducible refine Xm.ex_of Xm.k_neStr ?_
    | with_reducible refine Xm.ex_of Xm.k_neg ?_
    | with_reducible refine Xm.ex_of Xm.k_abs ?_
    | with_reducible refine Xm.ex_of Xm.k_lenL ?_
    | with_reducible refine Xm.ex_of Xm.k_lenT ?_
    | with_reducible refine Xm.ex_of Xm.k_list ?_
    | with_reducible refine Xm.ex_of Xm.k_listT ?_
    | with_reducible refine Xm.ex_of Xm.k_tupL ?_
    | with_reducible refine Xm.ex_of Xm.k_tupT ?_
    | with_reducible refine Xm.ex_of Xm.k_intB ?_
    | with_reducible refine Xm.ex_of Xm.ix_t0 ?_
    | with_reducible refine Xm.ex_of Xm.ix_t1 ?_
    | with_reducible refine Xm.ex_of Xm.ix_t2 ?_
    | with_reducible refine Xm.ex_of Xm.ix_l0 ?_
    | with_reducible refine Xm.ex_of Xm.ix_l1 ?_
    | with_reducible refine Xm.ex_of Xm.ix_l2 ?_
    | with_reducible refine Xm.ex_of Xm.k_isa ?_
    | with_reducible refine Xm.ex_of Xm.k_cutL ?_
    | with_reducible refine Xm.ex_of Xm.k_cutT ?_
    | with_reducible refine Xm.ex_of Xm.ix_sh0 ?_
    | with_reducible refine Xm.ex_of Xm.ix_sh1 ?_
    | with_reducible refine Xm.ex_of (Xm.k_eqS _ _) ?_
    | ((with_reducible apply Xm.ex_of); · with_reducible assumption)
    | ((with_reducible apply Xm.ex_arr); · (simp only [arr, List.map_cons, List.map_nil, List.getD_cons_zero, List.getD_cons_succ]; rfl))
    | ((with_reducible apply Xm.np_and); · rfl)
    | ((with_reducible apply Xm.np_and); · (show npB _ = true; with_reducible assumption))
    | ((with_reducible apply Xm.len_and); · exact Nat.le_of_ble_eq_true rfl)
    | ((with_reducible apply Xm.mu_and); · rfl)
    | ((with_reducible apply Xm.ite_t); · with_reducible assumption)
    | ((with_reducible apply Xm.ite_f); · with_reducible assumption)
    | ((with_reducible apply Xm.ite_nbt); · with_reducible assumption)
    | ((with_reducible apply Xm.ite_nbf); · with_reducible assumption)
    | ((with_reducible apply Xm.ex_oo); · with_reducible assumption)
    | ((with_reducible apply Xm.dcv_and); · rfl)
    | ((with_reducible apply Xm.dcc_and); · rfl)
    | with_reducible refine Xm.ex_dct ?_
    | ((with_reducible apply Xm.nop_and); · rfl)
    | ((with_reducible apply Xm.wp_rd); · rfl)
    | ((with_reducible apply Xm.wp_rdo); · rfl)
    | ((with_reducible apply Xm.wp_callQ); · rfl)
    | ((with_reducible apply Xm.wp_ixM); · rfl)
    | ((with_reducible apply Xm.wp_lenM); · rfl)
    | ((with_reducible apply Xm.wp_appM); · rfl)
    | ((with_reducible apply Xm.wp_extM); · rfl)
    | ((with_reducible apply Xm.wp_popM); · rfl)
    | ((with_reducible apply Xm.wp_revM); · rfl)
    | ((with_reducible apply Xm.wp_reprM); · rfl)
    | ((with_reducible apply Xm.wp_retM); · rfl)
    | ((with_reducible apply Xm.wp_retMd); · rfl)
    | ((with_reducible apply Xm.wp_aug); · rfl)
    | ((with_reducible apply Xm.wp_setM); · rfl)
    | ((with_reducible apply Xm.wp_frz); · rfl)
    | ((with_reducible apply Xm.wp_frz2); · rfl)
    | ((with_reducible apply Xm.wp_ixD); · rfl)
    | ((with_reducible apply Xm.wp_getD1); · rfl)
    | ((with_reducible apply Xm.wp_getD2); · rfl)
    | ((with_reducible apply Xm.wp_putD); · rfl)
    | ((with_reducible apply Xm.wp_extN); · rfl)
    | ((with_reducible apply Xm.wp_callD); · rfl)
    | ((with_reducible apply Xm.wp_isaM); · rfl))
  refine ⟨rfl, by show 7 < 9; omega, hsz, ?_⟩
  show Wp _ [.dat SC, .no, .no, .dat X, .dat T, .dat RT, .dat (.str z1), .dat (.tuple [.int fw, .list BL]), .no] _
  rw [hrt]
  repeat (first
    | with_reducible refine Xm.wp_seq ?_
    | with_reducible refine Xm.wp_asg ?_
    | with_reducible refine Xm.wp_bin2 ?_
    | with_reducible refine Xm.wp_un1 ?_
    | with_reducible refine Xm.wp_consA ?_
    | with_reducible refine Xm.wp_nilA ?_
    | with_reducible refine Xm.wp_cst ?_
    | with_reducible refine Xm.wp_valB ?_
    | with_reducible refine Xm.wp_ifS ?_
    | with_reducible refine Xm.wp_rvD ?_
    | with_reducible refine Xm.wp_rvN ?_
    | with_reducible refine Xm.wp_callP0 ?_
    | with_reducible refine Xm.wp_callP ?_
    | with_reducible refine Xm.wp_callK ?_
    | with_reducible refine Xm.wp_skip ?_
    | with_reducible refine Xm.wp_retS ?_
    | with_reducible refine Xm.wp_retN ?_
    | with_reducible refine Xm.wp_drop ?_
    | with_reducible refine Xm.wp_asgN ?_
    | with_reducible refine Xm.wp_andB ?_
    | with_reducible refine Xm.wp_orB ?_
    | with_reducible refine Xm.wp_notB ?_
    | with_reducible refine Xm.wp_yesB ?_
    | with_reducible refine Xm.wp_boolE ?_
    | with_reducible refine Xm.wp_ifE ?_
    | with_reducible refine Xm.wp_tupF ?_
    | with_reducible refine Xm.wp_lstF ?_
    | with_reducible refine Xm.wp_newF ?_
    | with_reducible refine Xm.wp_listE ?_
    | with_reducible refine Xm.wp_itD ?_
    | with_reducible refine Xm.wp_for ?_
    | with_reducible refine Xm.wp_clr ?_
    | with_reducible refine Xm.wp_par2 ?_
    | with_reducible refine Xm.wp_asgT ?_
    | with_reducible refine Xm.wp_compF ?_
    | with_reducible refine Xm.wp_compR ?_
    | with_reducible refine Xm.wp_itR1 ?_
    | with_reducible refine Xm.wp_cutF ?_
    | with_reducible refine Xm.wp_noO ?_
    | with_reducible refine Xm.wp_someO ?_
    | with_reducible refine Xm.wp_chE ?_
    | with_reducible refine Xm.wp_raise ?_
    | with_reducible refine Xm.wp_retX ?_
    | with_reducible refine Xm.wp_asgX ?_
    | with_reducible refine Xm.wp_dropX ?_
    | with_reducible refine Xm.wp_try ?_
    | with_reducible refine Xm.wp_itK ?_
    | with_reducible refine Xm.wp_itEnum ?_
    | with_reducible refine Xm.wp_asgM ?_
    | with_reducible refine Xm.wp_dicE ?_
    | with_reducible refine Xm.wp_bN ?_
    | with_reducible refine Xm.wp_itEnumA ?_
    | with_reducible refine Xm.wp_rvM ?_
    | with_reducible refine Xm.wp_retD ?_
    | with_reducible refine Xm.wp_compM ?_
    | with_reducible refine Xm.ite_tt ?_
    | with_reducible refine Xm.ite_ff ?_
    | with_reducible refine Xm.ite_nt ?_
    | with_reducible refine Xm.ite_nf ?_
    | with_reducible refine Xm.ite_nes ?_
    | with_reducible refine Xm.ite_eqs ?_
    | with_reducible refine Xm.ite_nei ?_
    | with_reducible refine Xm.ite_eqi ?_
    | with_reducible refine Xm.ex_le ?_
    | with_reducible refine Xm.ex_lt ?_
    | with_reducible refine Xm.ex_bool ?_
    | with_reducible refine Xm.ex_new ?_
    | with_reducible refine Xm.ex_int ?_
    | with_reducible refine Xm.ex_of Xm.k_cat ?_
    | with_reducible refine Xm.ex_of Xm.k_sub ?_
    | with_reducible refine Xm.ex_of Xm.k_lt ?_
    | with_reducible refine Xm.ex_of Xm.k_le ?_
    | with_reducible refine Xm.ex_of Xm.k_gt ?_
    | with_reducible refine Xm.ex_of Xm.k_ge ?_
    | with_reducible refine Xm.ex_of Xm.k_eqI ?_
    | with_reducible refine Xm.ex_of Xm.k_neI ?_
    | with_reducible refine Xm.ex_of Xm.k_eqStr ?_
    | with_reducible refine Xm.ex_of Xm.k_neStr ?_
    | with_reducible refine Xm.ex_of Xm.k_neg ?_
    | with_reducible refine Xm.ex_of Xm.k_abs ?_
    | with_reducible refine Xm.ex_of Xm.k_lenL ?_
    | with_reducible refine Xm.ex_of Xm.k_lenT ?_
    | with_reducible refine Xm.ex_of Xm.k_list ?_
    | with_reducible refine Xm.ex_of Xm.k_listT ?_
    | with_reducible refine Xm.ex_of Xm.k_tupL ?_
    | with_reducible refine Xm.ex_of Xm.k_tupT ?_
    | with_reducible refine Xm.ex_of Xm.k_intB ?_
    | with_reducible refine Xm.ex_of Xm.ix_t0 ?_
    | with_reducible refine Xm.ex_of Xm.ix_t1 ?_
    | with_reducible refine Xm.ex_of Xm.ix_t2 ?_
    | with_reducible refine Xm.ex_of Xm.ix_l0 ?_
    | with_reducible refine Xm.ex_of Xm.ix_l1 ?_
    | with_reducible refine Xm.ex_of Xm.ix_l2 ?_
    | with_reducible refine Xm.ex_of Xm.k_isa ?_
    | with_reducible refine Xm.ex_of Xm.k_cutL ?_
    | with_reducible refine Xm.ex_of Xm.k_cutT ?_
    | with_reducible refine Xm.ex_of Xm.ix_sh0 ?_
    | with_reducible refine Xm.ex_of Xm.ix_sh1 ?_
    | with_reducible refine Xm.ex_of (Xm.k_eqS _ _) ?_
    | ((with_reducible apply Xm.ex_of); · with_reducible assumption)
    | ((with_reducible apply Xm.ex_arr); · (simp only [arr, List.map_cons, List.map_nil, List.getD_cons_zero, List.getD_cons_succ]; rfl))
    | ((with_reducible apply Xm.np_and); · rfl)
    | ((with_reducible apply Xm.np_and); · (show npB _ = true; with_reducible assumption))
    | ((with_reducible apply Xm.len_and); · exact Nat.le_of_ble_eq_true rfl)
    | ((with_reducible apply Xm.mu_and); · rfl)
    | ((with_reducible apply Xm.ite_t); · with_reducible assumption)
    | ((with_reducible apply Xm.ite_f); · with_reducible assumption)
    | ((with_reducible apply Xm.ite_nbt); · with_reducible assumption)
    | ((with_reducible apply Xm.ite_nbf); · with_reducible assumption)
    | ((with_reducible apply Xm.ex_oo); · with_reducible assumption)
    | ((with_reducible apply Xm.dcv_and); · rfl)
    | ((with_reducible apply Xm.dcc_and); · rfl)
    | with_reducible refine Xm.ex_dct ?_
    | ((with_reducible apply Xm.nop_and); · rfl)
    | ((with_reducible apply Xm.wp_rd); · rfl)
    | ((with_reducible apply Xm.wp_rdo); · rfl)
    | ((with_reducible apply Xm.wp_callQ); · rfl)
    | ((with_reducible apply Xm.wp_ixM); · rfl)
    | ((with_reducible apply Xm.wp_lenM); · rfl)
    | ((with_reducible apply Xm.wp_appM); · rfl)
    | ((with_reducible apply Xm.wp_extM); · rfl)
    | ((with_reducible apply Xm.wp_popM); · rfl)
    | ((with_reducible apply Xm.wp_revM); · rfl)
    | ((with_reducible apply Xm.wp_reprM); · rfl)
    | ((with_reducible apply Xm.wp_retM); · rfl)
    | ((with_reducible apply Xm.wp_retMd); · rfl)
    | ((with_reducible apply Xm.wp_aug); · rfl)
    | ((with_reducible apply Xm.wp_setM); · rfl)
    | ((with_reducible apply Xm.wp_frz); · rfl)
    | ((with_reducible apply Xm.wp_frz2); · rfl)
    | ((with_reducible apply Xm.wp_ixD); · rfl)
    | ((with_reducible apply Xm.wp_getD1); · rfl)
    | ((with_reducible apply Xm.wp_getD2); · rfl)
    | ((with_reducible apply Xm.wp_putD); · rfl)
    | ((with_reducible apply Xm.wp_extN); · rfl)
    | ((with_reducible apply Xm.wp_callD); · rfl)
    | ((with_reducible apply Xm.wp_isaM); · rfl))
  refine ⟨by simp, ?_⟩
  repeat (first
    | with_reducible refine Xm.wp_seq ?_
    | with_reducible refine Xm.wp_asg ?_
    | with_reducible refine Xm.wp_bin2 ?_
    | with_reducible refine Xm.wp_un1 ?_
    | with_reducible refine Xm.wp_consA ?_
    | with_reducible refine Xm.wp_nilA ?_
    | with_reducible refine Xm.wp_cst ?_
    | with_reducible refine Xm.wp_valB ?_
    | with_reducible refine Xm.wp_ifS ?_
    | with_reducible refine Xm.wp_rvD ?_
    | with_reducible refine Xm.wp_rvN ?_
    | with_reducible refine Xm.wp_callP0 ?_
    | with_reducible refine Xm.wp_callP ?_
    | with_reducible refine Xm.wp_callK ?_
    | with_reducible refine Xm.wp_skip ?_
    | with_reducible refine Xm.wp_retS ?_
    | with_reducible refine Xm.wp_retN ?_
    | with_reducible refine Xm.wp_drop ?_
    | with_reducible refine Xm.wp_asgN ?_
    | with_reducible refine Xm.wp_andB ?_
    | with_reducible refine Xm.wp_orB ?_
    | with_reducible refine Xm.wp_notB ?_
    | with_reducible refine Xm.wp_yesB ?_
    | with_reducible refine Xm.wp_boolE ?_
    | with_reducible refine Xm.wp_ifE ?_
    | with_reducible refine Xm.wp_tupF ?_
    | with_reducible refine Xm.wp_lstF ?_
    | with_reducible refine Xm.wp_newF ?_
    | with_reducible refine Xm.wp_listE ?_
    | with_reducible refine Xm.wp_itD ?_
    | with_reducible refine Xm.wp_for ?_
    | with_reducible refine Xm.wp_clr ?_
    | with_reducible refine Xm.wp_par2 ?_
    | with_reducible refine Xm.wp_asgT ?_
    | with_reducible refine Xm.wp_compF ?_
    | with_reducible refine Xm.wp_compR ?_
    | with_reducible refine Xm.wp_itR1 ?_
    | with_reducible refine Xm.wp_cutF ?_
    | with_reducible refine Xm.wp_noO ?_
    | with_reducible refine Xm.wp_someO ?_
    | with_reducible refine Xm.wp_chE ?_
    | with_reducible refine Xm.wp_raise ?_
    | with_reducible refine Xm.wp_retX ?_
    | with_reducible refine Xm.wp_asgX ?_
    | with_reducible refine Xm.wp_dropX ?_
    | with_reducible refine Xm.wp_try ?_
    | with_reducible refine Xm.wp_itK ?_
    | with_reducible refine Xm.wp_itEnum ?_
    | with_reducible refine Xm.wp_asgM ?_
    | with_reducible refine Xm.wp_dicE ?_
    | with_reducible refine Xm.wp_bN ?_
    | with_reducible refine Xm.wp_itEnumA ?_
    | with_reducible refine Xm.wp_rvM ?_
    | with_reducible refine Xm.wp_retD ?_
    | with_reducible refine Xm.wp_compM ?_
    | with_reducible refine Xm.ite_tt ?_
    | with_reducible refine Xm.ite_ff ?_
    | with_reducible refine Xm.ite_nt ?_
    | with_reducible refine Xm.ite_nf ?_
    | with_reducible refine Xm.ite_nes ?_
    | with_reducible refine Xm.ite_eqs ?_
    | with_reducible refine Xm.ite_nei ?_
    | with_reducible refine Xm.ite_eqi ?_
    | with_reducible refine Xm.ex_le ?_
    | with_reducible refine Xm.ex_lt ?_
    | with_reducible refine Xm.ex_bool ?_
    | with_reducible refine Xm.ex_new ?_
    | with_reducible refine Xm.ex_int ?_
    | with_reducible refine Xm.ex_of Xm.k_cat ?_
    | with_reducible refine Xm.ex_of Xm.k_sub ?_
    | with_reducible refine Xm.ex_of Xm.k_lt ?_
    | with_reducible refine Xm.ex_of Xm.k_le ?_
    | with_reducible refine Xm.ex_of Xm.k_gt ?_
    | with_reducible refine Xm.ex_of Xm.k_ge ?_
    | with_reducible refine Xm.ex_of Xm.k_eqI ?_
    | with_reducible refine Xm.ex_of Xm.k_neI ?_
    | with_reducible refine Xm.ex_of Xm.k_eqStr ?_
    | with_reducible refine Xm.ex_of Xm.k_neStr ?_
    | with_reducible refine Xm.ex_of Xm.k_neg ?_
    | with_reducible refine Xm.ex_of Xm.k_abs ?_
    | with_reducible refine Xm.ex_of Xm.k_lenL ?_
    | with_reducible refine Xm.ex_of Xm.k_lenT ?_
    | with_reducible refine Xm.ex_of Xm.k_list ?_
    | with_reducible refine Xm.ex_of Xm.k_listT ?_
    | with_reducible refine Xm.ex_of Xm.k_tupL ?_
    | with_reducible refine Xm.ex_of Xm.k_tupT ?_
    | with_reducible refine Xm.ex_of Xm.k_intB ?_
    | with_reducible refine Xm.ex_of Xm.ix_t0 ?_
    | with_reducible refine Xm.ex_of Xm.ix_t1 ?_
    | with_reducible refine Xm.ex_of Xm.ix_t2 ?_
    | with_reducible refine Xm.ex_of Xm.ix_l0 ?_
    | with_reducible refine Xm.ex_of Xm.ix_l1 ?_
    | with_reducible refine Xm.ex_of Xm.ix_l2 ?_
    | with_reducible refine Xm.ex_of Xm.k_isa ?_
    | with_reducible refine Xm.ex_of Xm.k_cutL ?_
    | with_reducible refine Xm.ex_of Xm.k_cutT ?_
    | with_reducible refine Xm.ex_of Xm.ix_sh0 ?_
    | with_reducible refine Xm.ex_of Xm.ix_sh1 ?_
    | with_reducible refine Xm.ex_of (Xm.k_eqS _ _) ?_
    | ((with_reducible apply Xm.ex_of); · with_reducible assumption)
    | ((with_reducible apply Xm.ex_arr); · (simp only [arr, List.map_cons, List.map_nil, List.getD_cons_zero, List.getD_cons_succ]; rfl))
    | ((with_reducible apply Xm.np_and); · rfl)
    | ((with_reducible apply Xm.np_and); · (show npB _ = true; with_reducible assumption))
    | ((with_reducible apply Xm.len_and); · exact Nat.le_of_ble_eq_true rfl)
    | ((with_reducible apply Xm.mu_and); · rfl)
    | ((with_reducible apply Xm.ite_t); · with_reducible assumption)
    | ((with_reducible apply Xm.ite_f); · with_reducible assumption)
    | ((with_reducible apply Xm.ite_nbt); · with_reducible assumption)
    | ((with_reducible apply Xm.ite_nbf); · with_reducible assumption)
    | ((with_reducible apply Xm.ex_oo); · with_reducible assumption)
    | ((with_reducible apply Xm.dcv_and); · rfl)
    | ((with_reducible apply Xm.dcc_and); · rfl)
    | with_reducible refine Xm.ex_dct ?_
    | ((with_reducible apply Xm.nop_and); · rfl)
    | ((with_reducible apply Xm.wp_rd); · rfl)
    | ((with_reducible apply Xm.wp_rdo); · rfl)
    | ((with_reducible apply Xm.wp_callQ); · rfl)
    | ((with_reducible apply Xm.wp_ixM); · rfl)
    | ((with_reducible apply Xm.wp_lenM); · rfl)
    | ((with_reducible apply Xm.wp_appM); · rfl)
    | ((with_reducible apply Xm.wp_extM); · rfl)
    | ((with_reducible apply Xm.wp_popM); · rfl)
    | ((with_reducible apply Xm.wp_revM); · rfl)
    | ((with_reducible apply Xm.wp_reprM); · rfl)
    | ((with_reducible apply Xm.wp_retM); · rfl)
    | ((with_reducible apply Xm.wp_retMd); · rfl)
    | ((with_reducible apply Xm.wp_aug); · rfl)
    | ((with_reducible apply Xm.wp_setM); · rfl)
    | ((with_reducible apply Xm.wp_frz); · rfl)
    | ((with_reducible apply Xm.wp_frz2); · rfl)
    | ((with_reducible apply Xm.wp_ixD); · rfl)
    | ((with_reducible apply Xm.wp_getD1); · rfl)
    | ((with_reducible apply Xm.wp_getD2); · rfl)
    | ((with_reducible apply Xm.wp_putD); · rfl)
    | ((with_reducible apply Xm.wp_extN); · rfl)
    | ((with_reducible apply Xm.wp_callD); · rfl)
    | ((with_reducible apply Xm.wp_isaM); · rfl))
  exact ⟨rfl, rfl⟩
theorem law_true : ∀ ns : List Int, ns.length ≤ 63 → (∀ z ∈ ns, Builtin.Int.intBits z ≤ 1048576) → mf_law [.list (ns.map PyData.int)] = some (.val (.bool true)) := by
  intro ns _ _
  have hpen := pen0 ns
  have e1 := m_law_pen (ns.map PyData.int)
  generalize ([.list (cutX (ns.map PyData.int) none (some 63)), .int 0, .int 0] : List D) = X0 at hpen e1
  generalize PyData.list (ns.map PyData.int) = SC at e1
  refine runP_wp ?_
  have law_is : g_law = (seqS (asgN 1 (rvN (callP mf_law_pen [] (consA (rd 0) nilA)))) (seqS (asgN 2 (compF (itR1 (cst (.int 2))) (setD 8) yesB (rvD (callQ mq_law_rows 1 (consA (bin2 kIx (lstF (consA (cst (.int 5)) (consA (cst (.int 12)) nilA))) (rd 8)) nilA))) [8])) (seqS (dropS (appM 2 (bin2 kIx (lstF (consA (tupF (consA (tupF (consA (cst .none) (consA (cst .none) (consA (cst .none) nilA)))) nilA)) (consA (tupF (consA (tupF (consA (cst (.int 0)) (consA (cst .none) (consA (cst .none) (consA (cst (.int 1)) nilA))))) nilA)) (consA (tupF (consA (tupF (consA (cst (.int 1)) (consA (cst (.int 1)) (consA (cst (.int 1)) (consA (cst (.int 1)) nilA))))) (consA (tupF (consA (cst (.int 0)) (consA (cst (.int 0)) (consA (cst (.int 0)) (consA (cst (.int 0)) nilA))))) nilA))) nilA)))) (rvD (callQ mq_law_pick 1 (consA (cst (.int 3)) nilA)))))) (seqS (clrS [1, 2] (asgS 3 (listE (compR (itD (rd 2)) (setD 4) yesB (tupF (consA (rd 4) (consA (rvD (callP mf_law_best [] (consA (rd 4) nilA))) nilA))) [4])))) (seqS (forS (itD (bin2 kCat (rd 3) (revA (rd 3)))) (tupT 2 (consT (setD 4) (consT (setD 5) nilT))) bodyS) (retS (cst (.bool true)))))))) := rfl
  rw [law_is]
  have hbody := fun {SC X p} h => body_ok (SC := SC) (X := X) (p := p) h
  generalize bodyS = BS at *
  repeat (first
    | with_reducible refine Xm.wp_seq ?_
    | with_reducible refine Xm.wp_asg ?_
    | with_reducible refine Xm.wp_bin2 ?_
    | with_reducible refine Xm.wp_un1 ?_
    | with_reducible refine Xm.wp_consA ?_
    | with_reducible refine Xm.wp_nilA ?_
    | with_reducible refine Xm.wp_cst ?_
    | with_reducible refine Xm.wp_valB ?_
    | with_reducible refine Xm.wp_ifS ?_
    | with_reducible refine Xm.wp_rvD ?_
    | with_reducible refine Xm.wp_rvN ?_
    | with_reducible refine Xm.wp_callP0 ?_
    | with_reducible refine Xm.wp_callP ?_
    | with_reducible refine Xm.wp_callK ?_
    | with_reducible refine Xm.wp_skip ?_
    | with_reducible refine Xm.wp_retS ?_
    | with_reducible refine Xm.wp_retN ?_
    | with_reducible refine Xm.wp_drop ?_
    | with_reducible refine Xm.wp_asgN ?_
    | with_reducible refine Xm.wp_andB ?_
    | with_reducible refine Xm.wp_orB ?_
    | with_reducible refine Xm.wp_notB ?_
    | with_reducible refine Xm.wp_yesB ?_
    | with_reducible refine Xm.wp_boolE ?_
    | with_reducible refine Xm.wp_ifE ?_
    | with_reducible refine Xm.wp_tupF ?_
    | with_reducible refine Xm.wp_lstF ?_
    | with_reducible refine Xm.wp_newF ?_
    | with_reducible refine Xm.wp_listE ?_
    | with_reducible refine Xm.wp_itD ?_
    | with_reducible refine Xm.wp_for ?_
    | with_reducible refine Xm.wp_clr ?_
    | with_reducible refine Xm.wp_par2 ?_
    | with_reducible refine Xm.wp_asgT ?_
    | with_reducible refine Xm.wp_compF ?_
    | with_reducible refine Xm.wp_compR ?_
    | with_reducible refine Xm.wp_itR1 ?_
    | with_reducible refine Xm.wp_cutF ?_
    | with_reducible refine Xm.wp_noO ?_
    | with_reducible refine Xm.wp_someO ?_
    | with_reducible refine Xm.wp_chE ?_
    | with_reducible refine Xm.wp_raise ?_
    | with_reducible refine Xm.wp_retX ?_
    | with_reducible refine Xm.wp_asgX ?_
    | with_reducible refine Xm.wp_dropX ?_
    | with_reducible refine Xm.wp_try ?_
    | with_reducible refine Xm.wp_itK ?_
    | with_reducible refine Xm.wp_itEnum ?_
    | with_reducible refine Xm.wp_asgM ?_
    | with_reducible refine Xm.wp_dicE ?_
    | with_reducible refine Xm.wp_bN ?_
    | with_reducible refine Xm.wp_itEnumA ?_
    | with_reducible refine Xm.wp_rvM ?_
    | with_reducible refine Xm.wp_retD ?_
    | with_reducible refine Xm.wp_compM ?_
    | with_reducible refine Xm.ite_tt ?_
    | with_reducible refine Xm.ite_ff ?_
    | with_reducible refine Xm.ite_nt ?_
    | with_reducible refine Xm.ite_nf ?_
    | with_reducible refine Xm.ite_nes ?_
    | with_reducible refine Xm.ite_eqs ?_
    | with_reducible refine Xm.ite_nei ?_
    | with_reducible refine Xm.ite_eqi ?_
    | with_reducible refine Xm.ex_le ?_
    | with_reducible refine Xm.ex_lt ?_
    | with_reducible refine Xm.ex_bool ?_
    | with_reducible refine Xm.ex_new ?_
    | with_reducible refine Xm.ex_int ?_
    | with_reducible refine Xm.ex_of Xm.k_cat ?_
    | with_reducible refine Xm.ex_of Xm.k_sub ?_
    | with_reducible refine Xm.ex_of Xm.k_lt ?_
    | with_reducible refine Xm.ex_of Xm.k_le ?_
    | with_reducible refine Xm.ex_of Xm.k_gt ?_
    | with_reducible refine Xm.ex_of Xm.k_ge ?_
    | with_reducible refine Xm.ex_of Xm.k_eqI ?_
    | with_reducible refine Xm.ex_of Xm.k_neI ?_
    | with_reducible refine Xm.ex_of Xm.k_eqStr ?_
    | with_reducible refine Xm.ex_of Xm.k_neStr ?_
    | with_reducible refine Xm.ex_of Xm.k_neg ?_
    | with_reducible refine Xm.ex_of Xm.k_abs ?_
    | with_reducible refine Xm.ex_of Xm.k_lenL ?_
    | with_reducible refine Xm.ex_of Xm.k_lenT ?_
    | with_reducible refine Xm.ex_of Xm.k_list ?_
    | with_reducible refine Xm.ex_of Xm.k_listT ?_
    | with_reducible refine Xm.ex_of Xm.k_tupL ?_
    | with_reducible refine Xm.ex_of Xm.k_tupT ?_
    | with_reducible refine Xm.ex_of Xm.k_intB ?_
    | with_reducible refine Xm.ex_of Xm.ix_t0 ?_
    | with_reducible refine Xm.ex_of Xm.ix_t1 ?_
    | with_reducible refine Xm.ex_of Xm.ix_t2 ?_
    | with_reducible refine Xm.ex_of Xm.ix_l0 ?_
    | with_reducible refine Xm.ex_of Xm.ix_l1 ?_
    | with_reducible refine Xm.ex_of Xm.ix_l2 ?_
    | with_reducible refine Xm.ex_of Xm.k_isa ?_
    | with_reducible refine Xm.ex_of Xm.k_cutL ?_
    | with_reducible refine Xm.ex_of Xm.k_cutT ?_
    | with_reducible refine Xm.ex_of Xm.ix_sh0 ?_
    | with_reducible refine Xm.ex_of Xm.ix_sh1 ?_
    | with_reducible refine Xm.ex_of (Xm.k_eqS _ _) ?_
    | ((with_reducible apply Xm.ex_of); · with_reducible assumption)
    | ((with_reducible apply Xm.ex_arr); · (simp only [arr, List.map_cons, List.map_nil, List.getD_cons_zero, List.getD_cons_succ]; rfl))
    | ((with_reducible apply Xm.np_and); · rfl)
    | ((with_reducible apply Xm.np_and); · (show npB _ = true; with_reducible assumption))
    | ((with_reducible apply Xm.len_and); · exact Nat.le_of_ble_eq_true rfl)
    | ((with_reducible apply Xm.mu_and); · rfl)
    | ((with_reducible apply Xm.ite_t); · with_reducible assumption)
    | ((with_reducible apply Xm.ite_f); · with_reducible assumption)
    | ((with_reducible apply Xm.ite_nbt); · with_reducible assumption)
    | ((with_reducible apply Xm.ite_nbf); · with_reducible assumption)
    | ((with_reducible apply Xm.ex_oo); · with_reducible assumption)
    | ((with_reducible apply Xm.dcv_and); · rfl)
    | ((with_reducible apply Xm.dcc_and); · rfl)
    | with_reducible refine Xm.ex_dct ?_
    | ((with_reducible apply Xm.nop_and); · rfl)
    | ((with_reducible apply Xm.wp_rd); · rfl)
    | ((with_reducible apply Xm.wp_rdo); · rfl)
    | ((with_reducible apply Xm.wp_callQ); · rfl)
    | ((with_reducible apply Xm.wp_ixM); · rfl)
    | ((with_reducible apply Xm.wp_lenM); · rfl)
    | ((with_reducible apply Xm.wp_appM); · rfl)
    | ((with_reducible apply Xm.wp_extM); · rfl)
    | ((with_reducible apply Xm.wp_popM); · rfl)
    | ((with_reducible apply Xm.wp_revM); · rfl)
    | ((with_reducible apply Xm.wp_reprM); · rfl)
    | ((with_reducible apply Xm.wp_retM); · rfl)
    | ((with_reducible apply Xm.wp_retMd); · rfl)
    | ((with_reducible apply Xm.wp_aug); · rfl)
    | ((with_reducible apply Xm.wp_setM); · rfl)
    | ((with_reducible apply Xm.wp_frz); · rfl)
    | ((with_reducible apply Xm.wp_frz2); · rfl)
    | ((with_reducible apply Xm.wp_ixD); · rfl)
    | ((with_reducible apply Xm.wp_getD1); · rfl)
    | ((with_reducible apply Xm.wp_getD2); · rfl)
    | ((with_reducible apply Xm.wp_putD); · rfl)
    | ((with_reducible apply Xm.wp_extN); · rfl)
    | ((with_reducible apply Xm.wp_callD); · rfl)
    | ((with_reducible apply Xm.wp_isaM); · rfl))
  refine ⟨2, rfl, by omega, ⟨rfl, by rw [rng_len]; exact sl_le (by omega)⟩, ?_⟩
  refine (wp_compL (fun ds xs s => ∃ m zs ps, s = [.dat SC, .own zs, .no, .no, .no, .no, .no, .no, .no] ∧ PenOk m zs ∧ m + 1000 * ds.length ≤ 3000 ∧ (∀ d ∈ ds, ∃ j : Nat, d = .int j ∧ j < 2) ∧ xs = ps.map shD ∧ (∀ p ∈ ps, ShOk p) ∧ ps.length + ds.length = 2) ?_ _ [] _ ⟨0, X0, [], rfl, hpen, by rw [rng_len]; omega, (fun d hd => rng_mem hd), rfl, (fun p hp => nomatch hp), by rw [rng_len]; rfl⟩).imp ?_
  · rintro d ds xs s ⟨m, zs, ps, rfl, hp, hm, hds, rfl, hps, hl⟩
    clear e1
    rw [List.length_cons] at hm hl
    obtain ⟨j, rfl, hj⟩ := hds d (.head _)
    obtain ⟨k, k1, k2, hk⟩ : ∃ k : Nat, 1 ≤ k ∧ k ≤ 12 ∧ kIx (.list [.int 5, .int 12]) (.int (j : Int)) = some (.int (k : Int)) := by
      have : j = 0 ∨ j = 1 := by omega
      rcases this with rfl | rfl
      · exact ⟨5, by omega, by omega, ix_l0⟩
      · exact ⟨12, by omega, by omega, ix_l1⟩
    obtain ⟨c, rows, y1, f1, c2, c6, r1, r12, hr, p1⟩ := rows_ok (k := k) hp ⟨k1, by omega⟩ (by omega)
    have f2 : mq_law_rows zs [.int (k : Int)] = some (.val (shD (c, rows)), y1) := f1
    clear f1
    have hok : ShOk (c, rows) := ⟨c2, c6, r1, by show rows.length ≤ 12; omega, hr⟩
    refine ⟨_, rfl, ?_⟩
    have hfin : ∃ (m_1 : Nat) (zs_1 : List D) (ps_1 : List Sh), ([.dat SC, .own y1, .no, .no, .no, .no, .no, .no, .no] : AS) = [.dat SC, .own zs_1, .no, .no, .no, .no, .no, .no, .no] ∧ PenOk m_1 zs_1 ∧ m_1 + 1000 * ds.length ≤ 3000 ∧ (∀ d ∈ ds, ∃ j : Nat, d = .int j ∧ j < 2) ∧ ps.map shD ++ [shD (c, rows)] = ps_1.map shD ∧ (∀ p ∈ ps_1, ShOk p) ∧ ps_1.length + ds.length = 2 :=
      ⟨_, y1, ps ++ [(c, rows)], rfl, p1, by omega, (fun d hd => hds d (.tail _ hd)), by simp, (fun p hp => (List.mem_append.mp hp).elim (hps p) fun e => by rw [List.mem_singleton.mp e]; exact hok), by simp; omega⟩
    generalize shD (c, rows) = T at *
    generalize ps.map shD = PM at *
    repeat (first
      | with_reducible refine Xm.wp_seq ?_
      | with_reducible refine Xm.wp_asg ?_
      | with_reducible refine Xm.wp_bin2 ?_
      | with_reducible refine Xm.wp_un1 ?_
      | with_reducible refine Xm.wp_consA ?_
      | with_reducible refine Xm.wp_nilA ?_
      | with_reducible refine Xm.wp_cst ?_
      | with_reducible refine Xm.wp_valB ?_
      | with_reducible refine Xm.wp_ifS ?_
      | with_reducible refine Xm.wp_rvD ?_
      | with_reducible refine Xm.wp_rvN ?_
      | with_reducible refine Xm.wp_callP0 ?_
      | with_reducible refine Xm.wp_callP ?_
      | with_reducible refine Xm.wp_callK ?_
      | with_reducible refine Xm.wp_skip ?_
      | with_reducible refine Xm.wp_retS ?_
      | with_reducible refine Xm.wp_retN ?_
      | with_reducible refine Xm.wp_drop ?_
      | with_reducible refine Xm.wp_asgN ?_
      | with_reducible refine Xm.wp_andB ?_
      | with_reducible refine Xm.wp_orB ?_
      | with_reducible refine Xm.wp_notB ?_
      | with_reducible refine Xm.wp_yesB ?_
      | with_reducible refine Xm.wp_boolE ?_
      | with_reducible refine Xm.wp_ifE ?_
      | with_reducible refine Xm.wp_tupF ?_
      | with_reducible refine Xm.wp_lstF ?_
      | with_reducible refine Xm.wp_newF ?_
      | with_reducible refine Xm.wp_listE ?_
      | with_reducible refine Xm.wp_itD ?_
      | with_reducible refine Xm.wp_for ?_
      | with_reducible refine Xm.wp_clr ?_
      | with_reducible refine Xm.wp_par2 ?_
      | with_reducible refine Xm.wp_asgT ?_
      | with_reducible refine Xm.wp_compF ?_
      | with_reducible refine Xm.wp_compR ?_
      | with_reducible refine Xm.wp_itR1 ?_
      | with_reducible refine Xm.wp_cutF ?_
      | with_reducible refine Xm.wp_noO ?_
      | with_reducible refine Xm.wp_someO ?_
      | with_reducible refine Xm.wp_chE ?_
      | with_reducible refine Xm.wp_raise ?_
      | with_reducible refine Xm.wp_retX ?_
      | with_reducible refine Xm.wp_asgX ?_
      | with_reducible refine Xm.wp_dropX ?_
      | with_reducible refine Xm.wp_try ?_
      | with_reducible refine Xm.wp_itK ?_
      | with_reducible refine Xm.wp_itEnum ?_
      | with_reducible refine Xm.wp_asgM ?_
      | with_reducible refine Xm.wp_dicE ?_
      | with_reducible refine Xm.wp_bN ?_
      | with_reducible refine Xm.wp_itEnumA ?_
      | with_reducible refine Xm.wp_rvM ?_
      | with_reducible refine Xm.wp_retD ?_
      | with_reducible refine Xm.wp_compM ?_
      | with_reducible refine Xm.ite_tt ?_
      | with_reducible refine Xm.ite_ff ?_
      | with_reducible refine Xm.ite_nt ?_
      | with_reducible refine Xm.ite_nf ?_
      | with_reducible refine Xm.ite_nes ?_
      | with_reducible refine Xm.ite_eqs ?_
      | with_reducible refine Xm.ite_nei ?_
      | with_reducible refine Xm.ite_eqi ?_
      | with_reducible refine Xm.ex_le ?_
      | with_reducible refine Xm.ex_lt ?_
      | with_reducible refine Xm.ex_bool ?_
      | with_reducible refine Xm.ex_new ?_
      | with_reducible refine Xm.ex_int ?_
      | with_reducible refine Xm.ex_of Xm.k_cat ?_
      | with_reducible refine Xm.ex_of Xm.k_sub ?_
      | with_reducible refine Xm.ex_of Xm.k_lt ?_
      | with_reducible refine Xm.ex_of Xm.k_le ?_
      | with_reducible refine Xm.ex_of Xm.k_gt ?_
      | with_reducible refine Xm.ex_of Xm.k_ge ?_
      | with_reducible refine Xm.ex_of Xm.k_eqI ?_
      | with_reducible refine Xm.ex_of Xm.k_neI ?_
      | with_reducible refine Xm.ex_of Xm.k_eqStr ?_
      | with_reducible refine Xm.ex_of Xm.k_neStr ?_
      | with_reducible refine Xm.ex_of Xm.k_neg ?_
      | with_reducible refine Xm.ex_of Xm.k_abs ?_
      | with_reducible refine Xm.ex_of Xm.k_lenL ?_
      | with_reducible refine Xm.ex_of Xm.k_lenT ?_
      | with_reducible refine Xm.ex_of Xm.k_list ?_
      | with_reducible refine Xm.ex_of Xm.k_listT ?_
      | with_reducible refine Xm.ex_of Xm.k_tupL ?_
      | with_reducible refine Xm.ex_of Xm.k_tupT ?_
      | with_reducible refine Xm.ex_of Xm.k_intB ?_
      | with_reducible refine Xm.ex_of Xm.ix_t0 ?_
      | with_reducible refine Xm.ex_of Xm.ix_t1 ?_
      | with_reducible refine Xm.ex_of Xm.ix_t2 ?_
      | with_reducible refine Xm.ex_of Xm.ix_l0 ?_
      | with_reducible refine Xm.ex_of Xm.ix_l1 ?_
      | with_reducible refine Xm.ex_of Xm.ix_l2 ?_
      | with_reducible refine Xm.ex_of Xm.k_isa ?_
      | with_reducible refine Xm.ex_of Xm.k_cutL ?_
      | with_reducible refine Xm.ex_of Xm.k_cutT ?_
      | with_reducible refine Xm.ex_of Xm.ix_sh0 ?_
      | with_reducible refine Xm.ex_of Xm.ix_sh1 ?_
      | with_reducible refine Xm.ex_of (Xm.k_eqS _ _) ?_
      | ((with_reducible apply Xm.ex_of); · with_reducible assumption)
      | ((with_reducible apply Xm.ex_arr); · (simp only [arr, List.map_cons, List.map_nil, List.getD_cons_zero, List.getD_cons_succ]; rfl))
      | ((with_reducible apply Xm.np_and); · rfl)
      | ((with_reducible apply Xm.np_and); · (show npB _ = true; with_reducible assumption))
      | ((with_reducible apply Xm.len_and); · exact Nat.le_of_ble_eq_true rfl)
      | ((with_reducible apply Xm.mu_and); · rfl)
      | ((with_reducible apply Xm.ite_t); · with_reducible assumption)
      | ((with_reducible apply Xm.ite_f); · with_reducible assumption)
      | ((with_reducible apply Xm.ite_nbt); · with_reducible assumption)
      | ((with_reducible apply Xm.ite_nbf); · with_reducible assumption)
      | ((with_reducible apply Xm.ex_oo); · with_reducible assumption)
      | ((with_reducible apply Xm.dcv_and); · rfl)
      | ((with_reducible apply Xm.dcc_and); · rfl)
      | with_reducible refine Xm.ex_dct ?_
      | ((with_reducible apply Xm.nop_and); · rfl)
      | ((with_reducible apply Xm.wp_rd); · rfl)
      | ((with_reducible apply Xm.wp_rdo); · rfl)
      | ((with_reducible apply Xm.wp_callQ); · rfl)
      | ((with_reducible apply Xm.wp_ixM); · rfl)
      | ((with_reducible apply Xm.wp_lenM); · rfl)
      | ((with_reducible apply Xm.wp_appM); · rfl)
      | ((with_reducible apply Xm.wp_extM); · rfl)
      | ((with_reducible apply Xm.wp_popM); · rfl)
      | ((with_reducible apply Xm.wp_revM); · rfl)
      | ((with_reducible apply Xm.wp_reprM); · rfl)
      | ((with_reducible apply Xm.wp_retM); · rfl)
      | ((with_reducible apply Xm.wp_retMd); · rfl)
      | ((with_reducible apply Xm.wp_aug); · rfl)
      | ((with_reducible apply Xm.wp_setM); · rfl)
      | ((with_reducible apply Xm.wp_frz); · rfl)
      | ((with_reducible apply Xm.wp_frz2); · rfl)
      | ((with_reducible apply Xm.wp_ixD); · rfl)
      | ((with_reducible apply Xm.wp_getD1); · rfl)
      | ((with_reducible apply Xm.wp_getD2); · rfl)
      | ((with_reducible apply Xm.wp_putD); · rfl)
      | ((with_reducible apply Xm.wp_extN); · rfl)
      | ((with_reducible apply Xm.wp_callD); · rfl)
      | ((with_reducible apply Xm.wp_isaM); · rfl))
    exact hfin
  · rintro xs s ⟨m, zs, ps, rfl, hp, hm, hds, hxs, hps, hl⟩
    rw [List.nil_append] at hxs
    subst hxs
    simp only [List.length_nil] at hm hl
    obtain ⟨x, x1, ex, x0, x3, p1⟩ := pick_ok (m := 3) hp (by omega) (by omega) (by omega)
    obtain ⟨p3, hp3, hx3⟩ := sheets3 x0 x3
    have hps2 : ∀ p ∈ ps ++ [p3], ShOk p := fun p hp => (List.mem_append.mp hp).elim (hps p) fun e => by rw [List.mem_singleton.mp e]; exact hp3
    have hms : ps.map shD ++ [shD p3] = (ps ++ [p3]).map shD := by simp
    have hl2 : (ps ++ [p3]).length = 3 := by simp; omega
    have hsl : (ps.map shD).length < sizeLine := by rw [List.length_map, sizeLine_eq]; omega
    have hc : ∀ S4 : Slot, compL (setD 4) yesB (tupF (consA (rd 4) (consA (rvD (callP mf_law_best [] (consA (rd 4) nilA))) nilA))) [4] ((ps ++ [p3]).map shD) [.dat SC, .own x1, .dat (.list ((ps ++ [p3]).map shD)), .no, .no, .no, .no, .no, .no] = some ((ps ++ [p3]).map (fun p => .tuple [shD p, rtD p]), [.dat SC, .own x1, .dat (.list ((ps ++ [p3]).map shD)), .no, .no, .no, .no, .no, .no]) := fun _ => by
      refine compL_all (u := setD 4) (te := tupF (consA (rd 4) (consA (rvD (callP mf_law_best [] (consA (rd 4) nilA))) nilA))) (vs := [4]) shD (fun p => .tuple [shD p, rtD p]) _ (ps ++ [p3]) fun p hp => ⟨_, rfl, ?_⟩
      have h := hps2 p hp
      have hb := m_law_best (rows := p.2) (c := p.1) h.ok h.r1 h.c2 h.c6
      change mf_law_best [shD p] = some (.val (rtD p)) at hb
      generalize PyData.list ((ps ++ [p3]).map shD) = L
      generalize shD p = T at *
      generalize rtD p = RT at *
      have w : Wp (tupF (consA (rd 4) (consA (rvD (callP mf_law_best [] (consA (rd 4) nilA))) nilA))) [.dat SC, .own x1, .dat L, .no, .dat T, .no, .no, .no, .no] fun y s2 => y = .tuple [T, RT] ∧ Xm.clr s2 [4] = [.dat SC, .own x1, .dat L, .no, .no, .no, .no, .no, .no] := by
        repeat (first
          | with_reducible refine Xm.wp_seq ?_
          | with_reducible refine Xm.wp_asg ?_
          | with_reducible refine Xm.wp_bin2 ?_
          | with_reducible refine Xm.wp_un1 ?_
          | with_reducible refine Xm.wp_consA ?_
          | with_reducible refine Xm.wp_nilA ?_
          | with_reducible refine Xm.wp_cst ?_
          | with_reducible refine Xm.wp_valB ?_
          | with_reducible refine Xm.wp_ifS ?_
          | with_reducible refine Xm.wp_rvD ?_
          | with_reducible refine Xm.wp_rvN ?_
          | with_reducible refine Xm.wp_callP0 ?_
          | with_reducible refine Xm.wp_callP ?_
          | with_reducible refine Xm.wp_callK ?_
          | with_reducible refine Xm.wp_skip ?_
          | with_reducible refine Xm.wp_retS ?_
          | with_reducible refine Xm.wp_retN ?_
          | with_reducible refine Xm.wp_drop ?_
          | with_reducible refine Xm.wp_asgN ?_
          | with_reducible refine Xm.wp_andB ?_
          | with_reducible refine Xm.wp_orB ?_
          | with_reducible refine Xm.wp_notB ?_
          | with_reducible refine Xm.wp_yesB ?_
          | with_reducible refine Xm.wp_boolE ?_
          | with_reducible refine Xm.wp_ifE ?_
          | with_reducible refine Xm.wp_tupF ?_
          | with_reducible refine Xm.wp_lstF ?_
          | with_reducible refine Xm.wp_newF ?_
          | with_reducible refine Xm.wp_listE ?_
          | with_reducible refine Xm.wp_itD ?_
          | with_reducible refine Xm.wp_for ?_
          | with_reducible refine Xm.wp_clr ?_
          | with_reducible refine Xm.wp_par2 ?_
          | with_reducible refine Xm.wp_asgT ?_
          | with_reducible refine Xm.wp_compF ?_
          | with_reducible refine Xm.wp_compR ?_
          | with_reducible refine Xm.wp_itR1 ?_
          | with_reducible refine Xm.wp_cutF ?_
          | with_reducible refine Xm.wp_noO ?_
          | with_reducible refine Xm.wp_someO ?_
          | with_reducible refine Xm.wp_chE ?_
          | with_reducible refine Xm.wp_raise ?_
          | with_reducible refine Xm.wp_retX ?_
          | with_reducible refine Xm.wp_asgX ?_
          | with_reducible refine Xm.wp_dropX ?_
          | with_reducible refine Xm.wp_try ?_
          | with_reducible refine Xm.wp_itK ?_
          | with_reducible refine Xm.wp_itEnum ?_
          | with_reducible refine Xm.wp_asgM ?_
          | with_reducible refine Xm.wp_dicE ?_
          | with_reducible refine Xm.wp_bN ?_
          | with_reducible refine Xm.wp_itEnumA ?_
          | with_reducible refine Xm.wp_rvM ?_
          | with_reducible refine Xm.wp_retD ?_
          | with_reducible refine Xm.wp_compM ?_
          | with_reducible refine Xm.ite_tt ?_
          | with_reducible refine Xm.ite_ff ?_
          | with_reducible refine Xm.ite_nt ?_
          | with_reducible refine Xm.ite_nf ?_
          | with_reducible refine Xm.ite_nes ?_
          | with_reducible refine Xm.ite_eqs ?_
          | with_reducible refine Xm.ite_nei ?_
          | with_reducible refine Xm.ite_eqi ?_
          | with_reducible refine Xm.ex_le ?_
          | with_reducible refine Xm.ex_lt ?_
          | with_reducible refine Xm.ex_bool ?_
          | with_reducible refine Xm.ex_new ?_
          | with_reducible refine Xm.ex_int ?_
          | with_reducible refine Xm.ex_of Xm.k_cat ?_
          | with_reducible refine Xm.ex_of Xm.k_sub ?_
          | with_reducible refine Xm.ex_of Xm.k_lt ?_
          | with_reducible refine Xm.ex_of Xm.k_le ?_
          | with_reducible refine Xm.ex_of Xm.k_gt ?_
          | with_reducible refine Xm.ex_of Xm.k_ge ?_
          | with_reducible refine Xm.ex_of Xm.k_eqI ?_
          | with_reducible refine Xm.ex_of Xm.k_neI ?_
          | with_reducible refine Xm.ex_of Xm.k_eqStr ?_
          | with_reducible refine Xm.ex_of Xm.k_neStr ?_
          | with_reducible refine Xm.ex_of Xm.k_neg ?_
          | with_reducible refine Xm.ex_of Xm.k_abs ?_
          | with_reducible refine Xm.ex_of Xm.k_lenL ?_
          | with_reducible refine Xm.ex_of Xm.k_lenT ?_
          | with_reducible refine Xm.ex_of Xm.k_list ?_
          | with_reducible refine Xm.ex_of Xm.k_listT ?_
          | with_reducible refine Xm.ex_of Xm.k_tupL ?_
          | with_reducible refine Xm.ex_of Xm.k_tupT ?_
          | with_reducible refine Xm.ex_of Xm.k_intB ?_
          | with_reducible refine Xm.ex_of Xm.ix_t0 ?_
          | with_reducible refine Xm.ex_of Xm.ix_t1 ?_
          | with_reducible refine Xm.ex_of Xm.ix_t2 ?_
          | with_reducible refine Xm.ex_of Xm.ix_l0 ?_
          | with_reducible refine Xm.ex_of Xm.ix_l1 ?_
          | with_reducible refine Xm.ex_of Xm.ix_l2 ?_
          | with_reducible refine Xm.ex_of Xm.k_isa ?_
          | with_reducible refine Xm.ex_of Xm.k_cutL ?_
          | with_reducible refine Xm.ex_of Xm.k_cutT ?_
          | with_reducible refine Xm.ex_of Xm.ix_sh0 ?_
          | with_reducible refine Xm.ex_of Xm.ix_sh1 ?_
          | with_reducible refine Xm.ex_of (Xm.k_eqS _ _) ?_
          | ((with_reducible apply Xm.ex_of); · with_reducible assumption)
          | ((with_reducible apply Xm.ex_arr); · (simp only [arr, List.map_cons, List.map_nil, List.getD_cons_zero, List.getD_cons_succ]; rfl))
          | ((with_reducible apply Xm.np_and); · rfl)
          | ((with_reducible apply Xm.np_and); · (show npB _ = true; with_reducible assumption))
          | ((with_reducible apply Xm.len_and); · exact Nat.le_of_ble_eq_true rfl)
          | ((with_reducible apply Xm.mu_and); · rfl)
          | ((with_reducible apply Xm.ite_t); · with_reducible assumption)
          | ((with_reducible apply Xm.ite_f); · with_reducible assumption)
          | ((with_reducible apply Xm.ite_nbt); · with_reducible assumption)
          | ((with_reducible apply Xm.ite_nbf); · with_reducible assumption)
          | ((with_reducible apply Xm.ex_oo); · with_reducible assumption)
          | ((with_reducible apply Xm.dcv_and); · rfl)
          | ((with_reducible apply Xm.dcc_and); · rfl)
          | with_reducible refine Xm.ex_dct ?_
          | ((with_reducible apply Xm.nop_and); · rfl)
          | ((with_reducible apply Xm.wp_rd); · rfl)
          | ((with_reducible apply Xm.wp_rdo); · rfl)
          | ((with_reducible apply Xm.wp_callQ); · rfl)
          | ((with_reducible apply Xm.wp_ixM); · rfl)
          | ((with_reducible apply Xm.wp_lenM); · rfl)
          | ((with_reducible apply Xm.wp_appM); · rfl)
          | ((with_reducible apply Xm.wp_extM); · rfl)
          | ((with_reducible apply Xm.wp_popM); · rfl)
          | ((with_reducible apply Xm.wp_revM); · rfl)
          | ((with_reducible apply Xm.wp_reprM); · rfl)
          | ((with_reducible apply Xm.wp_retM); · rfl)
          | ((with_reducible apply Xm.wp_retMd); · rfl)
          | ((with_reducible apply Xm.wp_aug); · rfl)
          | ((with_reducible apply Xm.wp_setM); · rfl)
          | ((with_reducible apply Xm.wp_frz); · rfl)
          | ((with_reducible apply Xm.wp_frz2); · rfl)
          | ((with_reducible apply Xm.wp_ixD); · rfl)
          | ((with_reducible apply Xm.wp_getD1); · rfl)
          | ((with_reducible apply Xm.wp_getD2); · rfl)
          | ((with_reducible apply Xm.wp_putD); · rfl)
          | ((with_reducible apply Xm.wp_extN); · rfl)
          | ((with_reducible apply Xm.wp_callD); · rfl)
          | ((with_reducible apply Xm.wp_isaM); · rfl))
        exact ⟨rfl, rfl⟩
      obtain ⟨y, s2, e, rfl, e2⟩ := w
      exact ⟨s2, e, e2⟩
    have hc := hc .no
    have hcat : kCat (.list ((ps ++ [p3]).map fun p => .tuple [shD p, rtD p])) (.list ((ps ++ [p3]).map fun p => .tuple [shD p, rtD p]).reverse) = some (.list (((ps ++ [p3]) ++ (ps ++ [p3]).reverse).map fun p => .tuple [shD p, rtD p])) := by
      rw [k_catL0 (by rw [List.length_reverse, List.length_map]; omega), ← List.map_reverse, ← List.map_append]
    have hps3 : ∀ p ∈ (ps ++ [p3]) ++ (ps ++ [p3]).reverse, ShOk p := fun p hp => (List.mem_append.mp hp).elim (hps2 p) fun e => hps2 p (List.mem_reverse.mp e)
    have hsl2 : ((ps ++ [p3]).map shD).length ≤ sizeLine := by rw [List.length_map, sizeLine_eq]; omega
    generalize (ps ++ [p3]) ++ (ps ++ [p3]).reverse = QS at *
    generalize hSM : (ps ++ [p3]).map shD = SM at *
    generalize ((ps ++ [p3]).map fun p => PyData.tuple [shD p, rtD p]) = RM at *
    generalize ps.map shD = PM at *
    generalize shD p3 = T3 at *
    repeat (first
      | with_reducible refine Xm.wp_seq ?_
      | with_reducible refine Xm.wp_asg ?_
      | with_reducible refine Xm.wp_bin2 ?_
      | with_reducible refine Xm.wp_un1 ?_
      | with_reducible refine Xm.wp_consA ?_
      | with_reducible refine Xm.wp_nilA ?_
      | with_reducible refine Xm.wp_cst ?_
      | with_reducible refine Xm.wp_valB ?_
      | with_reducible refine Xm.wp_ifS ?_
      | with_reducible refine Xm.wp_rvD ?_
      | with_reducible refine Xm.wp_rvN ?_
      | with_reducible refine Xm.wp_callP0 ?_
      | with_reducible refine Xm.wp_callP ?_
      | with_reducible refine Xm.wp_callK ?_
      | with_reducible refine Xm.wp_skip ?_
      | with_reducible refine Xm.wp_retS ?_
      | with_reducible refine Xm.wp_retN ?_
      | with_reducible refine Xm.wp_drop ?_
      | with_reducible refine Xm.wp_asgN ?_
      | with_reducible refine Xm.wp_andB ?_
      | with_reducible refine Xm.wp_orB ?_
      | with_reducible refine Xm.wp_notB ?_
      | with_reducible refine Xm.wp_yesB ?_
      | with_reducible refine Xm.wp_boolE ?_
      | with_reducible refine Xm.wp_ifE ?_
      | with_reducible refine Xm.wp_tupF ?_
      | with_reducible refine Xm.wp_lstF ?_
      | with_reducible refine Xm.wp_newF ?_
      | with_reducible refine Xm.wp_listE ?_
      | with_reducible refine Xm.wp_itD ?_
      | with_reducible refine Xm.wp_for ?_
      | with_reducible refine Xm.wp_clr ?_
      | with_reducible refine Xm.wp_par2 ?_
      | with_reducible refine Xm.wp_asgT ?_
      | with_reducible refine Xm.wp_compF ?_
      | with_reducible refine Xm.wp_compR ?_
      | with_reducible refine Xm.wp_itR1 ?_
      | with_reducible refine Xm.wp_cutF ?_
      | with_reducible refine Xm.wp_noO ?_
      | with_reducible refine Xm.wp_someO ?_
      | with_reducible refine Xm.wp_chE ?_
      | with_reducible refine Xm.wp_raise ?_
      | with_reducible refine Xm.wp_retX ?_
      | with_reducible refine Xm.wp_asgX ?_
      | with_reducible refine Xm.wp_dropX ?_
      | with_reducible refine Xm.wp_try ?_
      | with_reducible refine Xm.wp_itK ?_
      | with_reducible refine Xm.wp_itEnum ?_
      | with_reducible refine Xm.wp_asgM ?_
      | with_reducible refine Xm.wp_dicE ?_
      | with_reducible refine Xm.wp_bN ?_
      | with_reducible refine Xm.wp_itEnumA ?_
      | with_reducible refine Xm.wp_rvM ?_
      | with_reducible refine Xm.wp_retD ?_
      | with_reducible refine Xm.wp_compM ?_
      | with_reducible refine Xm.ite_tt ?_
      | with_reducible refine Xm.ite_ff ?_
      | with_reducible refine Xm.ite_nt ?_
      | with_reducible refine Xm.ite_nf ?_
      | with_reducible refine Xm.ite_nes ?_
      | with_reducible refine Xm.ite_eqs ?_
      | with_reducible refine Xm.ite_nei ?_
      | with_reducible refine Xm.ite_eqi ?_
      | with_reducible refine Xm.ex_le ?_
      | with_reducible refine Xm.ex_lt ?_
      | with_reducible refine Xm.ex_bool ?_
      | with_reducible refine Xm.ex_new ?_
      | with_reducible refine Xm.ex_int ?_
      | with_reducible refine Xm.ex_of Xm.k_cat ?_
      | with_reducible refine Xm.ex_of Xm.k_sub ?_
      | with_reducible refine Xm.ex_of Xm.k_lt ?_
      | with_reducible refine Xm.ex_of Xm.k_le ?_
      | with_reducible refine Xm.ex_of Xm.k_gt ?_
      | with_reducible refine Xm.ex_of Xm.k_ge ?_
      | with_reducible refine Xm.ex_of Xm.k_eqI ?_
      | with_reducible refine Xm.ex_of Xm.k_neI ?_
      | with_reducible refine Xm.ex_of Xm.k_eqStr ?_
      | with_reducible refine Xm.ex_of Xm.k_neStr ?_
      | with_reducible refine Xm.ex_of Xm.k_neg ?_
      | with_reducible refine Xm.ex_of Xm.k_abs ?_
      | with_reducible refine Xm.ex_of Xm.k_lenL ?_
      | with_reducible refine Xm.ex_of Xm.k_lenT ?_
      | with_reducible refine Xm.ex_of Xm.k_list ?_
      | with_reducible refine Xm.ex_of Xm.k_listT ?_
      | with_reducible refine Xm.ex_of Xm.k_tupL ?_
      | with_reducible refine Xm.ex_of Xm.k_tupT ?_
      | with_reducible refine Xm.ex_of Xm.k_intB ?_
      | with_reducible refine Xm.ex_of Xm.ix_t0 ?_
      | with_reducible refine Xm.ex_of Xm.ix_t1 ?_
      | with_reducible refine Xm.ex_of Xm.ix_t2 ?_
      | with_reducible refine Xm.ex_of Xm.ix_l0 ?_
      | with_reducible refine Xm.ex_of Xm.ix_l1 ?_
      | with_reducible refine Xm.ex_of Xm.ix_l2 ?_
      | with_reducible refine Xm.ex_of Xm.k_isa ?_
      | with_reducible refine Xm.ex_of Xm.k_cutL ?_
      | with_reducible refine Xm.ex_of Xm.k_cutT ?_
      | with_reducible refine Xm.ex_of Xm.ix_sh0 ?_
      | with_reducible refine Xm.ex_of Xm.ix_sh1 ?_
      | with_reducible refine Xm.ex_of (Xm.k_eqS _ _) ?_
      | ((with_reducible apply Xm.ex_of); · with_reducible assumption)
      | ((with_reducible apply Xm.ex_arr); · (simp only [arr, List.map_cons, List.map_nil, List.getD_cons_zero, List.getD_cons_succ]; rfl))
      | ((with_reducible apply Xm.np_and); · rfl)
      | ((with_reducible apply Xm.np_and); · (show npB _ = true; with_reducible assumption))
      | ((with_reducible apply Xm.len_and); · exact Nat.le_of_ble_eq_true rfl)
      | ((with_reducible apply Xm.mu_and); · rfl)
      | ((with_reducible apply Xm.ite_t); · with_reducible assumption)
      | ((with_reducible apply Xm.ite_f); · with_reducible assumption)
      | ((with_reducible apply Xm.ite_nbt); · with_reducible assumption)
      | ((with_reducible apply Xm.ite_nbf); · with_reducible assumption)
      | ((with_reducible apply Xm.ex_oo); · with_reducible assumption)
      | ((with_reducible apply Xm.dcv_and); · rfl)
      | ((with_reducible apply Xm.dcc_and); · rfl)
      | with_reducible refine Xm.ex_dct ?_
      | ((with_reducible apply Xm.nop_and); · rfl)
      | ((with_reducible apply Xm.wp_rd); · rfl)
      | ((with_reducible apply Xm.wp_rdo); · rfl)
      | ((with_reducible apply Xm.wp_callQ); · rfl)
      | ((with_reducible apply Xm.wp_ixM); · rfl)
      | ((with_reducible apply Xm.wp_lenM); · rfl)
      | ((with_reducible apply Xm.wp_appM); · rfl)
      | ((with_reducible apply Xm.wp_extM); · rfl)
      | ((with_reducible apply Xm.wp_popM); · rfl)
      | ((with_reducible apply Xm.wp_revM); · rfl)
      | ((with_reducible apply Xm.wp_reprM); · rfl)
      | ((with_reducible apply Xm.wp_retM); · rfl)
      | ((with_reducible apply Xm.wp_retMd); · rfl)
      | ((with_reducible apply Xm.wp_aug); · rfl)
      | ((with_reducible apply Xm.wp_setM); · rfl)
      | ((with_reducible apply Xm.wp_frz); · rfl)
      | ((with_reducible apply Xm.wp_frz2); · rfl)
      | ((with_reducible apply Xm.wp_ixD); · rfl)
      | ((with_reducible apply Xm.wp_getD1); · rfl)
      | ((with_reducible apply Xm.wp_getD2); · rfl)
      | ((with_reducible apply Xm.wp_putD); · rfl)
      | ((with_reducible apply Xm.wp_extN); · rfl)
      | ((with_reducible apply Xm.wp_callD); · rfl)
      | ((with_reducible apply Xm.wp_isaM); · rfl))
    refine ⟨hsl, ?_⟩
    show Wp _ ([.dat SC, .own x1, .own (PM ++ [T3]), .no, .no, .no, .no, .no, .no] : AS) _
    rw [hms]
    repeat (first
      | with_reducible refine Xm.wp_seq ?_
      | with_reducible refine Xm.wp_asg ?_
      | with_reducible refine Xm.wp_bin2 ?_
      | with_reducible refine Xm.wp_un1 ?_
      | with_reducible refine Xm.wp_consA ?_
      | with_reducible refine Xm.wp_nilA ?_
      | with_reducible refine Xm.wp_cst ?_
      | with_reducible refine Xm.wp_valB ?_
      | with_reducible refine Xm.wp_ifS ?_
      | with_reducible refine Xm.wp_rvD ?_
      | with_reducible refine Xm.wp_rvN ?_
      | with_reducible refine Xm.wp_callP0 ?_
      | with_reducible refine Xm.wp_callP ?_
      | with_reducible refine Xm.wp_callK ?_
      | with_reducible refine Xm.wp_skip ?_
      | with_reducible refine Xm.wp_retS ?_
      | with_reducible refine Xm.wp_retN ?_
      | with_reducible refine Xm.wp_drop ?_
      | with_reducible refine Xm.wp_asgN ?_
      | with_reducible refine Xm.wp_andB ?_
      | with_reducible refine Xm.wp_orB ?_
      | with_reducible refine Xm.wp_notB ?_
      | with_reducible refine Xm.wp_yesB ?_
      | with_reducible refine Xm.wp_boolE ?_
      | with_reducible refine Xm.wp_ifE ?_
      | with_reducible refine Xm.wp_tupF ?_
      | with_reducible refine Xm.wp_lstF ?_
      | with_reducible refine Xm.wp_newF ?_
      | with_reducible refine Xm.wp_listE ?_
      | with_reducible refine Xm.wp_itD ?_
      | with_reducible refine Xm.wp_for ?_
      | with_reducible refine Xm.wp_clr ?_
      | with_reducible refine Xm.wp_par2 ?_
      | with_reducible refine Xm.wp_asgT ?_
      | with_reducible refine Xm.wp_compF ?_
      | with_reducible refine Xm.wp_compR ?_
      | with_reducible refine Xm.wp_itR1 ?_
      | with_reducible refine Xm.wp_cutF ?_
      | with_reducible refine Xm.wp_noO ?_
      | with_reducible refine Xm.wp_someO ?_
      | with_reducible refine Xm.wp_chE ?_
      | with_reducible refine Xm.wp_raise ?_
      | with_reducible refine Xm.wp_retX ?_
      | with_reducible refine Xm.wp_asgX ?_
      | with_reducible refine Xm.wp_dropX ?_
      | with_reducible refine Xm.wp_try ?_
      | with_reducible refine Xm.wp_itK ?_
      | with_reducible refine Xm.wp_itEnum ?_
      | with_reducible refine Xm.wp_asgM ?_
      | with_reducible refine Xm.wp_dicE ?_
      | with_reducible refine Xm.wp_bN ?_
      | with_reducible refine Xm.wp_itEnumA ?_
      | with_reducible refine Xm.wp_rvM ?_
      | with_reducible refine Xm.wp_retD ?_
      | with_reducible refine Xm.wp_compM ?_
      | with_reducible refine Xm.ite_tt ?_
      | with_reducible refine Xm.ite_ff ?_
      | with_reducible refine Xm.ite_nt ?_
      | with_reducible refine Xm.ite_nf ?_
      | with_reducible refine Xm.ite_nes ?_
      | with_reducible refine Xm.ite_eqs ?_
      | with_reducible refine Xm.ite_nei ?_
      | with_reducible refine Xm.ite_eqi ?_
      | with_reducible refine Xm.ex_le ?_
      | with_reducible refine Xm.ex_lt ?_
      | with_reducible refine Xm.ex_bool ?_
      | with_reducible refine Xm.ex_new ?_
      | with_reducible refine Xm.ex_int ?_
      | with_reducible refine Xm.ex_of Xm.k_cat ?_
      | with_reducible refine Xm.ex_of Xm.k_sub ?_
      | with_reducible refine Xm.ex_of Xm.k_lt ?_
      | with_reducible refine Xm.ex_of Xm.k_le ?_
      | with_reducible refine Xm.ex_of Xm.k_gt ?_
      | with_reducible refine Xm.ex_of Xm.k_ge ?_
      | with_reducible refine Xm.ex_of Xm.k_eqI ?_
      | with_reducible refine Xm.ex_of Xm.k_neI ?_
      | with_reducible refine Xm.ex_of Xm.k_eqStr ?_
      | with_reducible refine Xm.ex_of Xm.k_neStr ?_
      | with_reducible refine Xm.ex_of Xm.k_neg ?_
      | with_reducible refine Xm.ex_of Xm.k_abs ?_
      | with_reducible refine Xm.ex_of Xm.k_lenL ?_
      | with_reducible refine Xm.ex_of Xm.k_lenT ?_
      | with_reducible refine Xm.ex_of Xm.k_list ?_
      | with_reducible refine Xm.ex_of Xm.k_listT ?_
      | with_reducible refine Xm.ex_of Xm.k_tupL ?_
      | with_reducible refine Xm.ex_of Xm.k_tupT ?_
      | with_reducible refine Xm.ex_of Xm.k_intB ?_
      | with_reducible refine Xm.ex_of Xm.ix_t0 ?_
      | with_reducible refine Xm.ex_of Xm.ix_t1 ?_
      | with_reducible refine Xm.ex_of Xm.ix_t2 ?_
      | with_reducible refine Xm.ex_of Xm.ix_l0 ?_
      | with_reducible refine Xm.ex_of Xm.ix_l1 ?_
      | with_reducible refine Xm.ex_of Xm.ix_l2 ?_
      | with_reducible refine Xm.ex_of Xm.k_isa ?_
      | with_reducible refine Xm.ex_of Xm.k_cutL ?_
      | with_reducible refine Xm.ex_of Xm.k_cutT ?_
      | with_reducible refine Xm.ex_of Xm.ix_sh0 ?_
      | with_reducible refine Xm.ex_of Xm.ix_sh1 ?_
      | with_reducible refine Xm.ex_of (Xm.k_eqS _ _) ?_
      | ((with_reducible apply Xm.ex_of); · with_reducible assumption)
      | ((with_reducible apply Xm.ex_arr); · (simp only [arr, List.map_cons, List.map_nil, List.getD_cons_zero, List.getD_cons_succ]; rfl))
      | ((with_reducible apply Xm.np_and); · rfl)
      | ((with_reducible apply Xm.np_and); · (show npB _ = true; with_reducible assumption))
      | ((with_reducible apply Xm.len_and); · exact Nat.le_of_ble_eq_true rfl)
      | ((with_reducible apply Xm.mu_and); · rfl)
      | ((with_reducible apply Xm.ite_t); · with_reducible assumption)
      | ((with_reducible apply Xm.ite_f); · with_reducible assumption)
      | ((with_reducible apply Xm.ite_nbt); · with_reducible assumption)
      | ((with_reducible apply Xm.ite_nbf); · with_reducible assumption)
      | ((with_reducible apply Xm.ex_oo); · with_reducible assumption)
      | ((with_reducible apply Xm.dcv_and); · rfl)
      | ((with_reducible apply Xm.dcc_and); · rfl)
      | with_reducible refine Xm.ex_dct ?_
      | ((with_reducible apply Xm.nop_and); · rfl)
      | ((with_reducible apply Xm.wp_rd); · rfl)
      | ((with_reducible apply Xm.wp_rdo); · rfl)
      | ((with_reducible apply Xm.wp_callQ); · rfl)
      | ((with_reducible apply Xm.wp_ixM); · rfl)
      | ((with_reducible apply Xm.wp_lenM); · rfl)
      | ((with_reducible apply Xm.wp_appM); · rfl)
      | ((with_reducible apply Xm.wp_extM); · rfl)
      | ((with_reducible apply Xm.wp_popM); · rfl)
      | ((with_reducible apply Xm.wp_revM); · rfl)
      | ((with_reducible apply Xm.wp_reprM); · rfl)
      | ((with_reducible apply Xm.wp_retM); · rfl)
      | ((with_reducible apply Xm.wp_retMd); · rfl)
      | ((with_reducible apply Xm.wp_aug); · rfl)
      | ((with_reducible apply Xm.wp_setM); · rfl)
      | ((with_reducible apply Xm.wp_frz); · rfl)
      | ((with_reducible apply Xm.wp_frz2); · rfl)
      | ((with_reducible apply Xm.wp_ixD); · rfl)
      | ((with_reducible apply Xm.wp_getD1); · rfl)
      | ((with_reducible apply Xm.wp_getD2); · rfl)
      | ((with_reducible apply Xm.wp_putD); · rfl)
      | ((with_reducible apply Xm.wp_extN); · rfl)
      | ((with_reducible apply Xm.wp_callD); · rfl)
      | ((with_reducible apply Xm.wp_isaM); · rfl))
    refine ⟨SM, .inl rfl, ⟨rfl, hsl2⟩, ?_⟩
    refine wp_of hc ?_
    repeat (first
      | with_reducible refine Xm.wp_seq ?_
      | with_reducible refine Xm.wp_asg ?_
      | with_reducible refine Xm.wp_bin2 ?_
      | with_reducible refine Xm.wp_un1 ?_
      | with_reducible refine Xm.wp_consA ?_
      | with_reducible refine Xm.wp_nilA ?_
      | with_reducible refine Xm.wp_cst ?_
      | with_reducible refine Xm.wp_valB ?_
      | with_reducible refine Xm.wp_ifS ?_
      | with_reducible refine Xm.wp_rvD ?_
      | with_reducible refine Xm.wp_rvN ?_
      | with_reducible refine Xm.wp_callP0 ?_
      | with_reducible refine Xm.wp_callP ?_
      | with_reducible refine Xm.wp_callK ?_
      | with_reducible refine Xm.wp_skip ?_
      | with_reducible refine Xm.wp_retS ?_
      | with_reducible refine Xm.wp_retN ?_
      | with_reducible refine Xm.wp_drop ?_
      | with_reducible refine Xm.wp_asgN ?_
      | with_reducible refine Xm.wp_andB ?_
      | with_reducible refine Xm.wp_orB ?_
      | with_reducible refine Xm.wp_notB ?_
      | with_reducible refine Xm.wp_yesB ?_
      | with_reducible refine Xm.wp_boolE ?_
      | with_reducible refine Xm.wp_ifE ?_
      | with_reducible refine Xm.wp_tupF ?_
      | with_reducible refine Xm.wp_lstF ?_
      | with_reducible refine Xm.wp_newF ?_
      | with_reducible refine Xm.wp_listE ?_
      | with_reducible refine Xm.wp_itD ?_
      | with_reducible refine Xm.wp_for ?_
      | with_reducible refine Xm.wp_clr ?_
      | with_reducible refine Xm.wp_par2 ?_
      | with_reducible refine Xm.wp_asgT ?_
      | with_reducible refine Xm.wp_compF ?_
      | with_reducible refine Xm.wp_compR ?_
      | with_reducible refine Xm.wp_itR1 ?_
      | with_reducible refine Xm.wp_cutF ?_
      | with_reducible refine Xm.wp_noO ?_
      | with_reducible refine Xm.wp_someO ?_
      | with_reducible refine Xm.wp_chE ?_
      | with_reducible refine Xm.wp_raise ?_
      | with_reducible refine Xm.wp_retX ?_
      | with_reducible refine Xm.wp_asgX ?_
      | with_reducible refine Xm.wp_dropX ?_
      | with_reducible refine Xm.wp_try ?_
      | with_reducible refine Xm.wp_itK ?_
      | with_reducible refine Xm.wp_itEnum ?_
      | with_reducible refine Xm.wp_asgM ?_
      | with_reducible refine Xm.wp_dicE ?_
      | with_reducible refine Xm.wp_bN ?_
      | with_reducible refine Xm.wp_itEnumA ?_
      | with_reducible refine Xm.wp_rvM ?_
      | with_reducible refine Xm.wp_retD ?_
      | with_reducible refine Xm.wp_compM ?_
      | with_reducible refine Xm.ite_tt ?_
      | with_reducible refine Xm.ite_ff ?_
      | with_reducible refine Xm.ite_nt ?_
      | with_reducible refine Xm.ite_nf ?_
      | with_reducible refine Xm.ite_nes ?_
      | with_reducible refine Xm.ite_eqs ?_
      | with_reducible refine Xm.ite_nei ?_
      | with_reducible refine Xm.ite_eqi ?_
      | with_reducible refine Xm.ex_le ?_
      | with_reducible refine Xm.ex_lt ?_
      | with_reducible refine Xm.ex_bool ?_
      | with_reducible refine Xm.ex_new ?_
      | with_reducible refine Xm.ex_int ?_
      | with_reducible refine Xm.ex_of Xm.k_cat ?_
      | with_reducible refine Xm.ex_of Xm.k_sub ?_
      | with_reducible refine Xm.ex_of Xm.k_lt ?_
      | with_reducible refine Xm.ex_of Xm.k_le ?_
      | with_reducible refine Xm.ex_of Xm.k_gt ?_
      | with_reducible refine Xm.ex_of Xm.k_ge ?_
      | with_reducible refine Xm.ex_of Xm.k_eqI ?_
      | with_reducible refine Xm.ex_of Xm.k_neI ?_
      | with_reducible refine Xm.ex_of Xm.k_eqStr ?_
      | with_reducible refine Xm.ex_of Xm.k_neStr ?_
      | with_reducible refine Xm.ex_of Xm.k_neg ?_
      | with_reducible refine Xm.ex_of Xm.k_abs ?_
      | with_reducible refine Xm.ex_of Xm.k_lenL ?_
      | with_reducible refine Xm.ex_of Xm.k_lenT ?_
      | with_reducible refine Xm.ex_of Xm.k_list ?_
      | with_reducible refine Xm.ex_of Xm.k_listT ?_
      | with_reducible refine Xm.ex_of Xm.k_tupL ?_
      | with_reducible refine Xm.ex_of Xm.k_tupT ?_
      | with_reducible refine Xm.ex_of Xm.k_intB ?_
      | with_reducible refine Xm.ex_of Xm.ix_t0 ?_
      | with_reducible refine Xm.ex_of Xm.ix_t1 ?_
      | with_reducible refine Xm.ex_of Xm.ix_t2 ?_
      | with_reducible refine Xm.ex_of Xm.ix_l0 ?_
      | with_reducible refine Xm.ex_of Xm.ix_l1 ?_
      | with_reducible refine Xm.ex_of Xm.ix_l2 ?_
      | with_reducible refine Xm.ex_of Xm.k_isa ?_
      | with_reducible refine Xm.ex_of Xm.k_cutL ?_
      | with_reducible refine Xm.ex_of Xm.k_cutT ?_
      | with_reducible refine Xm.ex_of Xm.ix_sh0 ?_
      | with_reducible refine Xm.ex_of Xm.ix_sh1 ?_
      | with_reducible refine Xm.ex_of (Xm.k_eqS _ _) ?_
      | ((with_reducible apply Xm.ex_of); · with_reducible assumption)
      | ((with_reducible apply Xm.ex_arr); · (simp only [arr, List.map_cons, List.map_nil, List.getD_cons_zero, List.getD_cons_succ]; rfl))
      | ((with_reducible apply Xm.np_and); · rfl)
      | ((with_reducible apply Xm.np_and); · (show npB _ = true; with_reducible assumption))
      | ((with_reducible apply Xm.len_and); · exact Nat.le_of_ble_eq_true rfl)
      | ((with_reducible apply Xm.mu_and); · rfl)
      | ((with_reducible apply Xm.ite_t); · with_reducible assumption)
      | ((with_reducible apply Xm.ite_f); · with_reducible assumption)
      | ((with_reducible apply Xm.ite_nbt); · with_reducible assumption)
      | ((with_reducible apply Xm.ite_nbf); · with_reducible assumption)
      | ((with_reducible apply Xm.ex_oo); · with_reducible assumption)
      | ((with_reducible apply Xm.dcv_and); · rfl)
      | ((with_reducible apply Xm.dcc_and); · rfl)
      | with_reducible refine Xm.ex_dct ?_
      | ((with_reducible apply Xm.nop_and); · rfl)
      | ((with_reducible apply Xm.wp_rd); · rfl)
      | ((with_reducible apply Xm.wp_rdo); · rfl)
      | ((with_reducible apply Xm.wp_callQ); · rfl)
      | ((with_reducible apply Xm.wp_ixM); · rfl)
      | ((with_reducible apply Xm.wp_lenM); · rfl)
      | ((with_reducible apply Xm.wp_appM); · rfl)
      | ((with_reducible apply Xm.wp_extM); · rfl)
      | ((with_reducible apply Xm.wp_popM); · rfl)
      | ((with_reducible apply Xm.wp_revM); · rfl)
      | ((with_reducible apply Xm.wp_reprM); · rfl)
      | ((with_reducible apply Xm.wp_retM); · rfl)
      | ((with_reducible apply Xm.wp_retMd); · rfl)
      | ((with_reducible apply Xm.wp_aug); · rfl)
      | ((with_reducible apply Xm.wp_setM); · rfl)
      | ((with_reducible apply Xm.wp_frz); · rfl)
      | ((with_reducible apply Xm.wp_frz2); · rfl)
      | ((with_reducible apply Xm.wp_ixD); · rfl)
      | ((with_reducible apply Xm.wp_getD1); · rfl)
      | ((with_reducible apply Xm.wp_getD2); · rfl)
      | ((with_reducible apply Xm.wp_putD); · rfl)
      | ((with_reducible apply Xm.wp_extN); · rfl)
      | ((with_reducible apply Xm.wp_callD); · rfl)
      | ((with_reducible apply Xm.wp_isaM); · rfl))
    refine wp_revL ?_
    repeat (first
      | with_reducible refine Xm.wp_seq ?_
      | with_reducible refine Xm.wp_asg ?_
      | with_reducible refine Xm.wp_bin2 ?_
      | with_reducible refine Xm.wp_un1 ?_
      | with_reducible refine Xm.wp_consA ?_
      | with_reducible refine Xm.wp_nilA ?_
      | with_reducible refine Xm.wp_cst ?_
      | with_reducible refine Xm.wp_valB ?_
      | with_reducible refine Xm.wp_ifS ?_
      | with_reducible refine Xm.wp_rvD ?_
      | with_reducible refine Xm.wp_rvN ?_
      | with_reducible refine Xm.wp_callP0 ?_
      | with_reducible refine Xm.wp_callP ?_
      | with_reducible refine Xm.wp_callK ?_
      | with_reducible refine Xm.wp_skip ?_
      | with_reducible refine Xm.wp_retS ?_
      | with_reducible refine Xm.wp_retN ?_
      | with_reducible refine Xm.wp_drop ?_
      | with_reducible refine Xm.wp_asgN ?_
      | with_reducible refine Xm.wp_andB ?_
      | with_reducible refine Xm.wp_orB ?_
      | with_reducible refine Xm.wp_notB ?_
      | with_reducible refine Xm.wp_yesB ?_
      | with_reducible refine Xm.wp_boolE ?_
      | with_reducible refine Xm.wp_ifE ?_
      | with_reducible refine Xm.wp_tupF ?_
      | with_reducible refine Xm.wp_lstF ?_
      | with_reducible refine Xm.wp_newF ?_
      | with_reducible refine Xm.wp_listE ?_
      | with_reducible refine Xm.wp_itD ?_
      | with_reducible refine Xm.wp_for ?_
      | with_reducible refine Xm.wp_clr ?_
      | with_reducible refine Xm.wp_par2 ?_
      | with_reducible refine Xm.wp_asgT ?_
      | with_reducible refine Xm.wp_compF ?_
      | with_reducible refine Xm.wp_compR ?_
      | with_reducible refine Xm.wp_itR1 ?_
      | with_reducible refine Xm.wp_cutF ?_
      | with_reducible refine Xm.wp_noO ?_
      | with_reducible refine Xm.wp_someO ?_
      | with_reducible refine Xm.wp_chE ?_
      | with_reducible refine Xm.wp_raise ?_
      | with_reducible refine Xm.wp_retX ?_
      | with_reducible refine Xm.wp_asgX ?_
      | with_reducible refine Xm.wp_dropX ?_
      | with_reducible refine Xm.wp_try ?_
      | with_reducible refine Xm.wp_itK ?_
      | with_reducible refine Xm.wp_itEnum ?_
      | with_reducible refine Xm.wp_asgM ?_
      | with_reducible refine Xm.wp_dicE ?_
      | with_reducible refine Xm.wp_bN ?_
      | with_reducible refine Xm.wp_itEnumA ?_
      | with_reducible refine Xm.wp_rvM ?_
      | with_reducible refine Xm.wp_retD ?_
      | with_reducible refine Xm.wp_compM ?_
      | with_reducible refine Xm.ite_tt ?_
      | with_reducible refine Xm.ite_ff ?_
      | with_reducible refine Xm.ite_nt ?_
      | with_reducible refine Xm.ite_nf ?_
      | with_reducible refine Xm.ite_nes ?_
      | with_reducible refine Xm.ite_eqs ?_
      | with_reducible refine Xm.ite_nei ?_
      | with_reducible refine Xm.ite_eqi ?_
      | with_reducible refine Xm.ex_le ?_
      | with_reducible refine Xm.ex_lt ?_
      | with_reducible refine Xm.ex_bool ?_
      | with_reducible refine Xm.ex_new ?_
      | with_reducible refine Xm.ex_int ?_
      | with_reducible refine Xm.ex_of Xm.k_cat ?_
      | with_reducible refine Xm.ex_of Xm.k_sub ?_
      | with_reducible refine Xm.ex_of Xm.k_lt ?_
      | with_reducible refine Xm.ex_of Xm.k_le ?_
      | with_reducible refine Xm.ex_of Xm.k_gt ?_
      | with_reducible refine Xm.ex_of Xm.k_ge ?_
      | with_reducible refine Xm.ex_of Xm.k_eqI ?_
      | with_reducible refine Xm.ex_of Xm.k_neI ?_
      | with_reducible refine Xm.ex_of Xm.k_eqStr ?_
      | with_reducible refine Xm.ex_of Xm.k_neStr ?_
      | with_reducible refine Xm.ex_of Xm.k_neg ?_
      | with_reducible refine Xm.ex_of Xm.k_abs ?_
      | with_reducible refine Xm.ex_of Xm.k_lenL ?_
      | with_reducible refine Xm.ex_of Xm.k_lenT ?_
      | with_reducible refine Xm.ex_of Xm.k_list ?_
      | with_reducible refine Xm.ex_of Xm.k_listT ?_
      | with_reducible refine Xm.ex_of Xm.k_tupL ?_
      | with_reducible refine Xm.ex_of Xm.k_tupT ?_
      | with_reducible refine Xm.ex_of Xm.k_intB ?_
      | with_reducible refine Xm.ex_of Xm.ix_t0 ?_
      | with_reducible refine Xm.ex_of Xm.ix_t1 ?_
      | with_reducible refine Xm.ex_of Xm.ix_t2 ?_
      | with_reducible refine Xm.ex_of Xm.ix_l0 ?_
      | with_reducible refine Xm.ex_of Xm.ix_l1 ?_
      | with_reducible refine Xm.ex_of Xm.ix_l2 ?_
      | with_reducible refine Xm.ex_of Xm.k_isa ?_
      | with_reducible refine Xm.ex_of Xm.k_cutL ?_
      | with_reducible refine Xm.ex_of Xm.k_cutT ?_
      | with_reducible refine Xm.ex_of Xm.ix_sh0 ?_
      | with_reducible refine Xm.ex_of Xm.ix_sh1 ?_
      | with_reducible refine Xm.ex_of (Xm.k_eqS _ _) ?_
      | ((with_reducible apply Xm.ex_of); · with_reducible assumption)
      | ((with_reducible apply Xm.ex_arr); · (simp only [arr, List.map_cons, List.map_nil, List.getD_cons_zero, List.getD_cons_succ]; rfl))
      | ((with_reducible apply Xm.np_and); · rfl)
      | ((with_reducible apply Xm.np_and); · (show npB _ = true; with_reducible assumption))
      | ((with_reducible apply Xm.len_and); · exact Nat.le_of_ble_eq_true rfl)
      | ((with_reducible apply Xm.mu_and); · rfl)
      | ((with_reducible apply Xm.ite_t); · with_reducible assumption)
      | ((with_reducible apply Xm.ite_f); · with_reducible assumption)
      | ((with_reducible apply Xm.ite_nbt); · with_reducible assumption)
      | ((with_reducible apply Xm.ite_nbf); · with_reducible assumption)
      | ((with_reducible apply Xm.ex_oo); · with_reducible assumption)
      | ((with_reducible apply Xm.dcv_and); · rfl)
      | ((with_reducible apply Xm.dcc_and); · rfl)
      | with_reducible refine Xm.ex_dct ?_
      | ((with_reducible apply Xm.nop_and); · rfl)
      | ((with_reducible apply Xm.wp_rd); · rfl)
      | ((with_reducible apply Xm.wp_rdo); · rfl)
      | ((with_reducible apply Xm.wp_callQ); · rfl)
      | ((with_reducible apply Xm.wp_ixM); · rfl)
      | ((with_reducible apply Xm.wp_lenM); · rfl)
      | ((with_reducible apply Xm.wp_appM); · rfl)
      | ((with_reducible apply Xm.wp_extM); · rfl)
      | ((with_reducible apply Xm.wp_popM); · rfl)
      | ((with_reducible apply Xm.wp_revM); · rfl)
      | ((with_reducible apply Xm.wp_reprM); · rfl)
      | ((with_reducible apply Xm.wp_retM); · rfl)
      | ((with_reducible apply Xm.wp_retMd); · rfl)
      | ((with_reducible apply Xm.wp_aug); · rfl)
      | ((with_reducible apply Xm.wp_setM); · rfl)
      | ((with_reducible apply Xm.wp_frz); · rfl)
      | ((with_reducible apply Xm.wp_frz2); · rfl)
      | ((with_reducible apply Xm.wp_ixD); · rfl)
      | ((with_reducible apply Xm.wp_getD1); · rfl)
      | ((with_reducible apply Xm.wp_getD2); · rfl)
      | ((with_reducible apply Xm.wp_putD); · rfl)
      | ((with_reducible apply Xm.wp_extN); · rfl)
      | ((with_reducible apply Xm.wp_callD); · rfl)
      | ((with_reducible apply Xm.wp_isaM); · rfl))
    refine ⟨RM, rfl, ?_⟩
    repeat (first
      | with_reducible refine Xm.wp_seq ?_
      | with_reducible refine Xm.wp_asg ?_
      | with_reducible refine Xm.wp_bin2 ?_
      | with_reducible refine Xm.wp_un1 ?_
      | with_reducible refine Xm.wp_consA ?_
      | with_reducible refine Xm.wp_nilA ?_
      | with_reducible refine Xm.wp_cst ?_
      | with_reducible refine Xm.wp_valB ?_
      | with_reducible refine Xm.wp_ifS ?_
      | with_reducible refine Xm.wp_rvD ?_
      | with_reducible refine Xm.wp_rvN ?_
      | with_reducible refine Xm.wp_callP0 ?_
      | with_reducible refine Xm.wp_callP ?_
      | with_reducible refine Xm.wp_callK ?_
      | with_reducible refine Xm.wp_skip ?_
      | with_reducible refine Xm.wp_retS ?_
      | with_reducible refine Xm.wp_retN ?_
      | with_reducible refine Xm.wp_drop ?_
      | with_reducible refine Xm.wp_asgN ?_
      | with_reducible refine Xm.wp_andB ?_
      | with_reducible refine Xm.wp_orB ?_
      | with_reducible refine Xm.wp_notB ?_
      | with_reducible refine Xm.wp_yesB ?_
      | with_reducible refine Xm.wp_boolE ?_
      | with_reducible refine Xm.wp_ifE ?_
      | with_reducible refine Xm.wp_tupF ?_
      | with_reducible refine Xm.wp_lstF ?_
      | with_reducible refine Xm.wp_newF ?_
      | with_reducible refine Xm.wp_listE ?_
      | with_reducible refine Xm.wp_itD ?_
      | with_reducible refine Xm.wp_for ?_
      | with_reducible refine Xm.wp_clr ?_
      | with_reducible refine Xm.wp_par2 ?_
      | with_reducible refine Xm.wp_asgT ?_
      | with_reducible refine Xm.wp_compF ?_
      | with_reducible refine Xm.wp_compR ?_
      | with_reducible refine Xm.wp_itR1 ?_
      | with_reducible refine Xm.wp_cutF ?_
      | with_reducible refine Xm.wp_noO ?_
      | with_reducible refine Xm.wp_someO ?_
      | with_reducible refine Xm.wp_chE ?_
      | with_reducible refine Xm.wp_raise ?_
      | with_reducible refine Xm.wp_retX ?_
      | with_reducible refine Xm.wp_asgX ?_
      | with_reducible refine Xm.wp_dropX ?_
      | with_reducible refine Xm.wp_try ?_
      | with_reducible refine Xm.wp_itK ?_
      | with_reducible refine Xm.wp_itEnum ?_
      | with_reducible refine Xm.wp_asgM ?_
      | with_reducible refine Xm.wp_dicE ?_
      | with_reducible refine Xm.wp_bN ?_
      | with_reducible refine Xm.wp_itEnumA ?_
      | with_reducible refine Xm.wp_rvM ?_
      | with_reducible refine Xm.wp_retD ?_
      | with_reducible refine Xm.wp_compM ?_
      | with_reducible refine Xm.ite_tt ?_
      | with_reducible refine Xm.ite_ff ?_
      | with_reducible refine Xm.ite_nt ?_
      | with_reducible refine Xm.ite_nf ?_
      | with_reducible refine Xm.ite_nes ?_
      | with_reducible refine Xm.ite_eqs ?_
      | with_reducible refine Xm.ite_nei ?_
      | with_reducible refine Xm.ite_eqi ?_
      | with_reducible refine Xm.ex_le ?_
      | with_reducible refine Xm.ex_lt ?_
      | with_reducible refine Xm.ex_bool ?_
      | with_reducible refine Xm.ex_new ?_
      | with_reducible refine Xm.ex_int ?_
      | with_reducible refine Xm.ex_of Xm.k_cat ?_
      | with_reducible refine Xm.ex_of Xm.k_sub ?_
      | with_reducible refine Xm.ex_of Xm.k_lt ?_
      | with_reducible refine Xm.ex_of Xm.k_le ?_
      | with_reducible refine Xm.ex_of Xm.k_gt ?_
      | with_reducible refine Xm.ex_of Xm.k_ge ?_
      | with_reducible refine Xm.ex_of Xm.k_eqI ?_
      | with_reducible refine Xm.ex_of Xm.k_neI ?_
      | with_reducible refine Xm.ex_of Xm.k_eqStr ?_
      | with_reducible refine Xm.ex_of Xm.k_neStr ?_
      | with_reducible refine Xm.ex_of Xm.k_neg ?_
      | with_reducible refine Xm.ex_of Xm.k_abs ?_
      | with_reducible refine Xm.ex_of Xm.k_lenL ?_
      | with_reducible refine Xm.ex_of Xm.k_lenT ?_
      | with_reducible refine Xm.ex_of Xm.k_list ?_
      | with_reducible refine Xm.ex_of Xm.k_listT ?_
      | with_reducible refine Xm.ex_of Xm.k_tupL ?_
      | with_reducible refine Xm.ex_of Xm.k_tupT ?_
      | with_reducible refine Xm.ex_of Xm.k_intB ?_
      | with_reducible refine Xm.ex_of Xm.ix_t0 ?_
      | with_reducible refine Xm.ex_of Xm.ix_t1 ?_
      | with_reducible refine Xm.ex_of Xm.ix_t2 ?_
      | with_reducible refine Xm.ex_of Xm.ix_l0 ?_
      | with_reducible refine Xm.ex_of Xm.ix_l1 ?_
      | with_reducible refine Xm.ex_of Xm.ix_l2 ?_
      | with_reducible refine Xm.ex_of Xm.k_isa ?_
      | with_reducible refine Xm.ex_of Xm.k_cutL ?_
      | with_reducible refine Xm.ex_of Xm.k_cutT ?_
      | with_reducible refine Xm.ex_of Xm.ix_sh0 ?_
      | with_reducible refine Xm.ex_of Xm.ix_sh1 ?_
      | with_reducible refine Xm.ex_of (Xm.k_eqS _ _) ?_
      | ((with_reducible apply Xm.ex_of); · with_reducible assumption)
      | ((with_reducible apply Xm.ex_arr); · (simp only [arr, List.map_cons, List.map_nil, List.getD_cons_zero, List.getD_cons_succ]; rfl))
      | ((with_reducible apply Xm.np_and); · rfl)
      | ((with_reducible apply Xm.np_and); · (show npB _ = true; with_reducible assumption))
      | ((with_reducible apply Xm.len_and); · exact Nat.le_of_ble_eq_true rfl)
      | ((with_reducible apply Xm.mu_and); · rfl)
      | ((with_reducible apply Xm.ite_t); · with_reducible assumption)
      | ((with_reducible apply Xm.ite_f); · with_reducible assumption)
      | ((with_reducible apply Xm.ite_nbt); · with_reducible assumption)
      | ((with_reducible apply Xm.ite_nbf); · with_reducible assumption)
      | ((with_reducible apply Xm.ex_oo); · with_reducible assumption)
      | ((with_reducible apply Xm.dcv_and); · rfl)
      | ((with_reducible apply Xm.dcc_and); · rfl)
      | with_reducible refine Xm.ex_dct ?_
      | ((with_reducible apply Xm.nop_and); · rfl)
      | ((with_reducible apply Xm.wp_rd); · rfl)
      | ((with_reducible apply Xm.wp_rdo); · rfl)
      | ((with_reducible apply Xm.wp_callQ); · rfl)
      | ((with_reducible apply Xm.wp_ixM); · rfl)
      | ((with_reducible apply Xm.wp_lenM); · rfl)
      | ((with_reducible apply Xm.wp_appM); · rfl)
      | ((with_reducible apply Xm.wp_extM); · rfl)
      | ((with_reducible apply Xm.wp_popM); · rfl)
      | ((with_reducible apply Xm.wp_revM); · rfl)
      | ((with_reducible apply Xm.wp_reprM); · rfl)
      | ((with_reducible apply Xm.wp_retM); · rfl)
      | ((with_reducible apply Xm.wp_retMd); · rfl)
      | ((with_reducible apply Xm.wp_aug); · rfl)
      | ((with_reducible apply Xm.wp_setM); · rfl)
      | ((with_reducible apply Xm.wp_frz); · rfl)
      | ((with_reducible apply Xm.wp_frz2); · rfl)
      | ((with_reducible apply Xm.wp_ixD); · rfl)
      | ((with_reducible apply Xm.wp_getD1); · rfl)
      | ((with_reducible apply Xm.wp_getD2); · rfl)
      | ((with_reducible apply Xm.wp_putD); · rfl)
      | ((with_reducible apply Xm.wp_extN); · rfl)
      | ((with_reducible apply Xm.wp_callD); · rfl)
      | ((with_reducible apply Xm.wp_isaM); · rfl))
    refine ⟨_, .inl rfl, ?_⟩
    refine wp_loop (fun ds s => s = [.dat SC, .no, .no, .dat (.list RM), .no, .no, .no, .no, .no] ∧ ∃ q : List Sh, ds = q.map (fun p => .tuple [shD p, rtD p]) ∧ ∀ p ∈ q, ShOk p) ?_ ?_ _ _ ⟨rfl, QS, rfl, hps3⟩
    · rintro d ds s ⟨rfl, q, hds, hq⟩
      cases q with
      | nil => cases hds
      | cons p q =>
        rw [List.map_cons] at hds
        obtain ⟨rfl, rfl⟩ := List.cons.inj hds
        refine ⟨[.dat SC, .no, .no, .dat (.list RM), .dat (shD p), .dat (rtD p), .no, .no, .no], rfl, (hbody (hq p (.head _))).imp ?_⟩
        rintro fl s ⟨rfl, rfl⟩
        exact ⟨rfl, q, rfl, fun p hp => hq p (.tail _ hp)⟩
    · rintro s ⟨rfl, _⟩
      repeat (first
        | with_reducible refine Xm.wp_seq ?_
        | with_reducible refine Xm.wp_asg ?_
        | with_reducible refine Xm.wp_bin2 ?_
        | with_reducible refine Xm.wp_un1 ?_
        | with_reducible refine Xm.wp_consA ?_
        | with_reducible refine Xm.wp_nilA ?_
        | with_reducible refine Xm.wp_cst ?_
        | with_reducible refine Xm.wp_valB ?_
        | with_reducible refine Xm.wp_ifS ?_
        | with_reducible refine Xm.wp_rvD ?_
        | with_reducible refine Xm.wp_rvN ?_
        | with_reducible refine Xm.wp_callP0 ?_
        | with_reducible refine Xm.wp_callP ?_
        | with_reducible refine Xm.wp_callK ?_
        | with_reducible refine Xm.wp_skip ?_
        | with_reducible refine Xm.wp_retS ?_
        | with_reducible refine Xm.wp_retN ?_
        | with_reducible refine Xm.wp_drop ?_
        | with_reducible refine Xm.wp_asgN ?_
        | with_reducible refine Xm.wp_andB ?_
        | with_reducible refine Xm.wp_orB ?_
        | with_reducible refine Xm.wp_notB ?_
        | with_reducible refine Xm.wp_yesB ?_
        | with_reducible refine Xm.wp_boolE ?_
        | with_reducible refine Xm.wp_ifE ?_
        | with_reducible refine Xm.wp_tupF ?_
        | with_reducible refine Xm.wp_lstF ?_
        | with_reducible refine Xm.wp_newF ?_
        | with_reducible refine Xm.wp_listE ?_
        | with_reducible refine Xm.wp_itD ?_
        | with_reducible refine Xm.wp_for ?_
        | with_reducible refine Xm.wp_clr ?_
        | with_reducible refine Xm.wp_par2 ?_
        | with_reducible refine Xm.wp_asgT ?_
        | with_reducible refine Xm.wp_compF ?_
        | with_reducible refine Xm.wp_compR ?_
        | with_reducible refine Xm.wp_itR1 ?_
        | with_reducible refine Xm.wp_cutF ?_
        | with_reducible refine Xm.wp_noO ?_
        | with_reducible refine Xm.wp_someO ?_
        | with_reducible refine Xm.wp_chE ?_
        | with_reducible refine Xm.wp_raise ?_
        | with_reducible refine Xm.wp_retX ?_
        | with_reducible refine Xm.wp_asgX ?_
        | with_reducible refine Xm.wp_dropX ?_
        | with_reducible refine Xm.wp_try ?_
        | with_reducible refine Xm.wp_itK ?_
        | with_reducible refine Xm.wp_itEnum ?_
        | with_reducible refine Xm.wp_asgM ?_
        | with_reducible refine Xm.wp_dicE ?_
        | with_reducible refine Xm.wp_bN ?_
        | with_reducible refine Xm.wp_itEnumA ?_
        | with_reducible refine Xm.wp_rvM ?_
        | with_reducible refine Xm.wp_retD ?_
        | with_reducible refine Xm.wp_compM ?_
        | with_reducible refine Xm.ite_tt ?_
        | with_reducible refine Xm.ite_ff ?_
        | with_reducible refine Xm.ite_nt ?_
        | with_reducible refine Xm.ite_nf ?_
        | with_reducible refine Xm.ite_nes ?_
        | with_reducible refine Xm.ite_eqs ?_
        | with_reducible refine Xm.ite_nei ?_
        | with_reducible refine Xm.ite_eqi ?_
        | with_reducible refine Xm.ex_le ?_
        | with_reducible refine Xm.ex_lt ?_
        | with_reducible refine Xm.ex_bool ?_
        | with_reducible refine Xm.ex_new ?_
        | with_reducible refine Xm.ex_int ?_
        | with_reducible refine Xm.ex_of Xm.k_cat ?_
        | with_reducible refine Xm.ex_of Xm.k_sub ?_
        | with_reducible refine Xm.ex_of Xm.k_lt ?_
        | with_reducible refine Xm.ex_of Xm.k_le ?_
        | with_reducible refine Xm.ex_of Xm.k_gt ?_
        | with_reducible refine Xm.ex_of Xm.k_ge ?_
        | with_reducible refine Xm.ex_of Xm.k_eqI ?_
        | with_reducible refine Xm.ex_of Xm.k_neI ?_
        | with_reducible refine Xm.ex_of Xm.k_eqStr ?_
        | with_reducible refine Xm.ex_of Xm.k_neStr ?_
        | with_reducible refine Xm.ex_of Xm.k_neg ?_
        | with_reducible refine Xm.ex_of Xm.k_abs ?_
        | with_reducible refine Xm.ex_of Xm.k_lenL ?_
        | with_reducible refine Xm.ex_of Xm.k_lenT ?_
        | with_reducible refine Xm.ex_of Xm.k_list ?_
        | with_reducible refine Xm.ex_of Xm.k_listT ?_
        | with_reducible refine Xm.ex_of Xm.k_tupL ?_
        | with_reducible refine Xm.ex_of Xm.k_tupT ?_
        | with_reducible refine Xm.ex_of Xm.k_intB ?_
        | with_reducible refine Xm.ex_of Xm.ix_t0 ?_
        | with_reducible refine Xm.ex_of Xm.ix_t1 ?_
        | with_reducible refine Xm.ex_of Xm.ix_t2 ?_
        | with_reducible refine Xm.ex_of Xm.ix_l0 ?_
        | with_reducible refine Xm.ex_of Xm.ix_l1 ?_
        | with_reducible refine Xm.ex_of Xm.ix_l2 ?_
        | with_reducible refine Xm.ex_of Xm.k_isa ?_
        | with_reducible refine Xm.ex_of Xm.k_cutL ?_
        | with_reducible refine Xm.ex_of Xm.k_cutT ?_
        | with_reducible refine Xm.ex_of Xm.ix_sh0 ?_
        | with_reducible refine Xm.ex_of Xm.ix_sh1 ?_
        | with_reducible refine Xm.ex_of (Xm.k_eqS _ _) ?_
        | ((with_reducible apply Xm.ex_of); · with_reducible assumption)
        | ((with_reducible apply Xm.ex_arr); · (simp only [arr, List.map_cons, List.map_nil, List.getD_cons_zero, List.getD_cons_succ]; rfl))
        | ((with_reducible apply Xm.np_and); · rfl)
        | ((with_reducible apply Xm.np_and); · (show npB _ = true; with_reducible assumption))
        | ((with_reducible apply Xm.len_and); · exact Nat.le_of_ble_eq_true rfl)
        | ((with_reducible apply Xm.mu_and); · rfl)
        | ((with_reducible apply Xm.ite_t); · with_reducible assumption)
        | ((with_reducible apply Xm.ite_f); · with_reducible assumption)
        | ((with_reducible apply Xm.ite_nbt); · with_reducible assumption)
        | ((with_reducible apply Xm.ite_nbf); · with_reducible assumption)
        | ((with_reducible apply Xm.ex_oo); · with_reducible assumption)
        | ((with_reducible apply Xm.dcv_and); · rfl)
        | ((with_reducible apply Xm.dcc_and); · rfl)
        | with_reducible refine Xm.ex_dct ?_
        | ((with_reducible apply Xm.nop_and); · rfl)
        | ((with_reducible apply Xm.wp_rd); · rfl)
        | ((with_reducible apply Xm.wp_rdo); · rfl)
        | ((with_reducible apply Xm.wp_callQ); · rfl)
        | ((with_reducible apply Xm.wp_ixM); · rfl)
        | ((with_reducible apply Xm.wp_lenM); · rfl)
        | ((with_reducible apply Xm.wp_appM); · rfl)
        | ((with_reducible apply Xm.wp_extM); · rfl)
        | ((with_reducible apply Xm.wp_popM); · rfl)
        | ((with_reducible apply Xm.wp_revM); · rfl)
        | ((with_reducible apply Xm.wp_reprM); · rfl)
        | ((with_reducible apply Xm.wp_retM); · rfl)
        | ((with_reducible apply Xm.wp_retMd); · rfl)
        | ((with_reducible apply Xm.wp_aug); · rfl)
        | ((with_reducible apply Xm.wp_setM); · rfl)
        | ((with_reducible apply Xm.wp_frz); · rfl)
        | ((with_reducible apply Xm.wp_frz2); · rfl)
        | ((with_reducible apply Xm.wp_ixD); · rfl)
        | ((with_reducible apply Xm.wp_getD1); · rfl)
        | ((with_reducible apply Xm.wp_getD2); · rfl)
        | ((with_reducible apply Xm.wp_putD); · rfl)
        | ((with_reducible apply Xm.wp_extN); · rfl)
        | ((with_reducible apply Xm.wp_callD); · rfl)
        | ((with_reducible apply Xm.wp_isaM); · rfl))
      rfl
end K64
set_option Elab.async false
set_option linter.all false
set_option maxRecDepth 100000
open PySem PySem.W PyProof.Rows
set_option maxHeartbeats 0 in
theorem PySem.Challenge.cw_crossmarks_k64_best_orders_told_holds : PySem.Challenge.rw_crossmarks_k64_best_orders_told.Holds := by
  w_on; o_law; k_head; (case hw => w_witness2)
  k_fill
  refine Xm.walkG (l := PySem.Challenge.rw_crossmarks_k64_best_orders_told) (n := 63) (k := 11) (x := "_law_script") (mf := K64.mf_law) rfl (by decide) rfl ⟨rfl, by decide, by decide⟩ (fun w h Y => PySem.W.kIn_of Y) ?F K64.law_true
  case F =>
    intro w mg fa h KX G hmg
    refine' K64.all_mk KX G hmg ?a_crossings_in ?l_crossings_in ?c_crossings_in ?k_crossings_in ?a_law_pen ?l_law_pen ?c_law_pen ?k_law_pen ?a_law_pick ?l_law_pick ?c_law_pick ?k_law_pick ?a_law_crossed ?l_law_crossed ?c_law_crossed ?k_law_crossed ?a_crossings ?l_crossings ?c_crossings ?k_crossings ?a_law_mixed ?l_law_mixed ?c_law_mixed ?k_law_mixed ?a_law_rows ?l_law_rows ?c_law_rows ?k_law_rows ?a_all_orders ?l_all_orders ?c_all_orders ?k_all_orders ?a_law_lines ?l_law_lines ?c_law_lines ?k_law_lines ?a_orders_of ?l_orders_of ?c_orders_of ?k_orders_of ?a_law_best ?l_law_best ?c_law_best ?k_law_best ?a_best_orders ?l_best_orders ?c_best_orders ?k_best_orders ?a_law ?l_law ?c_law ?k_law ?z_abs ?z_enumerate ?z_int ?z_len ?z_list ?z_min ?z_range ?z_repr ?z_sorted ?z_sum ?z_tuple ?z_zip
    (case a_crossings_in => k_is); (case l_crossings_in => k_is); (case c_crossings_in => k_is); (case k_crossings_in => k_is); (case a_law_pen => k_is); (case l_law_pen => k_is); (case c_law_pen => k_is); (case k_law_pen => k_is); (case a_law_pick => k_is); (case l_law_pick => k_is); (case c_law_pick => k_is); (case k_law_pick => k_is); (case a_law_crossed => k_is); (case l_law_crossed => k_is); (case c_law_crossed => k_is); (case k_law_crossed => k_is); (case a_crossings => k_is); (case l_crossings => k_is); (case c_crossings => k_is); (case k_crossings => k_is); (case a_law_mixed => k_is); (case l_law_mixed => k_is); (case c_law_mixed => k_is); (case k_law_mixed => k_is); (case a_law_rows => k_is); (case l_law_rows => k_is); (case c_law_rows => k_is); (case k_law_rows => k_is); (case a_all_orders => k_is); (case l_all_orders => k_is); (case c_all_orders => k_is); (case k_all_orders => k_is); (case a_law_lines => k_is); (case l_law_lines => k_is); (case c_law_lines => k_is); (case k_law_lines => k_is); (case a_orders_of => k_is); (case l_orders_of => k_is); (case c_orders_of => k_is); (case k_orders_of => k_is); (case a_law_best => k_is); (case l_law_best => k_is); (case c_law_best => k_is); (case k_law_best => k_is); (case a_best_orders => k_is); (case l_best_orders => k_is); (case c_best_orders => k_is); (case k_best_orders => k_is); (case a_law => k_is); (case l_law => k_is); (case c_law => k_is); (case k_law => k_is); (case z_abs => k_is); (case z_enumerate => k_is); (case z_int => k_is); (case z_len => k_is); (case z_list => k_is); (case z_min => k_is); (case z_range => k_is); (case z_repr => k_is); (case z_sorted => k_is); (case z_sum => k_is); (case z_tuple => k_is); (case z_zip => k_is)
