import PyProof.Rows.All
import Wide.All
import OpenK.AllK
import Wide.FinOn
import HandS.ForMost
import HandS.Wide
import HandS.EndBits
import HandS.ForExc
import KE.KDictKeyed
import KE.KDictWalk
import KE.DataEq
import HandS.Deep
import HandS.Style
import HandS.TupAny
import HandS.Defaults
import PyProof.ReprRoads
import PyProof.ReprLen
import HandS.TupMul
import HandS.NoneIn
import HandS.SortInts
import KE.SortData
import HandS.AnyAll
import HandS.IsInst
import HandS.Iter
import HandS.Zip
import KE.DataFind
import HandS.Conv
import HandS.ExcOwn
import HandS.TryOnly
import PyProof.ExcBaseAll.ZeroDivisionError
import PySem.Challenge.RW_crossmarks_k02_shares_reckoned
set_option Elab.async false
set_option linter.all false
set_option maxRecDepth 100000
/-! My own layer: what an expression or a statement of the program is worth as a plain function over data, and that the hand layer's judgements follow. -/
namespace Xm
open PySem PySem.Spec PyProof.Rows L2

abbrev D := PyData
/-- what stays all along: the module's part of the heap, the text, the world, the module's names -/
structure Kx where
  K : PySem.W.Frag
  P : Program
  w : World
  mg : Str → Option Value
abbrev kxOf (X : Cx) : Kx := ⟨X.K, X.prog, X.w, X.mg⟩
inductive Slot where
  | no
  | dat (d : D)
  | own (xs : List D)
  | pen (xs : List D)
  | dct (kvs : List (D × D))
abbrev AS := List Slot
abbrev EF := AS → Option (D × AS)
abbrev BF := AS → Option (Bool × AS)
abbrev LF := AS → Option (List D × AS)

/-- an exception as data: the name of its class, its fields -/
structure Ex where
  cls : Str
  fs : List (Str × D)
/-- W: what is wished where an exception leaves: of it, the part of the heap that stays, the heap -/
structure Ct where
  H0 : Hp
  F0 : Hp
  pen : Option Addr
  W : WX

/-! ### data over a part of the heap that stays -/
theorem same_rd {F G : Hp} {a : Addr} {u : HO} (e : Same F G) (h : Rd F a u) : Rd G a u := by
  rcases h with h | ⟨o, h⟩
  · exact .inl (e _ _ h)
  · exact .inr ⟨o, e _ _ h⟩
theorem sqt_up {K : Kx} {F G : Hp} {a : Addr} {xs : List V} (e : Same F G) (h : SqT K.K F a xs) : SqT K.K G a xs := by
  rcases h with h | h
  · exact .inl (same_rd e h)
  · exact .inr h
theorem sql_up {K : Kx} {F G : Hp} {a : Addr} {xs : List V} (e : Same F G) (h : SqL K.K F a xs) : SqL K.K G a xs := by
  rcases h with h | h
  · exact .inl (same_rd e h)
  · exact .inr h
/-! ### keys of dicts -/
mutual
def keyOf : D → Option NestedKey
  | .none => some .none
  | .bool b => some (.num (if b = true then 1 else 0))
  | .int i => some (.num i)
  | .str x => some (.text x)
  | .tuple ds => (keysOf ds).map .tup
  | .list _ => none
  | .dict _ => none
def keysOf : List D → Option (List NestedKey)
  | [] => some []
  | d :: ds => (keyOf d).bind fun k => (keysOf ds).map (k :: ·)
end
def keyD : Key → D
  | .inl i => .int i
  | .inr x => .str x
/-- a dict whose keys are tuples: key, the key's tuple, value -/
abbrev Row := NestedKey × Addr × V
def dtO (K : Kx) (a : Addr) (rows : List Row) : HO := .ext fun h => (a == sysModules) = false ∧ (rows.map (·.1)).Nodup ∧ ∃ (o : Obj) (es : Array DictEntry) (ep : Nat) (xs : List (NestedKey × Addr × Value)),
  h.get? a = some o ∧ o.ExactDict ∧ o.data = .dict es ep ∧ es.toList = xs.map (entryOfKey (nestedKind K.P K.w)) ∧ Paired (fun (r : Row) (x : NestedKey × Addr × Value) => r.1 = x.1 ∧ r.2.1 = x.2.1 ∧ RelV r.2.2 x.2.2) rows xs

/-! ### data in a part of the heap -/
mutual
inductive Dp (K : Kx) (H : Hp) : V → D → Prop
  | non : Dp K H .non .none
  | bl (b : Bool) : Dp K H (.bl b) (.bool b)
  | int (i : Int) : Dp K H (.int i) (.int i)
  | str (x : Str) : Dp K H (.str x) (.str x)
  | lst {a : Addr} {xs : List V} {ds : List D} : SqL K.K H a xs → DpAll K H xs ds → Dp K H (.ref a) (.list ds)
  | tup {a : Addr} {xs : List V} {ds : List D} : SqT K.K H a xs → DpAll K H xs ds → Dp K H (.ref a) (.tuple ds)
  | dtp {a : Addr} {rows : List Row} {kvs : List (D × D)} {ks vs : List D} {ws : List V} : H a = some (dtO K a rows) → ks = kvs.map (·.1) → vs = kvs.map (·.2) → rows.length ≤ sizeLine → keysOf ks = some (rows.map (·.1)) → (∀ r ∈ rows, r.1.depth ≤ 8) →
      ws = rows.map (fun r => V.ref r.2.1) → DpAll K H ws ks → DpAll K H (rows.map (·.2.2)) vs → Dp K H (.ref a) (.dict kvs)
  | dky {a : Addr} {ps : List (Key × V)} {kvs : List (D × D)} {vs : List D} : H a = some (.dK ps) → kvs.map (·.1) = ps.map (fun p => keyD p.1) → vs = kvs.map (·.2) → ps.length ≤ sizeLine → DpAll K H (ps.map (·.2)) vs → Dp K H (.ref a) (.dict kvs)
inductive DpAll (K : Kx) (H : Hp) : List V → List D → Prop
  | nil : DpAll K H [] []
  | cons {v : V} {vs : List V} {d : D} {ds : List D} : Dp K H v d → DpAll K H vs ds → DpAll K H (v :: vs) (d :: ds)
end
mutual
theorem Dp_up {K : Kx} {F G : Hp} {d : D} {v : V} (h : Dp K F v d) (e : Same F G) : Dp K G v d := match h with
  | .non => .non
  | .bl b => .bl b
  | .int i => .int i
  | .str x => .str x
  | .lst hs ha => .lst (sql_up e hs) (DpAll_up ha e)
  | .tup hs ha => .tup (sqt_up e hs) (DpAll_up ha e)
  | .dtp ha e1 e2 hl hk hd e3 h1 h2 => .dtp (e _ _ ha) e1 e2 hl hk hd e3 (DpAll_up h1 e) (DpAll_up h2 e)
  | .dky ha e1 e2 hl h2 => .dky (e _ _ ha) e1 e2 hl (DpAll_up h2 e)
theorem DpAll_up {K : Kx} {F G : Hp} {ds : List D} {vs : List V} (h : DpAll K F vs ds) (e : Same F G) : DpAll K G vs ds := match h with
  | .nil => .nil
  | .cons h1 h2 => .cons (Dp_up h1 e) (DpAll_up h2 e)
end
theorem DpAll_len {K : Kx} {F : Hp} : ∀ {vs : List V} {ds : List D}, DpAll K F vs ds → vs.length = ds.length
  | _, _, .nil => rfl
  | _, _, .cons _ h => by simp [DpAll_len h]
theorem DpAll_get {K : Kx} {F : Hp} : ∀ {vs : List V} {ds : List D} {i : Nat} {d : D}, DpAll K F vs ds → ds[i]? = some d → ∃ v, vs[i]? = some v ∧ Dp K F v d
  | _, _, _, _, .nil, e => by simp at e
  | _, _, 0, _, .cons h _, e => by simp at e; subst e; exact ⟨_, rfl, h⟩
  | _, _, i + 1, _, .cons _ h, e => by
    obtain ⟨v, h1, h2⟩ := DpAll_get (i := i) h (by simpa using e)
    exact ⟨v, by simpa using h1, h2⟩
theorem DpAll_get' {K : Kx} {F : Hp} : ∀ {vs : List V} {ds : List D} {i : Nat} {v : V}, DpAll K F vs ds → vs[i]? = some v → ∃ d, ds[i]? = some d ∧ Dp K F v d
  | _, _, _, _, .nil, e => by simp at e
  | _, _, 0, _, .cons h _, e => by simp at e; subst e; exact ⟨_, rfl, h⟩
  | _, _, i + 1, _, .cons _ h, e => by
    obtain ⟨v, h1, h2⟩ := DpAll_get' (i := i) h (by simpa using e)
    exact ⟨v, by simpa using h1, h2⟩
theorem DpAll_app {K : Kx} {F : Hp} : ∀ {vs us : List V} {ds es : List D}, DpAll K F vs ds → DpAll K F us es → DpAll K F (vs ++ us) (ds ++ es)
  | _, _, _, _, .nil, h => h
  | _, _, _, _, .cons h1 h2, h => .cons h1 (DpAll_app h2 h)
theorem DpAll_set {K : Kx} {F : Hp} : ∀ {vs : List V} {ds : List D} {v : V} {d : D} (i : Nat), DpAll K F vs ds → Dp K F v d → DpAll K F (vs.set i v) (ds.set i d)
  | _, _, _, _, _, .nil, _ => .nil
  | _, _, _, _, 0, .cons _ h2, h => .cons h h2
  | _, _, _, _, i + 1, .cons h1 h2, h => .cons h1 (DpAll_set i h2 h)
theorem DpAll_take {K : Kx} {F : Hp} : ∀ {vs : List V} {ds : List D} (n : Nat), DpAll K F vs ds → DpAll K F (vs.take n) (ds.take n)
  | _, _, 0, _ => .nil
  | _, _, _ + 1, .nil => .nil
  | _, _, n + 1, .cons h1 h2 => .cons h1 (DpAll_take n h2)
theorem DpAll_drop {K : Kx} {F : Hp} : ∀ {vs : List V} {ds : List D} (n : Nat), DpAll K F vs ds → DpAll K F (vs.drop n) (ds.drop n)
  | _, _, 0, h => h
  | _, _, _ + 1, .nil => .nil
  | _, _, n + 1, .cons h1 h2 => DpAll_drop n h2
theorem DpAll_erase {K : Kx} {F : Hp} : ∀ {vs : List V} {ds : List D} (n : Nat), DpAll K F vs ds → DpAll K F (vs.eraseIdx n) (ds.eraseIdx n)
  | _, _, _, .nil => .nil
  | _, _, 0, .cons _ h2 => h2
  | _, _, n + 1, .cons h1 h2 => .cons h1 (DpAll_erase n h2)
theorem DpAll_rev {K : Kx} {F : Hp} : ∀ {vs : List V} {ds : List D}, DpAll K F vs ds → DpAll K F vs.reverse ds.reverse
  | _, _, .nil => .nil
  | _, _, .cons h1 h2 => by
    rw [List.reverse_cons, List.reverse_cons]
    exact DpAll_app (DpAll_rev h2) (.cons h1 .nil)

/-- the part that stays grows with the heap -/
structure Gr (F H F' H' : Hp) : Prop where
  ff : Same F F'
  fh : Same F' H'
  hh : Same H H'
  nw : ∀ a, F' a ≠ none → F a ≠ none ∨ H a = none
theorem Gr.refl {F H : Hp} (e : Same F H) : Gr F H F H := ⟨Same.refl _, e, Same.refl _, fun _ h => .inl h⟩
theorem Gr.trans {F H F1 H1 F2 H2 : Hp} (a : Gr F H F1 H1) (b : Gr F1 H1 F2 H2) : Gr F H F2 H2 :=
  ⟨a.ff.trans b.ff, b.fh, a.hh.trans b.hh, fun x h => (b.nw x h).elim (a.nw x) fun e => .inr (a.hh.free e)⟩
theorem same_upd {H : Hp} {p : Addr} {o : HO} (h : H p = none) : Same H (upd H p o) := fun b x e => by
  rw [upd_ne (ne_of_none e h)]
  exact e
theorem upd_mono {F H : Hp} {p : Addr} {o : HO} (e : Same F H) (h : H p = none) : Same (upd F p o) (upd H p o) := fun b x q => by
  by_cases hb : b = p
  · subst hb
    rw [upd_same] at q ⊢
    exact q
  · rw [upd_ne hb] at q ⊢
    exact e b x q
theorem Gr.new {F H : Hp} {p : Addr} {o : HO} (e : Same F H) (h : H p = none) : Gr F H (upd F p o) (upd H p o) :=
  ⟨same_upd (e.free h), upd_mono e h, same_upd h, fun a q => by
    by_cases ha : a = p
    · subst ha; exact .inr h
    · rw [upd_ne ha] at q; exact .inl q⟩

def Lst (K : Kx) (F H : Hp) (a : Addr) (xs : List D) : Prop := F a = none ∧ ∃ vs, H a = some (.lst vs) ∧ DpAll K F vs xs
/-- the object u at a is the dict kvs -/
def DR (K : Kx) (F : Hp) (a : Addr) (u : HO) (kvs : List (D × D)) : Prop :=
  (∃ rows : List Row, u = dtO K a rows ∧ rows.length ≤ sizeLine ∧ keysOf (kvs.map (·.1)) = some (rows.map (·.1)) ∧ (∀ r ∈ rows, r.1.depth ≤ 8) ∧ DpAll K F (rows.map fun r => V.ref r.2.1) (kvs.map (·.1)) ∧ DpAll K F (rows.map (·.2.2)) (kvs.map (·.2))) ∨
  ∃ ps : List (Key × V), u = .dK ps ∧ kvs.map (·.1) = ps.map (fun p => keyD p.1) ∧ ps.length ≤ sizeLine ∧ DpAll K F (ps.map (·.2)) (kvs.map (·.2))
def Dct (K : Kx) (F H : Hp) (a : Addr) (kvs : List (D × D)) : Prop := F a = none ∧ ∃ u, H a = some u ∧ DR K F a u kvs
theorem DR.up {K : Kx} {F G : Hp} {a : Addr} {u : HO} {kvs : List (D × D)} (h : DR K F a u kvs) (e : Same F G) : DR K G a u kvs := by
  rcases h with ⟨rows, h1, h2, h3, h4, h5, h6⟩ | ⟨ps, h1, h2, h3, h4⟩
  · exact .inl ⟨rows, h1, h2, h3, h4, DpAll_up h5 e, DpAll_up h6 e⟩
  · exact .inr ⟨ps, h1, h2, h3, DpAll_up h4 e⟩
theorem DR.dp {K : Kx} {F G : Hp} {a : Addr} {u : HO} {kvs : List (D × D)} (h : DR K F a u kvs) (e : Same F G) (ha : G a = some u) : Dp K G (.ref a) (.dict kvs) := by
  rcases h with ⟨rows, rfl, h2, h3, h4, h5, h6⟩ | ⟨ps, rfl, h2, h3, h4⟩
  · exact .dtp ha rfl rfl h2 h3 h4 rfl (DpAll_up h5 e) (DpAll_up h6 e)
  · exact .dky ha h2 rfl h3 (DpAll_up h4 e)
def SlotOk (K : Kx) (C : Ct) (F H : Hp) : Slot → Option (Option V) → Prop
  | .no, _ => True
  | .dat d, x => ∃ v, x = some (some v) ∧ Dp K F v d
  | .own xs, x => ∃ a, x = some (some (.ref a)) ∧ C.H0 a = none ∧ Lst K F H a xs
  | .pen xs, x => ∃ a, x = some (some (.ref a)) ∧ C.pen = some a ∧ Lst K F H a xs
  | .dct kvs, x => ∃ a, x = some (some (.ref a)) ∧ C.H0 a = none ∧ Dct K F H a kvs
/-- the i-th slot holds a list that is still changed -/
def Slot.mu : Slot → Bool
  | .no => false
  | .dat _ => false
  | .own _ => true
  | .pen _ => true
  | .dct _ => true
def Mu (st : AS) (i : Nat) : Prop := ∃ s : Slot, st[i]? = some s ∧ s.mu = true

structure Rel (K : Kx) (C : Ct) (F : Hp) (st : AS) (σ : L2.St) (H : Hp) : Prop where
  len : st.length = σ.length
  f0 : Same C.F0 F
  fh : Same F H
  old : ∀ a o, C.H0 a = some o → C.pen ≠ some a → H a = some o
  new : ∀ a, C.F0 a = none → C.H0 a ≠ none → F a = none
  slot : ∀ (i : Nat) (s : Slot), st[i]? = some s → SlotOk K C F H s σ[i]?
  apart : ∀ (i j : Nat) (a : Addr), Mu st i → Mu st j → σ[i]? = some (some (.ref a)) → σ[j]? = some (some (.ref a)) → i = j
  penh : ∀ p, C.pen = some p → C.H0 p ≠ none
  pent : ∀ p, C.pen = some p → H p ≠ none

section
variable {K : Kx} {C : Ct} {F F' H H' : Hp} {st : AS} {σ : L2.St}
theorem Lst.grow {a : Addr} {xs : List D} (h : Lst K F H a xs) (g : Gr F H F' H') : Lst K F' H' a xs := by
  obtain ⟨h1, vs, h2, h3⟩ := h
  refine ⟨?_, vs, g.hh _ _ h2, DpAll_up h3 g.ff⟩
  cases e : F' a with
  | none => rfl
  | some o =>
    rcases g.nw a (by rw [e]; simp) with z | z
    · exact absurd h1 z
    · rw [h2] at z; cases z
theorem Dct.grow {a : Addr} {kvs : List (D × D)} (h : Dct K F H a kvs) (g : Gr F H F' H') : Dct K F' H' a kvs := by
  obtain ⟨h1, u, h2, h3⟩ := h
  refine ⟨?_, u, g.hh _ _ h2, h3.up g.ff⟩
  cases e : F' a with
  | none => rfl
  | some o =>
    rcases g.nw a (by rw [e]; simp) with z | z
    · exact absurd h1 z
    · rw [h2] at z; cases z
theorem Rel.grow (R : Rel K C F st σ H) (g : Gr F H F' H') : Rel K C F' st σ H' where
  len := R.len
  f0 := R.f0.trans g.ff
  fh := g.fh
  old := fun a o h hp => g.hh _ _ (R.old a o h hp)
  new := fun a h0 h1 => by
    have hF := R.new a h0 h1
    cases e : F' a with
    | none => rfl
    | some o =>
      rcases g.nw a (by rw [e]; simp) with z | z
      · exact absurd hF z
      · by_cases hp : C.pen = some a
        · exfalso
          exact R.pent a hp z
        · cases q : C.H0 a with
          | none => exact absurd q h1
          | some u => rw [R.old a u q hp] at z; cases z
  slot := fun i s h => by
    have q := R.slot i s h
    cases s with
    | no => trivial
    | dat d =>
      obtain ⟨v, h1, h2⟩ := q
      exact ⟨v, h1, Dp_up h2 g.ff⟩
    | own xs =>
      obtain ⟨a, h1, h2, h3⟩ := q
      exact ⟨a, h1, h2, h3.grow g⟩
    | pen xs =>
      obtain ⟨a, h1, h2, h3⟩ := q
      exact ⟨a, h1, h2, h3.grow g⟩
    | dct kvs =>
      obtain ⟨a, h1, h2, h3⟩ := q
      exact ⟨a, h1, h2, h3.grow g⟩
  apart := R.apart
  penh := R.penh
  pent := fun p hp => by
    cases e : H p with
    | none => exact absurd e (R.pent p hp)
    | some o => rw [g.hh _ _ e]; simp
end
end Xm

set_option Elab.async false
set_option linter.all false
set_option maxRecDepth 100000
namespace Xm
open PySem PySem.Spec PyProof.Rows L2

section
variable (K : Kx) (C : Ct)
/-- an expression that is worth data -/
def dOf (f : EF) : TE := fun σ H Q => ∃ F st r, Rel K C F st σ H ∧ f st = some r ∧ ∀ v H' F', Same F F' → Rel K C F' r.2 σ H' → Dp K F' v r.1 → Q v H'
/-- a new list -/
def nOf (f : LF) : TE := fun σ H Q => ∃ F st r, Rel K C F st σ H ∧ f st = some r ∧ ∀ (a : Addr) (vs : List V) H' F', Same F F' → Rel K C F' r.2 σ H' → C.H0 a = none → F' a = none → H' a = some (.lst vs) →
  (∀ j, Mu r.2 j → σ[j]? ≠ some (some (.ref a))) → DpAll K F' vs r.1 → Q (.ref a) H'
/-- a test -/
def bOf (f : BF) : TT := fun σ H Q => ∃ F st r, Rel K C F st σ H ∧ f st = some r ∧ ∀ H' F', Same F F' → Rel K C F' r.2 σ H' → Q r.1 H'
/-- several, from the left -/
def aOf (f : LF) : TA := fun σ H Q => ∃ F st r, Rel K C F st σ H ∧ f st = some r ∧ ∀ vs H' F', Same F F' → Rel K C F' r.2 σ H' → DpAll K F' vs r.1 → Q vs H'
end

section
variable {X : Cx} {e : Expr} {es : List Expr}
theorem pe_wk {t t' : TE} (h : PE X e t) (w : ∀ σ H Q, t' σ H Q → t σ H Q) : PE X e t' := ⟨fun pins s σ H Q I q => h.run pins s σ H Q I (w σ H Q q)⟩
theorem pt_wk {t t' : TT} (h : PT X e t) (w : ∀ σ H Q, t' σ H Q → t σ H Q) : PT X e t' := ⟨fun pins s σ H Q I q => h.run pins s σ H Q I (w σ H Q q)⟩
theorem pw_wk {t t' : TT} (h : PW X e t) (w : ∀ σ H Q, t' σ H Q → t σ H Q) : PW X e t' := ⟨fun wh pins s σ H Q I q => h.run wh pins s σ H Q I (w σ H Q q)⟩
theorem pa_wk {t t' : TA} (h : PA X es t) (w : ∀ σ H Q, t' σ H Q → t σ H Q) : PA X es t' := ⟨fun pos pins s σ H Q I q => h.run pos pins s σ H Q I (w σ H Q q)⟩
theorem ps_wk {st : Stmt} {t t' : TS} (h : PS X st t) (w : ∀ D σ H, t' D σ H → t D σ H) : PS X st t' := ⟨fun pins s σ H D I q => h.run pins s σ H D I (w D σ H q)⟩
theorem pss_wk {st : List Stmt} {t t' : TS} (h : PSs X st t) (w : ∀ D σ H, t' D σ H → t D σ H) : PSs X st t' := ⟨fun pins s σ H D I q => h.run pins s σ H D I (w D σ H q)⟩
theorem pg_wk {t t' : TG} (h : PG X e t) (w : ∀ v σ H Q, t' v σ H Q → t v σ H Q) : PG X e t' := ⟨fun pins s σ H v u Q I r q => h.run pins s σ H v u Q I r (w v σ H Q q)⟩
theorem pi_wk {tg : Expr} {t t' : TI} (h : PI X tg e t) (w : ∀ σ H Q, t' σ H Q → t σ H Q) : PI X tg e t' := ⟨fun pins s σ H Q I q => h.run pins s σ H Q I (w σ H Q q)⟩
end

/-! ### names and constants -/
def cst (d : D) : EF := fun st => some (d, st)
def rd (i : Nat) : EF := fun st => match st[i]? with
  | some (.dat d) => some (d, st)
  | some (.own xs) => some (.list xs, st.set i (.dat (.list xs)))
  | _ => none

section
variable {K : Kx} {C : Ct} {F F' H H' : Hp} {st : AS} {σ : L2.St}
theorem mu_set_dat {i j : Nat} {d : D} (h : Mu (st.set i (.dat d)) j) : Mu st j ∧ j ≠ i := by
  obtain ⟨s, h, hm⟩ := h
  by_cases e : j = i
  · subst e
    exfalso
    rw [List.getElem?_set_self'] at h
    cases q : st[j]? with
    | none => rw [q] at h; simp at h
    | some u => rw [q] at h; simp at h; subst h; cases hm
  · rw [List.getElem?_set_ne (Ne.symm e)] at h
    exact ⟨⟨s, h, hm⟩, e⟩
/-- a list that is no longer changed -/
theorem Rel.freeze {i : Nat} {xs : List D} (R : Rel K C F st σ H) (h : st[i]? = some (.own xs)) :
    ∃ v F', σ[i]? = some (some v) ∧ Same F F' ∧ Rel K C F' (st.set i (.dat (.list xs))) σ H ∧ Dp K F' v (.list xs) := by
  obtain ⟨a, ha, h0, hF, vs, hH, hv⟩ := R.slot i _ h
  have hff : Same F (upd F a (.lst vs)) := same_upd hF
  have hd : Dp K (upd F a (.lst vs)) (.ref a) (.list xs) := .lst (.inl (.inl upd_same)) (DpAll_up hv hff)
  have hi : i < st.length := (List.getElem?_eq_some_iff.mp h).1
  refine ⟨.ref a, upd F a (.lst vs), ha, hff, ⟨?_, R.f0.trans hff, ?_, R.old, ?_, ?_, ?_, R.penh, R.pent⟩, hd⟩
  · rw [List.length_set]; exact R.len
  · intro b o e
    by_cases hb : b = a
    · subst hb; rw [upd_same] at e; cases e; exact hH
    · rw [upd_ne hb] at e; exact R.fh _ _ e
  · intro b hb0 hb1
    have hb : b ≠ a := fun z => by subst z; exact hb1 h0
    rw [upd_ne hb]
    exact R.new b hb0 hb1
  · intro j s hj
    by_cases e : j = i
    · subst e
      rw [List.getElem?_set_self hi] at hj
      cases hj
      exact ⟨_, ha, hd⟩
    · rw [List.getElem?_set_ne (Ne.symm e)] at hj
      have q := R.slot j s hj
      cases s with
      | no => trivial
      | dat d => obtain ⟨v, q1, q2⟩ := q; exact ⟨v, q1, Dp_up q2 hff⟩
      | own ys =>
        obtain ⟨b, q1, q2, q3, us, q4, q5⟩ := q
        have hb : b ≠ a := fun z => by
          subst z
          exact e (R.apart j i b ⟨_, hj, rfl⟩ ⟨_, h, rfl⟩ q1 ha)
        exact ⟨b, q1, q2, by rw [upd_ne hb]; exact q3, us, q4, DpAll_up q5 hff⟩
      | pen ys =>
        obtain ⟨b, q1, q2, q3, us, q4, q5⟩ := q
        have hb : b ≠ a := fun z => by
          subst z
          exact R.penh b q2 h0
        exact ⟨b, q1, q2, by rw [upd_ne hb]; exact q3, us, q4, DpAll_up q5 hff⟩
      | dct kvs =>
        obtain ⟨b, q1, q2, q3, u, q4, q5⟩ := q
        have hb : b ≠ a := fun z => by
          subst z
          exact e (R.apart j i b ⟨_, hj, rfl⟩ ⟨_, h, rfl⟩ q1 ha)
        exact ⟨b, q1, q2, by rw [upd_ne hb]; exact q3, u, q4, q5.up hff⟩
  · intro j k b hj hk
    exact R.apart j k b (mu_set_dat hj).1 (mu_set_dat hk).1
theorem rel_mono_slots {st' : AS} (R : Rel K C F st σ H) (hl : st'.length = st.length) (h : ∀ (i : Nat) (s : Slot), st'[i]? = some s → s = .no ∨ st[i]? = some s) : Rel K C F st' σ H where
  len := hl.trans R.len
  f0 := R.f0
  fh := R.fh
  old := R.old
  new := R.new
  slot := fun i s e => by
    rcases h i s e with z | z
    · subst z; trivial
    · exact R.slot i s z
  apart := fun i j a hi hj => R.apart i j a (by
      obtain ⟨s, e, m⟩ := hi
      rcases h i _ e with z | z
      · subst z; cases m
      · exact ⟨s, z, m⟩) (by
      obtain ⟨s, e, m⟩ := hj
      rcases h j _ e with z | z
      · subst z; cases m
      · exact ⟨s, z, m⟩)
  penh := R.penh
  pent := R.pent
end

section
variable {X : Cx} {C : Ct} {pos : Pos}
theorem xd_c {e : Expr} {v : V} {d : D} (h : PE X e (tC v)) (hd : ∀ F, Dp (kxOf X) F v d) : PE X e (dOf (kxOf X) C (cst d)) := pe_wk h fun σ H Q q => by
  obtain ⟨F, st, r, R, e, k⟩ := q
  cases e
  exact k v H F (Same.refl _) R (hd F)
theorem xd_int {i j} : PE X (.Constant (.int i) j pos) (dOf (kxOf X) C (cst (.int i))) := xd_c pe_int fun _ => .int i
theorem xd_bl {b j} : PE X (.Constant (.bool b) j pos) (dOf (kxOf X) C (cst (.bool b))) := xd_c pe_bl fun _ => .bl b
theorem xd_non {j} : PE X (.Constant .none j pos) (dOf (kxOf X) C (cst .none)) := xd_c pe_non fun _ => .non
theorem xd_str {x j} : PE X (.Constant (.str x) j pos) (dOf (kxOf X) C (cst (.str x))) := xd_c pe_str fun _ => .str x
theorem xd_rd {i : Nat} {e : Expr} (h : PE X e (tVar i)) : PE X e (dOf (kxOf X) C (rd i)) := pe_wk h fun σ H Q q => by
  obtain ⟨F, st, r, R, e, k⟩ := q
  unfold rd at e
  split at e
  · rename_i d hd
    cases e
    obtain ⟨v, h1, h2⟩ := R.slot i _ hd
    exact ⟨v, h1, k v H F (Same.refl _) R h2⟩
  · rename_i xs hx
    cases e
    obtain ⟨v, F', h1, h2, h3, h4⟩ := R.freeze hx
    exact ⟨v, h1, k v H F' h2 h3 h4⟩
  · cases e
end

/-! ### two in a row -/
def bin2 (k : D → D → Option D) (f g : EF) : EF := fun st => (f st).bind fun a => (g a.2).bind fun b => (k a.1 b.1).map fun z => (z, b.2)
/-- an operation on values that does as k says -/
def Ok2 (K : Kx) (r : R2) (k : D → D → Option D) : Prop :=
  ∀ (F H : Hp) (x y : V) (a b z : D) (Q : VK), Same F H → Dp K F x a → Dp K F y b → k a b = some z → (∀ v F' H', Gr F H F' H' → Dp K F' v z → Q v H') → r x y H Q
theorem bin2_ok {K : Kx} {C : Ct} {r : R2} {k : D → D → Option D} {f g : EF} (ok : Ok2 K r k) {σ : L2.St} {H : Hp} {Q : VK} (q : dOf K C (bin2 k f g) σ H Q) : tOp r (dOf K C f) (dOf K C g) σ H Q := by
  obtain ⟨F, st, w, R, e, q⟩ := q
  unfold bin2 at e
  obtain ⟨a, ea, e⟩ := Option.bind_eq_some_iff.mp e
  obtain ⟨b, eb, e⟩ := Option.bind_eq_some_iff.mp e
  obtain ⟨z, ez, e⟩ := Option.map_eq_some_iff.mp e
  cases e
  refine ⟨F, st, a, R, ea, fun v H1 F1 s1 R1 d1 => ?_⟩
  refine ⟨F1, a.2, b, R1, eb, fun u H2 F2 s2 R2 d2 => ?_⟩
  exact ok F2 H2 v u a.1 b.1 z Q R2.fh (Dp_up d1 s2) d2 ez fun y F3 H3 g d3 => q y H3 F3 ((s1.trans s2).trans g.ff) (R2.grow g) d3
section
variable {X : Cx} {C : Ct} {pos : Pos} {a b : Expr} {f g : EF} {r : R2} {k : D → D → Option D}
theorem xd_op {op : Operator} (ho : OpR X (binaryOp op) r) (ok : Ok2 (kxOf X) r k) (ha : PE X a (dOf (kxOf X) C f)) (hb : PE X b (dOf (kxOf X) C g)) : PE X (.BinOp a op b pos) (dOf (kxOf X) C (bin2 k f g)) :=
  pe_wk (pe_op ho ha hb) fun _ _ _ q => bin2_ok ok q
theorem xd_cmp {op : CmpOp} (ho : OpR X (compareOp op) r) (ok : Ok2 (kxOf X) r k) (ha : PE X a (dOf (kxOf X) C f)) (hb : PE X b (dOf (kxOf X) C g)) (hm : behindInMarks op b = false) : PE X (.Compare a [op] [b] pos) (dOf (kxOf X) C (bin2 k f g)) :=
  pe_wk (pe_cmpR ho ha hb hm) fun _ _ _ q => bin2_ok ok q
theorem xd_ix (hr : IxR X r) (ok : Ok2 (kxOf X) r k) (ha : PE X a (dOf (kxOf X) C f)) (hb : PE X b (dOf (kxOf X) C g)) (hs : PlainIx b) : PE X (.Subscript a b pos) (dOf (kxOf X) C (bin2 k f g)) :=
  pe_wk (pe_ix hr ha hb hs) fun _ _ _ q => bin2_ok ok q
end

/-! ### data without dicts, read by the machine's own relation -/
section
variable {X : Cx} {pins : List (Addr × Obj)} {σ : L2.St} {H : Hp} {s : Shared}
mutual
theorem Dp.reads (I : Inv X pins σ H s) : ∀ (d : D) (v : V) (u : Value), d.plain = true → Dp (kxOf X) H v d → RelV v u → ∃ as, Reads s.heap u d as
  | .none, _, _, _, h, r => by
    cases h
    cases r
    exact ⟨_, Reads.none⟩
  | .bool b, _, _, _, h, r => by
    cases h
    cases r
    exact ⟨_, Reads.bool b⟩
  | .int i, _, _, _, h, r => by
    cases h
    obtain ⟨t, rfl⟩ := r
    exact ⟨_, Reads.int i t⟩
  | .str x, _, _, _, h, r => by
    cases h
    obtain ⟨t, rfl⟩ := r
    exact ⟨_, Reads.str x t⟩
  | .list ds, _, _, c, h, r => by
    cases h with
    | lst hs ha =>
      cases r
      obtain ⟨its, rv, ⟨o, n, ho, hc, _, hd⟩, _⟩ := I.list hs
      obtain ⟨as, hr⟩ := Dp.readsAll I ds _ its (by simpa [PyData.plain] using c) ha rv
      exact ⟨_, Reads.list ho hc hd hr⟩
  | .tuple ds, _, _, c, h, r => by
    cases h with
    | tup hs ha =>
      cases r
      obtain ⟨its, rv, ⟨o, ho, hc, n, hd⟩, _⟩ := I.tuple hs
      obtain ⟨as, hr⟩ := Dp.readsAll I ds _ its (by simpa [PyData.plain] using c) ha rv
      exact ⟨_, Reads.tuple ho hc hd hr⟩
  | .dict _, _, _, c, _, _ => by simp [PyData.plain] at c
theorem Dp.readsAll (I : Inv X pins σ H s) : ∀ (ds : List D) (vs : List V) (us : List Value), PyData.plainAll ds = true → DpAll (kxOf X) H vs ds → Vals vs us → ∃ as, ReadsAll s.heap us ds as
  | [], _, _, _, h, r => by
    cases h
    cases r
    exact ⟨_, ReadsAll.nil⟩
  | d :: ds, _, _, c, h, r => by
    have c2 : d.plain = true ∧ PyData.plainAll ds = true := by simpa [PyData.plainAll] using c
    cases h with
    | cons h1 h2 =>
      cases r with
      | cons r1 r2 =>
        obtain ⟨as, q1⟩ := Dp.reads I d _ _ c2.1 h1 r1
        obtain ⟨bs, q2⟩ := Dp.readsAll I ds _ _ c2.2 h2 r2
        exact ⟨_, ReadsAll.cons q1 q2⟩
end
theorem canLay_sh {d : D} (h : SeqAt.shaped d = true) : d.plain = true := PyData.plain_of_canLay0 d (SeqAt.canLay_of_shaped h)
def rEqD (K : Kx) : R2 := fun x y H Q => ∃ d e, Dp K H x d ∧ Dp K H y e ∧ SeqAt.shaped d = true ∧ SeqAt.shaped e = true ∧ Q (.bl (PyData.eqv d e)) H
def rNeD (K : Kx) : R2 := fun x y H Q => ∃ d e, Dp K H x d ∧ Dp K H y e ∧ SeqAt.shaped d = true ∧ SeqAt.shaped e = true ∧ Q (.bl (!PyData.eqv d e)) H
theorem op_eqD (hu : X.A.units + 64 < cLine) : OpR X (compareOp .Eq) (rEqD (kxOf X)) := by
  intro pins s σ H x y v u Q I rx ry h
  obtain ⟨d, e, hd, he, sd, se, q⟩ := h
  obtain ⟨as, r1⟩ := Dp.reads I d x v (canLay_sh sd) hd rx
  obtain ⟨bs, r2⟩ := Dp.reads I e y u (canLay_sh se) he ry
  exact SeqAt.compareEq_shaped r1 r2 sd se hu ⟨.bl _, H, I, rfl, q⟩
theorem op_neD (hu : X.A.units + 64 < cLine) : OpR X (compareOp .NotEq) (rNeD (kxOf X)) := by
  intro pins s σ H x y v u Q I rx ry h
  obtain ⟨d, e, hd, he, sd, se, q⟩ := h
  obtain ⟨as, r1⟩ := Dp.reads I d x v (canLay_sh sd) hd rx
  obtain ⟨bs, r2⟩ := Dp.reads I e y u (canLay_sh se) he ry
  exact SeqAt.compareNe_shaped r1 r2 sd se hu ⟨.bl _, H, I, rfl, q⟩
end

/-! ### ints -/
def kAdd : D → D → Option D
  | .int i, .int j => some (.int (i + j))
  | _, _ => none
def kSub : D → D → Option D
  | .int i, .int j => some (.int (i - j))
  | _, _ => none
def kMul : D → D → Option D
  | .int i, .int j => if i.natAbs.log2 + j.natAbs.log2 < 1000000 then some (.int (i * j)) else none
  | _, _ => none
def kDiv : D → D → Option D
  | .int i, .int j => if j ≠ 0 ∧ j.natAbs.log2 < 9000 then some (.int (i.fdiv j)) else none
  | _, _ => none
def kMod : D → D → Option D
  | .int i, .int j => if j ≠ 0 then some (.int (i.fmod j)) else none
  | _, _ => none
def kPow : D → D → Option D
  | .int i, .int j => if 0 ≤ j ∧ j ≤ 1000000 ∧ i.natAbs < 2 ^ 64 then some (.int (i ^ j.toNat)) else none
  | _, _ => none
def kLt : D → D → Option D
  | .int i, .int j => some (.bool (decide (i < j)))
  | _, _ => none
def kLe : D → D → Option D
  | .int i, .int j => some (.bool (decide (i ≤ j)))
  | _, _ => none
def kGt : D → D → Option D
  | .int i, .int j => some (.bool (decide (j < i)))
  | _, _ => none
def kGe : D → D → Option D
  | .int i, .int j => some (.bool (decide (j ≤ i)))
  | _, _ => none
def kEqD : D → D → Option D := fun a b => if SeqAt.shaped a = true ∧ SeqAt.shaped b = true then some (.bool (PyData.eqv a b)) else none
def kNeD : D → D → Option D := fun a b => if SeqAt.shaped a = true ∧ SeqAt.shaped b = true then some (.bool (!PyData.eqv a b)) else none
def kEq : D → D → Option D
  | .str x, .str y => some (.bool (decide (x = y)))
  | a, b => kEqD a b
def kNe : D → D → Option D
  | .str x, .str y => some (.bool (!decide (x = y)))
  | a, b => kNeD a b
def kIs : D → D → Option D
  | .none, .none => some (.bool true)
  | _, .none => some (.bool false)
  | _, _ => none
def kIsNot : D → D → Option D
  | .none, .none => some (.bool false)
  | _, .none => some (.bool true)
  | _, _ => none
theorem dp_int {K : Kx} {F : Hp} {v : V} {i : Int} (h : Dp K F v (.int i)) : v = .int i := by cases h; rfl
theorem dp_bl {K : Kx} {F : Hp} {v : V} {i : Bool} (h : Dp K F v (.bool i)) : v = .bl i := by cases h; rfl
theorem dp_str {K : Kx} {F : Hp} {v : V} {i : Str} (h : Dp K F v (.str i)) : v = .str i := by cases h; rfl
section
variable {K : Kx}
theorem okI0 {k : D → D → Option D} {g : Int → Int → V} {gd : Int → Int → D} (hk : ∀ a b z, k a b = some z → ∃ i j, a = .int i ∧ b = .int j ∧ z = gd i j) (hg : ∀ F i j, Dp K F (g i j) (gd i j)) : Ok2 K (rI0 g) k := by
  intro F H x y a b z Q fh ha hb e q
  obtain ⟨i, j, rfl, rfl, rfl⟩ := hk a b z e
  exact ⟨i, j, dp_int ha, dp_int hb, q _ F H (Gr.refl fh) (hg F i j)⟩
theorem okI {k : D → D → Option D} {c : Int → Int → Prop} {g : Int → Int → V} {gd : Int → Int → D} (hk : ∀ a b z, k a b = some z → ∃ i j, a = .int i ∧ b = .int j ∧ z = gd i j ∧ c i j) (hg : ∀ F i j, Dp K F (g i j) (gd i j)) : Ok2 K (rI c g) k := by
  intro F H x y a b z Q fh ha hb e q
  obtain ⟨i, j, rfl, rfl, rfl, hc⟩ := hk a b z e
  exact ⟨i, j, dp_int ha, dp_int hb, hc, q _ F H (Gr.refl fh) (hg F i j)⟩
theorem ok_add : Ok2 K (rI0 fun i j => .int (i + j)) kAdd := okI0 (gd := fun i j => .int (i + j)) (fun a b z e => by unfold kAdd at e; split at e <;> cases e; exact ⟨_, _, rfl, rfl, rfl⟩) fun _ _ _ => .int _
theorem ok_sub : Ok2 K (rI0 fun i j => .int (i - j)) kSub := okI0 (gd := fun i j => .int (i - j)) (fun a b z e => by unfold kSub at e; split at e <;> cases e; exact ⟨_, _, rfl, rfl, rfl⟩) fun _ _ _ => .int _
theorem ok_lt : Ok2 K (rI0 fun i j => .bl (decide (i < j))) kLt := okI0 (gd := fun i j => .bool (decide (i < j))) (fun a b z e => by unfold kLt at e; split at e <;> cases e; exact ⟨_, _, rfl, rfl, rfl⟩) fun _ _ _ => .bl _
theorem ok_le : Ok2 K (rI0 fun i j => .bl (decide (i ≤ j))) kLe := okI0 (gd := fun i j => .bool (decide (i ≤ j))) (fun a b z e => by unfold kLe at e; split at e <;> cases e; exact ⟨_, _, rfl, rfl, rfl⟩) fun _ _ _ => .bl _
theorem ok_gt : Ok2 K (rI0 fun i j => .bl (decide (j < i))) kGt := okI0 (gd := fun i j => .bool (decide (j < i))) (fun a b z e => by unfold kGt at e; split at e <;> cases e; exact ⟨_, _, rfl, rfl, rfl⟩) fun _ _ _ => .bl _
theorem ok_ge : Ok2 K (rI0 fun i j => .bl (decide (j ≤ i))) kGe := okI0 (gd := fun i j => .bool (decide (j ≤ i))) (fun a b z e => by unfold kGe at e; split at e <;> cases e; exact ⟨_, _, rfl, rfl, rfl⟩) fun _ _ _ => .bl _
theorem ok_mul : Ok2 K (rI CMulW fun i j => .int (i * j)) kMul := okI (gd := fun i j => .int (i * j)) (fun a b z e => by
  unfold kMul at e; split at e
  · split at e <;> cases e
    rename_i h
    exact ⟨_, _, rfl, rfl, rfl, h⟩
  · cases e) fun _ _ _ => .int _
theorem ok_pow : Ok2 K (rI CPow fun i j => .int (i ^ j.toNat)) kPow := okI (gd := fun i j => .int (i ^ j.toNat)) (fun a b z e => by
  unfold kPow at e; split at e
  · split at e <;> cases e
    rename_i h
    exact ⟨_, _, rfl, rfl, rfl, h⟩
  · cases e) fun _ _ _ => .int _
def CDivG (_ j : Int) : Prop := j ≠ 0 ∧ j.natAbs.log2 < 9000
theorem op_fdivG {X : Cx} : OpR X (binaryOp .FloorDiv) (rI CDivG fun i j => .int (i.fdiv j)) := opI fun i j _ _ _ _ _ hc q => floordiv_int hc.1 q (.inl (PyProof.noPylong_of_log2 hc.2))
theorem ok_div : Ok2 K (rI CDivG fun i j => .int (i.fdiv j)) kDiv := okI (gd := fun i j => .int (i.fdiv j)) (fun a b z e => by
  unfold kDiv at e; split at e
  · split at e <;> cases e
    rename_i h
    exact ⟨_, _, rfl, rfl, rfl, h⟩
  · cases e) fun _ _ _ => .int _
theorem ok_mod : Ok2 K (rI (fun _ j => j ≠ 0) fun i j => .int (i.fmod j)) kMod := okI (gd := fun i j => .int (i.fmod j)) (fun a b z e => by
  unfold kMod at e; split at e
  · split at e <;> cases e
    rename_i h
    exact ⟨_, _, rfl, rfl, rfl, h⟩
  · cases e) fun _ _ _ => .int _
theorem ok_eqD : Ok2 K (rEqD K) kEqD := by
  intro F H x y a b z Q fh ha hb e q
  unfold kEqD at e
  split at e <;> cases e
  rename_i h
  exact ⟨a, b, Dp_up ha fh, Dp_up hb fh, h.1, h.2, q _ F H (Gr.refl fh) (.bl _)⟩
theorem ok_neD : Ok2 K (rNeD K) kNeD := by
  intro F H x y a b z Q fh ha hb e q
  unfold kNeD at e
  split at e <;> cases e
  rename_i h
  exact ⟨a, b, Dp_up ha fh, Dp_up hb fh, h.1, h.2, q _ F H (Gr.refl fh) (.bl _)⟩
theorem dec_strV (x y : Str) : decide (V.str x = V.str y) = decide (x = y) := by
  by_cases h : x = y
  · subst h; simp
  · rw [decide_eq_false h, decide_eq_false fun z => h (V.str.inj z)]
theorem ok_eq : Ok2 K (fun x y H Q => rEq x y H Q ∨ rEqD K x y H Q) kEq := by
  intro F H x y a b z Q fh ha hb e q
  unfold kEq at e
  split at e
  · cases e
    cases dp_str ha
    cases dp_str hb
    exact .inl ⟨rfl, by rw [dec_strV]; exact q _ F H (Gr.refl fh) (.bl _)⟩
  · exact .inr (ok_eqD F H x y a b z Q fh ha hb e q)
theorem ok_ne : Ok2 K (fun x y H Q => rNe x y H Q ∨ rNeD K x y H Q) kNe := by
  intro F H x y a b z Q fh ha hb e q
  unfold kNe at e
  split at e
  · cases e
    cases dp_str ha
    cases dp_str hb
    exact .inl ⟨rfl, by rw [dec_strV]; exact q _ F H (Gr.refl fh) (.bl _)⟩
  · exact .inr (ok_neD F H x y a b z Q fh ha hb e q)
theorem dp_non_iff {F : Hp} {v : V} {d : D} (h : Dp K F v d) : v = .non ↔ d = .none := by
  cases h <;> simp
theorem ok_is : Ok2 K (fun x y H Q => y = .non ∧ Q (.bl (decide (x = .non))) H) kIs := by
  intro F H x y a b z Q fh ha hb e q
  unfold kIs at e
  split at e
  · cases e
    cases ha
    cases hb
    exact ⟨rfl, q _ F H (Gr.refl fh) (.bl true)⟩
  · rename_i hne
    cases e
    cases hb
    have hx : x ≠ .non := fun z => hne (dp_non_iff ha |>.mp z)
    rw [decide_eq_false hx]
    exact ⟨rfl, q _ F H (Gr.refl fh) (.bl false)⟩
  · cases e
theorem ok_isnot : Ok2 K (fun x y H Q => y = .non ∧ Q (.bl (!decide (x = .non))) H) kIsNot := by
  intro F H x y a b z Q fh ha hb e q
  unfold kIsNot at e
  split at e
  · cases e
    cases ha
    cases hb
    exact ⟨rfl, q _ F H (Gr.refl fh) (.bl false)⟩
  · rename_i hne
    cases e
    cases hb
    have hx : x ≠ .non := fun z => hne (dp_non_iff ha |>.mp z)
    rw [decide_eq_false hx]
    exact ⟨rfl, q _ F H (Gr.refl fh) (.bl true)⟩
  · cases e
end
section
variable {X : Cx} {C : Ct} {pos : Pos} {a b : Expr} {f g : EF}
theorem xd_add (ha : PE X a (dOf (kxOf X) C f)) (hb : PE X b (dOf (kxOf X) C g)) : PE X (.BinOp a .Add b pos) (dOf (kxOf X) C (bin2 kAdd f g)) := xd_op op_add ok_add ha hb
theorem xd_sub (ha : PE X a (dOf (kxOf X) C f)) (hb : PE X b (dOf (kxOf X) C g)) : PE X (.BinOp a .Sub b pos) (dOf (kxOf X) C (bin2 kSub f g)) := xd_op op_sub ok_sub ha hb
theorem xd_mul (ha : PE X a (dOf (kxOf X) C f)) (hb : PE X b (dOf (kxOf X) C g)) : PE X (.BinOp a .Mult b pos) (dOf (kxOf X) C (bin2 kMul f g)) := xd_op op_mulW ok_mul ha hb
theorem xd_div (ha : PE X a (dOf (kxOf X) C f)) (hb : PE X b (dOf (kxOf X) C g)) : PE X (.BinOp a .FloorDiv b pos) (dOf (kxOf X) C (bin2 kDiv f g)) := xd_op op_fdivG ok_div ha hb
theorem xd_mod (ha : PE X a (dOf (kxOf X) C f)) (hb : PE X b (dOf (kxOf X) C g)) : PE X (.BinOp a .Mod b pos) (dOf (kxOf X) C (bin2 kMod f g)) := xd_op op_modN ok_mod ha hb
theorem xd_pow (ha : PE X a (dOf (kxOf X) C f)) (hb : PE X b (dOf (kxOf X) C g)) : PE X (.BinOp a .Pow b pos) (dOf (kxOf X) C (bin2 kPow f g)) := xd_op op_pow ok_pow ha hb
theorem xd_lt (ha : PE X a (dOf (kxOf X) C f)) (hb : PE X b (dOf (kxOf X) C g)) : PE X (.Compare a [.Lt] [b] pos) (dOf (kxOf X) C (bin2 kLt f g)) := xd_cmp op_lt ok_lt ha hb (nomark _)
theorem xd_le (ha : PE X a (dOf (kxOf X) C f)) (hb : PE X b (dOf (kxOf X) C g)) : PE X (.Compare a [.LtE] [b] pos) (dOf (kxOf X) C (bin2 kLe f g)) := xd_cmp op_le ok_le ha hb (nomark _)
theorem xd_gt (ha : PE X a (dOf (kxOf X) C f)) (hb : PE X b (dOf (kxOf X) C g)) : PE X (.Compare a [.Gt] [b] pos) (dOf (kxOf X) C (bin2 kGt f g)) := xd_cmp op_gt ok_gt ha hb (nomark _)
theorem xd_ge (ha : PE X a (dOf (kxOf X) C f)) (hb : PE X b (dOf (kxOf X) C g)) : PE X (.Compare a [.GtE] [b] pos) (dOf (kxOf X) C (bin2 kGe f g)) := xd_cmp op_ge ok_ge ha hb (nomark _)
theorem xd_eq (hu : X.A.units + 64 < cLine) (ha : PE X a (dOf (kxOf X) C f)) (hb : PE X b (dOf (kxOf X) C g)) : PE X (.Compare a [.Eq] [b] pos) (dOf (kxOf X) C (bin2 kEq f g)) := xd_cmp (op_eq.or (op_eqD hu)) ok_eq ha hb (nomark _)
theorem xd_ne (hu : X.A.units + 64 < cLine) (ha : PE X a (dOf (kxOf X) C f)) (hb : PE X b (dOf (kxOf X) C g)) : PE X (.Compare a [.NotEq] [b] pos) (dOf (kxOf X) C (bin2 kNe f g)) := xd_cmp (op_ne.or (op_neD hu)) ok_ne ha hb (nomark _)
theorem xd_is (ha : PE X a (dOf (kxOf X) C f)) (hb : PE X b (dOf (kxOf X) C g)) : PE X (.Compare a [.Is] [b] pos) (dOf (kxOf X) C (bin2 kIs f g)) := xd_cmp op_isN ok_is ha hb (nomark _)
theorem xd_isnot (ha : PE X a (dOf (kxOf X) C f)) (hb : PE X b (dOf (kxOf X) C g)) : PE X (.Compare a [.IsNot] [b] pos) (dOf (kxOf X) C (bin2 kIsNot f g)) := xd_cmp op_notN ok_isnot ha hb (nomark _)
end

/-! ### one -/
def un1 (k : D → Option D) (f : EF) : EF := fun st => (f st).bind fun a => (k a.1).map fun z => (z, a.2)
def Ok1 (K : Kx) (r : V → Hp → VK → Prop) (k : D → Option D) : Prop :=
  ∀ (F H : Hp) (x : V) (a z : D) (Q : VK), Same F H → Dp K F x a → k a = some z → (∀ v F' H', Gr F H F' H' → Dp K F' v z → Q v H') → r x H Q
theorem un1_ok {K : Kx} {C : Ct} {r : V → Hp → VK → Prop} {k : D → Option D} {f : EF} (ok : Ok1 K r k) {σ : L2.St} {H : Hp} {Q : VK} (q : dOf K C (un1 k f) σ H Q) : dOf K C f σ H fun x H1 => r x H1 Q := by
  obtain ⟨F, st, w, R, e, q⟩ := q
  unfold un1 at e
  obtain ⟨a, ea, e⟩ := Option.bind_eq_some_iff.mp e
  obtain ⟨z, ez, e⟩ := Option.map_eq_some_iff.mp e
  cases e
  refine ⟨F, st, a, R, ea, fun v H1 F1 s1 R1 d1 => ?_⟩
  exact ok F1 H1 v a.1 z Q R1.fh d1 ez fun y F3 H3 g d3 => q y H3 F3 (s1.trans g.ff) (R1.grow g) d3
def kNeg : D → Option D
  | .int i => some (.int (-i))
  | _ => none
section
variable {X : Cx} {C : Ct} {pos : Pos} {a b : Expr} {f g : EF}
theorem xd_neg (ha : PE X a (dOf (kxOf X) C f)) : PE X (.UnaryOp .USub a pos) (dOf (kxOf X) C (un1 kNeg f)) := pe_wk (pe_un un_neg ha) fun σ H Q q => un1_ok (k := kNeg) (fun F H x a z Q fh ha e q => by
  unfold kNeg at e; split at e <;> cases e
  exact ⟨_, dp_int ha, q _ F H (Gr.refl fh) (.int _)⟩) q
/-- a call of a built-in with one argument -/
theorem xd_b1 {id : String} {x : Str} {p : Pos} {r : List V → Hp → VK → Prop} {k : D → Option D} (hc : CallR X (.builtin id) r) (ok : Ok1 (kxOf X) (fun v => r [v]) k) (hm : X.mg x = none) (hv : bootBuiltins x = some (.builtin id)) (ha : PE X a (dOf (kxOf X) C f))
    (hg : Gl X x) (hn : x ≠ "__name__" := by decide) (hdb : (x == ("__debug__" : Str)) = false := by decide)
    (he : starEach [a] X.env = (false, eval a X.env) :: starEach [] X.env := by rfl) (hpl : (backTo pos (starEach [] X.env)).any (·.1) = false := by rfl) : PE X (.Call (.Name x p) [a] [] pos) (dOf (kxOf X) C (un1 k f)) :=
  pe_wk (pe_callB hc hg hm hv (pa_cons ha pa_nil he) hn hdb he hpl) fun σ H Q q => un1_ok ok q
theorem xd_t1 {T : String} {x : Str} {p : Pos} {r : List V → Hp → VK → Prop} {k : D → Option D} (hc : CallR X (.type T) r) (ok : Ok1 (kxOf X) (fun v => r [v]) k) (hm : X.mg x = none) (hv : bootBuiltins x = some (.type T)) (ha : PE X a (dOf (kxOf X) C f))
    (hg : Gl X x) (hn : x ≠ "__name__" := by decide) (hdb : (x == ("__debug__" : Str)) = false := by decide)
    (he : starEach [a] X.env = (false, eval a X.env) :: starEach [] X.env := by rfl) (hpl : (backTo pos (starEach [] X.env)).any (·.1) = false := by rfl) : PE X (.Call (.Name x p) [a] [] pos) (dOf (kxOf X) C (un1 k f)) :=
  pe_wk (pe_callTy hc hg hm hv (pa_cons ha pa_nil he) hn hdb he hpl) fun σ H Q q => un1_ok ok q
end
def kAbs : D → Option D
  | .int i => some (.int (if i < 0 then -i else i))
  | _ => none
def kLen : D → Option D
  | .list xs => some (.int xs.length)
  | .tuple xs => some (.int xs.length)
  | _ => none
def kInt : D → Option D
  | .int i => some (.int i)
  | .bool b => some (.int (if b then 1 else 0))
  | _ => none
def kList : D → Option D
  | .list xs => some (.list xs)
  | .tuple xs => some (.list xs)
  | _ => none
def kTuple : D → Option D
  | .list xs => some (.tuple xs)
  | .tuple xs => some (.tuple xs)
  | _ => none
section
variable {X : Cx} {C : Ct} {pos p : Pos} {a b : Expr} {f g : EF}
theorem xd_abs (hm : X.mg "abs" = none) (ha : PE X a (dOf (kxOf X) C f)) (hg : Gl X "abs" := by rfl) (he : starEach [a] X.env = (false, eval a X.env) :: starEach [] X.env := by rfl) : PE X (.Call (.Name "abs" p) [a] [] pos) (dOf (kxOf X) C (un1 kAbs f)) :=
  xd_b1 call_abs (fun F H x a z Q fh ha e q => by
    unfold kAbs at e; split at e <;> cases e
    exact ⟨_, by rw [dp_int ha], q _ F H (Gr.refl fh) (.int _)⟩) hm (by decide +kernel) ha hg (he := he)
theorem xd_len (hm : X.mg "len" = none) (ha : PE X a (dOf (kxOf X) C f)) (hg : Gl X "len" := by rfl) (he : starEach [a] X.env = (false, eval a X.env) :: starEach [] X.env := by rfl) : PE X (.Call (.Name "len" p) [a] [] pos) (dOf (kxOf X) C (un1 kLen f)) :=
  xd_b1 call_len_seq (fun F H x a z Q fh ha e q => by
    unfold kLen at e; split at e <;> cases e
    · cases ha with
      | lst hs hv => exact ⟨_, _, rfl, .inl (sql_up fh hs), by rw [DpAll_len hv]; exact q _ F H (Gr.refl fh) (.int _)⟩
    · cases ha with
      | tup hs hv => exact ⟨_, _, rfl, .inr (sqt_up fh hs), by rw [DpAll_len hv]; exact q _ F H (Gr.refl fh) (.int _)⟩) hm (by decide +kernel) ha hg (he := he)
theorem xd_toint (hm : X.mg "int" = none) (ha : PE X a (dOf (kxOf X) C f)) (hg : Gl X "int" := by rfl) (he : starEach [a] X.env = (false, eval a X.env) :: starEach [] X.env := by rfl) : PE X (.Call (.Name "int" p) [a] [] pos) (dOf (kxOf X) C (un1 kInt f)) :=
  xd_t1 call_int1 (fun F H x a z Q fh ha e q => by
    unfold kInt at e; split at e <;> cases e
    · exact .inl ⟨_, by rw [dp_int ha], q _ F H (Gr.refl fh) (.int _)⟩
    · exact .inr ⟨_, by rw [dp_bl ha], q _ F H (Gr.refl fh) (.int _)⟩) hm (by decide +kernel) ha hg (he := he)
theorem xd_tolist (hm : X.mg "list" = none) (ha : PE X a (dOf (kxOf X) C f)) (hg : Gl X "list" := by rfl) (he : starEach [a] X.env = (false, eval a X.env) :: starEach [] X.env := by rfl) : PE X (.Call (.Name "list" p) [a] [] pos) (dOf (kxOf X) C (un1 kList f)) :=
  xd_t1 call_list_of (fun F H x a z Q fh ha e q => by
    unfold kList at e; split at e <;> cases e
    · cases ha with
      | lst hs hv => exact ⟨_, _, rfl, .inl (sql_up fh hs), fun l hl => q _ _ _ (Gr.new fh hl) (.lst (.inl (.inl upd_same)) (DpAll_up hv (same_upd (fh.free hl))))⟩
    · cases ha with
      | tup hs hv => exact ⟨_, _, rfl, .inr (sqt_up fh hs), fun l hl => q _ _ _ (Gr.new fh hl) (.lst (.inl (.inl upd_same)) (DpAll_up hv (same_upd (fh.free hl))))⟩) hm (by decide +kernel) ha hg (he := he)
theorem xd_totuple (hm : X.mg "tuple" = none) (ha : PE X a (dOf (kxOf X) C f)) (hg : Gl X "tuple" := by rfl) (he : starEach [a] X.env = (false, eval a X.env) :: starEach [] X.env := by rfl) : PE X (.Call (.Name "tuple" p) [a] [] pos) (dOf (kxOf X) C (un1 kTuple f)) :=
  xd_t1 call_tuple_of (fun F H x a z Q fh ha e q => by
    unfold kTuple at e; split at e <;> cases e
    · cases ha with
      | lst hs hv => exact ⟨_, _, rfl, .inl ⟨sql_up fh hs, fun l hl => q _ _ _ (Gr.new fh hl) (.tup (.inl (.inl upd_same)) (DpAll_up hv (same_upd (fh.free hl))))⟩⟩
    · cases ha with
      | tup hs hv => exact ⟨_, _, rfl, .inr ⟨sqt_up fh hs, q _ F H (Gr.refl fh) (.tup hs hv)⟩⟩) hm (by decide +kernel) ha hg (he := he)
end

/-! ### argument lists, displays -/
def nilA : LF := fun st => some ([], st)
def consA (f : EF) (g : LF) : LF := fun st => (f st).bind fun a => (g a.2).map fun b => (a.1 :: b.1, b.2)
def tupF (g : LF) : EF := fun st => (g st).bind fun b => if b.1.length ≤ sizeLine then some (.tuple b.1, b.2) else none
def lstF (g : LF) : EF := fun st => (g st).bind fun b => if b.1.length ≤ sizeLine then some (.list b.1, b.2) else none
def newF (g : LF) : LF := fun st => (g st).bind fun b => if b.1.length ≤ sizeLine then some b else none
section
variable {X : Cx} {C : Ct} {pos : Pos} {e : Expr} {es : List Expr} {f : EF} {g : LF}
theorem xa_nil : PA X [] (aOf (kxOf X) C nilA) := pa_wk pa_nil fun σ H Q q => by
  obtain ⟨F, st, w, R, e, q⟩ := q
  cases e
  exact q [] H F (Same.refl _) R .nil
theorem xa_cons (ha : PE X e (dOf (kxOf X) C f)) (hr : PA X es (aOf (kxOf X) C g)) (hs : starEach (e :: es) X.env = (false, eval e X.env) :: starEach es X.env := by rfl) : PA X (e :: es) (aOf (kxOf X) C (consA f g)) :=
  pa_wk (pa_cons ha hr hs) fun σ H Q q => by
    obtain ⟨F, st, w, R, e, q⟩ := q
    obtain ⟨a, ea, e⟩ := Option.bind_eq_some_iff.mp e
    obtain ⟨b, eb, e⟩ := Option.map_eq_some_iff.mp e
    cases e
    refine ⟨F, st, a, R, ea, fun v H1 F1 s1 R1 d1 => ?_⟩
    exact ⟨F1, a.2, b, R1, eb, fun vs H2 F2 s2 R2 d2 => q (v :: vs) H2 F2 (s1.trans s2) R2 (.cons (Dp_up d1 s2) d2)⟩
theorem xd_tup {x1} (h : PA X es (aOf (kxOf X) C g)) : PE X (.Tuple es x1 pos) (dOf (kxOf X) C (tupF g)) := pe_wk (pe_tup h) fun σ H Q q => by
  obtain ⟨F, st, w, R, e, q⟩ := q
  obtain ⟨b, eb, e⟩ := Option.bind_eq_some_iff.mp e
  split at e <;> cases e
  rename_i hl
  refine ⟨F, st, b, R, eb, fun vs H1 F1 s1 R1 d1 => ⟨by rw [DpAll_len d1]; exact hl, fun p hp => ?_⟩⟩
  have gr := Gr.new (o := .tup vs) R1.fh hp
  exact q _ _ _ (s1.trans gr.ff) (R1.grow gr) (.tup (.inl (.inl upd_same)) (DpAll_up d1 gr.ff))
theorem xd_lst (h : PA X es (aOf (kxOf X) C g)) : PE X (.List es pos) (dOf (kxOf X) C (lstF g)) := pe_wk (pe_lst h) fun σ H Q q => by
  obtain ⟨F, st, w, R, e, q⟩ := q
  obtain ⟨b, eb, e⟩ := Option.bind_eq_some_iff.mp e
  split at e <;> cases e
  rename_i hl
  refine ⟨F, st, b, R, eb, fun vs H1 F1 s1 R1 d1 => ⟨by rw [DpAll_len d1]; exact hl, fun p hp => ?_⟩⟩
  have gr := Gr.new (o := .lst vs) R1.fh hp
  exact q _ _ _ (s1.trans gr.ff) (R1.grow gr) (.lst (.inl (.inl upd_same)) (DpAll_up d1 gr.ff))
end

/-! ### items -/
def kIx : D → D → Option D
  | .list xs, .int i => atI xs i
  | .tuple xs, .int i => atI xs i
  | _, _ => none
theorem atI_dp {K : Kx} {F : Hp} {vs : List V} {ds : List D} {i : Int} {d : D} (h : DpAll K F vs ds) (e : atI ds i = some d) : ∃ v, atI vs i = some v ∧ Dp K F v d := by
  unfold atI at e ⊢
  rw [DpAll_len h]
  obtain ⟨j, ej, e⟩ := Option.bind_eq_some_iff.mp e
  obtain ⟨v, h1, h2⟩ := DpAll_get h e
  exact ⟨v, by rw [ej]; exact h1, h2⟩
theorem ok_ix {K : Kx} : Ok2 K (fun x y H Q => rIxL K.K x y H Q ∨ rIxT K.K x y H Q) kIx := by
  intro F H x y a b z Q fh ha hb e q
  unfold kIx at e
  split at e
  · cases ha with
    | lst hs hv =>
      obtain ⟨v, h1, h2⟩ := atI_dp hv e
      exact .inl ⟨_, _, _, v, rfl, dp_int hb, sql_up fh hs, h1, q v F H (Gr.refl fh) h2⟩
  · cases ha with
    | tup hs hv =>
      obtain ⟨v, h1, h2⟩ := atI_dp hv e
      exact .inr ⟨_, _, _, v, rfl, dp_int hb, sqt_up fh hs, h1, q v F H (Gr.refl fh) h2⟩
  · cases e
theorem ix_or {X : Cx} {r r' : R2} (h : IxR X r) (h' : IxR X r') : IxR X (fun x y H Q => r x y H Q ∨ r' x y H Q) := fun value slice pins s σ H x y v u Q I rx ry q hs =>
  q.elim (fun q => h value slice pins s σ H x y v u Q I rx ry q hs) fun q => h' value slice pins s σ H x y v u Q I rx ry q hs
section
variable {X : Cx} {C : Ct} {pos : Pos} {a b : Expr} {f g : EF}
theorem xd_item (ha : PE X a (dOf (kxOf X) C f)) (hb : PE X b (dOf (kxOf X) C g)) (hs : PlainIx b := by exact fun _ _ => rfl) : PE X (.Subscript a b pos) (dOf (kxOf X) C (bin2 kIx f g)) := xd_ix (ix_or ix_list ix_tup) ok_ix ha hb hs
end
/-! ### lists that are still changed -/
def muC (st : AS) (i : Nat) : Option (List D) := match st[i]? with
  | some (.own xs) => some xs
  | some (.pen xs) => some xs
  | _ => none
def putM (st : AS) (i : Nat) (xs : List D) : AS := match st[i]? with
  | some (.own _) => st.set i (.own xs)
  | some (.pen _) => st.set i (.pen xs)
  | _ => st
section
variable {K : Kx} {C : Ct} {F F' H H' : Hp} {st : AS} {σ : L2.St}
theorem mu_of {i : Nat} {xs : List D} (h : muC st i = some xs) : st[i]? = some (.own xs) ∨ st[i]? = some (.pen xs) := by
  unfold muC at h
  split at h <;> cases h
  · exact .inl (by assumption)
  · exact .inr (by assumption)
theorem mu_Mu {i : Nat} {xs : List D} (h : muC st i = some xs) : Mu st i := (mu_of h).elim (fun e => ⟨_, e, rfl⟩) fun e => ⟨_, e, rfl⟩
theorem Rel.mu {i : Nat} {xs : List D} (R : Rel K C F st σ H) (h : muC st i = some xs) : ∃ a, σ[i]? = some (some (.ref a)) ∧ Lst K F H a xs ∧ (C.H0 a = none ∨ C.pen = some a) := by
  rcases mu_of h with e | e
  · obtain ⟨a, h1, h2, h3⟩ := R.slot i _ e
    exact ⟨a, h1, h3, .inl h2⟩
  · obtain ⟨a, h1, h2, h3⟩ := R.slot i _ e
    exact ⟨a, h1, h3, .inr h2⟩
theorem putM_len (i : Nat) (xs : List D) : (putM st i xs).length = st.length := by
  unfold putM
  split <;> simp
theorem Rel.put {i : Nat} {xs ys : List D} {a : Addr} {us : List V} (R : Rel K C F st σ H) (h : muC st i = some xs) (ha : σ[i]? = some (some (.ref a))) (hu : DpAll K F us ys) : Rel K C F (putM st i ys) σ (upd H a (.lst us)) := by
  obtain ⟨b, h1, ⟨hF, vs, hH, hv⟩, h3⟩ := R.mu h
  rw [ha] at h1
  cases h1
  have hm : Mu st i := mu_Mu h
  have hi : i < st.length := by
    rcases mu_of h with e | e <;> exact (List.getElem?_eq_some_iff.mp e).1
  have put_ne : ∀ j, j ≠ i → (putM st i ys)[j]? = st[j]? := fun j e => by
    unfold putM
    split <;> first | rfl | rw [List.getElem?_set_ne (Ne.symm e)]
  have put_eq : (st[i]? = some (.own xs) ∧ (putM st i ys)[i]? = some (.own ys)) ∨ (st[i]? = some (.pen xs) ∧ (putM st i ys)[i]? = some (.pen ys)) := by
    rcases mu_of h with e | e
    · refine .inl ⟨e, ?_⟩
      unfold putM
      rw [e]
      exact List.getElem?_set_self hi
    · refine .inr ⟨e, ?_⟩
      unfold putM
      rw [e]
      exact List.getElem?_set_self hi
  have mu_back : ∀ j, Mu (putM st i ys) j → Mu st j := fun j hj => by
    by_cases e : j = i
    · subst e; exact hm
    · unfold Mu at hj ⊢
      rw [put_ne j e] at hj
      exact hj
  refine ⟨(putM_len i ys).trans R.len, R.f0, fun b o e => ?_, fun b o e hp => ?_, R.new, fun j s hj => ?_, fun j k b hj hk => R.apart j k b (mu_back j hj) (mu_back k hk), R.penh, fun p hp => ?_⟩
  · rw [upd_ne (fun z => by subst z; rw [hF] at e; cases e)]
    exact R.fh b o e
  · have hb : b ≠ a := fun z => by
      subst z
      rcases h3 with q | q
      · rw [q] at e; cases e
      · exact hp q
    rw [upd_ne hb]
    exact R.old b o e hp
  · by_cases e : j = i
    · subst e
      rcases put_eq with ⟨e1, e2⟩ | ⟨e1, e2⟩
      · rw [e2] at hj
        cases hj
        obtain ⟨b, q1, q2, q3⟩ := R.slot j _ e1
        rw [ha] at q1
        cases q1
        exact ⟨a, ha, q2, hF, us, upd_same, hu⟩
      · rw [e2] at hj
        cases hj
        obtain ⟨b, q1, q2, q3⟩ := R.slot j _ e1
        rw [ha] at q1
        cases q1
        exact ⟨a, ha, q2, hF, us, upd_same, hu⟩
    · rw [put_ne j e] at hj
      have q := R.slot j s hj
      cases s with
      | no => trivial
      | dat d => exact q
      | own zs =>
        obtain ⟨b, q1, q2, q3, ws, q4, q5⟩ := q
        have hb : b ≠ a := fun z => by
          subst z
          exact e (R.apart j i b ⟨_, hj, rfl⟩ hm q1 ha)
        exact ⟨b, q1, q2, q3, ws, by rw [upd_ne hb]; exact q4, q5⟩
      | pen zs =>
        obtain ⟨b, q1, q2, q3, ws, q4, q5⟩ := q
        have hb : b ≠ a := fun z => by
          subst z
          exact e (R.apart j i b ⟨_, hj, rfl⟩ hm q1 ha)
        exact ⟨b, q1, q2, q3, ws, by rw [upd_ne hb]; exact q4, q5⟩
      | dct kvs =>
        obtain ⟨b, q1, q2, q3, w, q4, q5⟩ := q
        have hb : b ≠ a := fun z => by
          subst z
          exact e (R.apart j i b ⟨_, hj, rfl⟩ hm q1 ha)
        exact ⟨b, q1, q2, q3, w, by rw [upd_ne hb]; exact q4, q5⟩
  · by_cases e : p = a
    · subst e; rw [upd_same]; simp
    · rw [upd_ne e]; exact R.pent p hp
end
/-- an item of such a list -/
def ixM (i : Nat) (g : EF) : EF := fun st => (muC st i).bind fun _ => (g st).bind fun b => (muC b.2 i).bind fun xs => (kIx (.list xs) b.1).map fun z => (z, b.2)
def lenM (i : Nat) : EF := fun st => (muC st i).map fun xs => (.int xs.length, st)
/-- a call xs.append(e), its value dropped -/
def appM (i : Nat) (g : EF) : EF := fun st => (muC st i).bind fun _ => (g st).bind fun b => (muC b.2 i).bind fun xs => if xs.length < sizeLine then some (.none, putM b.2 i (xs ++ [b.1])) else none
def popM (i : Nat) (g : EF) : EF := fun st => (muC st i).bind fun _ => (g st).bind fun b => (muC b.2 i).bind fun xs => match b.1 with
  | .int k => if 0 ≤ k ∧ k < 2 ^ 63 then (xs[k.toNat]?).map fun z => (z, putM b.2 i (xs.eraseIdx k.toNat)) else none
  | _ => none
def extM (i : Nat) (g : EF) : EF := fun st => (muC st i).bind fun _ => (g st).bind fun b => (muC b.2 i).bind fun xs => match b.1 with
  | .list ys => if xs.length + ys.length ≤ sizeLine then some (.none, putM b.2 i (xs ++ ys)) else none
  | _ => none
section
variable {X : Cx} {C : Ct} {pos p apos : Pos} {a b : Expr} {f g : EF}
theorem xd_itemM {i : Nat} (ha : PE X a (tVar i)) (hb : PE X b (dOf (kxOf X) C g)) (hs : PlainIx b := by exact fun _ _ => rfl) : PE X (.Subscript a b pos) (dOf (kxOf X) C (ixM i g)) :=
  pe_wk (pe_ix ix_list ha hb hs) fun σ H Q q => by
    obtain ⟨F, st, w, R, e, q⟩ := q
    obtain ⟨x0, e0, e⟩ := Option.bind_eq_some_iff.mp e
    obtain ⟨b, eb, e⟩ := Option.bind_eq_some_iff.mp e
    obtain ⟨xs, ex, e⟩ := Option.bind_eq_some_iff.mp e
    obtain ⟨z, ez, e⟩ := Option.map_eq_some_iff.mp e
    cases e
    obtain ⟨p, h1, _, _⟩ := R.mu e0
    refine ⟨.ref p, h1, F, st, b, R, eb, fun y H1 F1 s1 R1 d1 => ?_⟩
    obtain ⟨p', h1', ⟨hF, vs, hH, hv⟩, _⟩ := R1.mu ex
    rw [h1] at h1'
    cases h1'
    unfold kIx at ez
    split at ez
    · rename_i e1 e2
      cases e1
      obtain ⟨v, h2, h3⟩ := atI_dp hv ez
      exact ⟨p, vs, _, v, rfl, dp_int (e2 ▸ d1), .inl (.inl hH), h2, q v H1 F1 s1 R1 h3⟩
    · rename_i e1 _
      cases e1
    · cases ez
theorem xd_lenM {i : Nat} (hm : X.mg "len" = none) (ha : PE X a (tVar i)) (hg : Gl X "len" := by rfl) (he : starEach [a] X.env = (false, eval a X.env) :: starEach [] X.env := by rfl) : PE X (.Call (.Name "len" p) [a] [] pos) (dOf (kxOf X) C (lenM i)) :=
  pe_wk (pe_callB call_len_seq hg hm (by decide +kernel) (pa_cons ha pa_nil he) (he := he)) fun σ H Q q => by
    obtain ⟨F, st, w, R, e, q⟩ := q
    obtain ⟨xs, e0, e⟩ := Option.map_eq_some_iff.mp e
    cases e
    obtain ⟨p, h1, ⟨hF, vs, hH, hv⟩, _⟩ := R.mu e0
    exact ⟨.ref p, h1, p, vs, rfl, .inl (.inl (.inl hH)), by rw [DpAll_len hv]; exact q _ H F (Same.refl _) R (.int _)⟩
end
end Xm

set_option Elab.async false
set_option linter.all false
set_option maxRecDepth 100000
namespace Xm
open PySem PySem.Spec PyProof.Rows L2

/-! ### tests -/
def valB (f : EF) : BF := fun st => (f st).bind fun a => match a.1 with
  | .bool b => some (b, a.2)
  | _ => none
def andB (f g : BF) : BF := fun st => (f st).bind fun a => if a.1 = true then g a.2 else some (false, a.2)
def orB (f g : BF) : BF := fun st => (f st).bind fun a => if a.1 = true then some (true, a.2) else g a.2
def notB (f : BF) : BF := fun st => (f st).map fun a => (!a.1, a.2)
/-- a truth as a value -/
def boolE (f : BF) : EF := fun st => (f st).map fun a => (.bool a.1, a.2)
def ifE (c : BF) (f g : EF) : EF := fun st => (c st).bind fun a => if a.1 = true then f a.2 else g a.2
section
variable {X : Cx} {C : Ct} {pos : Pos} {a b c e : Expr} {rest : List Expr} {f g : EF} {u v : BF}
theorem xt_val (h : PE X e (dOf (kxOf X) C f)) (he : ∀ whole, isTrue e X.env whole = (do let v ← whole; standAt e.pos; holding [v] (truthy v)) := by intro _; rfl) : PT X e (bOf (kxOf X) C (valB f)) := pt_wk (pt_val h he) fun σ H Q q => by
  obtain ⟨F, st, w, R, e, q⟩ := q
  obtain ⟨a, ea, e⟩ := Option.bind_eq_some_iff.mp e
  split at e
  · rename_i b hb
    cases e
    exact ⟨F, st, a, R, ea, fun v H1 F1 s1 R1 d1 => ⟨b, dp_bl (hb ▸ d1), q H1 F1 s1 R1⟩⟩
  · cases e
theorem xt_cmp {op : CmpOp} {r : R2} {k : D → D → Option D} (ho : OpR X (compareOp op) r) (ok : Ok2 (kxOf X) r k) (ha : PE X a (dOf (kxOf X) C f)) (hb : PE X b (dOf (kxOf X) C g)) (hm : behindInMarks op b = false) : PT X (.Compare a [op] [b] pos) (bOf (kxOf X) C (valB (bin2 k f g))) :=
  pt_wk (pt_cmpR ho ha hb hm) fun σ H Q q => by
    obtain ⟨F, st, w, R, e, q⟩ := q
    obtain ⟨a, ea, e⟩ := Option.bind_eq_some_iff.mp e
    split at e
    · rename_i b hb
      cases e
      refine bin2_ok (C := C) ok ⟨F, st, a, R, ea, fun v H1 F1 s1 R1 d1 => ⟨b, dp_bl (hb ▸ d1), q H1 F1 s1 R1⟩⟩
    · cases e
theorem xt_lt (ha : PE X a (dOf (kxOf X) C f)) (hb : PE X b (dOf (kxOf X) C g)) : PT X (.Compare a [.Lt] [b] pos) (bOf (kxOf X) C (valB (bin2 kLt f g))) := xt_cmp op_lt ok_lt ha hb (nomark _)
theorem xt_le (ha : PE X a (dOf (kxOf X) C f)) (hb : PE X b (dOf (kxOf X) C g)) : PT X (.Compare a [.LtE] [b] pos) (bOf (kxOf X) C (valB (bin2 kLe f g))) := xt_cmp op_le ok_le ha hb (nomark _)
theorem xt_gt (ha : PE X a (dOf (kxOf X) C f)) (hb : PE X b (dOf (kxOf X) C g)) : PT X (.Compare a [.Gt] [b] pos) (bOf (kxOf X) C (valB (bin2 kGt f g))) := xt_cmp op_gt ok_gt ha hb (nomark _)
theorem xt_ge (ha : PE X a (dOf (kxOf X) C f)) (hb : PE X b (dOf (kxOf X) C g)) : PT X (.Compare a [.GtE] [b] pos) (bOf (kxOf X) C (valB (bin2 kGe f g))) := xt_cmp op_ge ok_ge ha hb (nomark _)
theorem xt_eq (hu : X.A.units + 64 < cLine) (ha : PE X a (dOf (kxOf X) C f)) (hb : PE X b (dOf (kxOf X) C g)) : PT X (.Compare a [.Eq] [b] pos) (bOf (kxOf X) C (valB (bin2 kEq f g))) := xt_cmp (op_eq.or (op_eqD hu)) ok_eq ha hb (nomark _)
theorem xt_ne (hu : X.A.units + 64 < cLine) (ha : PE X a (dOf (kxOf X) C f)) (hb : PE X b (dOf (kxOf X) C g)) : PT X (.Compare a [.NotEq] [b] pos) (bOf (kxOf X) C (valB (bin2 kNe f g))) := xt_cmp (op_ne.or (op_neD hu)) ok_ne ha hb (nomark _)
theorem xt_is (ha : PE X a (dOf (kxOf X) C f)) (hb : PE X b (dOf (kxOf X) C g)) : PT X (.Compare a [.Is] [b] pos) (bOf (kxOf X) C (valB (bin2 kIs f g))) := xt_cmp op_isN ok_is ha hb (nomark _)
theorem xt_isnot (ha : PE X a (dOf (kxOf X) C f)) (hb : PE X b (dOf (kxOf X) C g)) : PT X (.Compare a [.IsNot] [b] pos) (bOf (kxOf X) C (valB (bin2 kIsNot f g))) := xt_cmp op_notN ok_isnot ha hb (nomark _)
theorem andB_ok {K : Kx} {σ : L2.St} {H : Hp} {Q : Bool → Hp → Prop} (q : bOf K C (andB u v) σ H Q) : tAnd (bOf K C u) (bOf K C v) σ H Q := by
  obtain ⟨F, st, w, R, e, q⟩ := q
  obtain ⟨a, ea, e⟩ := Option.bind_eq_some_iff.mp e
  refine ⟨F, st, a, R, ea, fun H1 F1 s1 R1 => ?_⟩
  dsimp only
  split
  · rename_i h
    rw [if_pos h] at e
    exact ⟨F1, a.2, w, R1, e, fun H2 F2 s2 R2 => q H2 F2 (s1.trans s2) R2⟩
  · rename_i h
    rw [if_neg h] at e
    cases e
    exact q H1 F1 s1 R1
theorem orB_ok {K : Kx} {σ : L2.St} {H : Hp} {Q : Bool → Hp → Prop} (q : bOf K C (orB u v) σ H Q) : tOr (bOf K C u) (bOf K C v) σ H Q := by
  obtain ⟨F, st, w, R, e, q⟩ := q
  obtain ⟨a, ea, e⟩ := Option.bind_eq_some_iff.mp e
  refine ⟨F, st, a, R, ea, fun H1 F1 s1 R1 => ?_⟩
  dsimp only
  split
  · rename_i h
    rw [if_pos h] at e
    cases e
    exact q H1 F1 s1 R1
  · rename_i h
    rw [if_neg h] at e
    exact ⟨F1, a.2, w, R1, e, fun H2 F2 s2 R2 => q H2 F2 (s1.trans s2) R2⟩
theorem xw_and1 (ha : PT X a (bOf (kxOf X) C u)) : PW X (.BoolOp .And [a] pos) (bOf (kxOf X) C u) := pw_and1 ha
theorem xw_or1 (ha : PT X a (bOf (kxOf X) C u)) : PW X (.BoolOp .Or [a] pos) (bOf (kxOf X) C u) := pw_or1 ha
theorem xw_and (ha : PT X a (bOf (kxOf X) C u)) (hb : PW X (.BoolOp .And (b :: rest) pos) (bOf (kxOf X) C v)) : PW X (.BoolOp .And (a :: b :: rest) pos) (bOf (kxOf X) C (andB u v)) := pw_wk (pw_and ha hb) fun _ _ _ q => andB_ok q
theorem xw_or (ha : PT X a (bOf (kxOf X) C u)) (hb : PW X (.BoolOp .Or (b :: rest) pos) (bOf (kxOf X) C v)) : PW X (.BoolOp .Or (a :: b :: rest) pos) (bOf (kxOf X) C (orB u v)) := pw_wk (pw_or ha hb) fun _ _ _ q => orB_ok q
theorem xt_w (h : PW X e (bOf (kxOf X) C u)) : PT X e (bOf (kxOf X) C u) := h.pt
theorem xt_not (ha : PT X a (bOf (kxOf X) C u)) : PT X (.UnaryOp .Not a pos) (bOf (kxOf X) C (notB u)) := pt_wk (pt_not ha) fun σ H Q q => by
  obtain ⟨F, st, w, R, e, q⟩ := q
  obtain ⟨a, ea, e⟩ := Option.map_eq_some_iff.mp e
  cases e
  exact ⟨F, st, a, R, ea, fun H1 F1 s1 R1 => q H1 F1 s1 R1⟩
/-- .. as values -/
theorem valB_ok {K : Kx} {σ : L2.St} {H : Hp} {Q : VK} {st : AS} {F : Hp} {w : Bool × AS} (R : Rel K C F st σ H) (e : valB f st = some w) (q : ∀ H' F', Same F F' → Rel K C F' w.2 σ H' → Q (.bl w.1) H') : dOf K C f σ H Q := by
  obtain ⟨a, ea, e⟩ := Option.bind_eq_some_iff.mp e
  split at e
  · rename_i b hb
    cases e
    exact ⟨F, st, a, R, ea, fun v H1 F1 s1 R1 d1 => by
      have hv := dp_bl (hb ▸ d1)
      subst hv
      exact q H1 F1 s1 R1⟩
  · cases e
theorem xd_one {op} (h : PE X a (dOf (kxOf X) C f)) : PE X (.BoolOp op [a] pos) (dOf (kxOf X) C (boolE (valB f))) := pe_wk (pe_one h) fun σ H Q q => by
  obtain ⟨F, st, w, R, e, q⟩ := q
  obtain ⟨a, ea, e⟩ := Option.map_eq_some_iff.mp e
  cases e
  exact valB_ok R ea fun H1 F1 s1 R1 => q _ H1 F1 s1 R1 (.bl _)
theorem xd_and (ha : PE X a (dOf (kxOf X) C f)) (hb : PE X (.BoolOp .And (b :: rest) pos) (dOf (kxOf X) C (boolE v))) : PE X (.BoolOp .And (a :: b :: rest) pos) (dOf (kxOf X) C (boolE (andB (valB f) v))) := pe_wk (pe_and ha hb) fun σ H Q q => by
  obtain ⟨F, st, w, R, e, q⟩ := q
  obtain ⟨a, ea, e⟩ := Option.map_eq_some_iff.mp e
  cases e
  obtain ⟨b, eb, e⟩ := Option.bind_eq_some_iff.mp ea
  refine valB_ok R eb fun H1 F1 s1 R1 => ⟨b.1, rfl, ?_⟩
  split
  · rename_i h
    rw [if_pos h] at e
    refine ⟨F1, b.2, (.bool a.1, a.2), R1, by unfold boolE; rw [e]; rfl, fun v H2 F2 s2 R2 d2 => q v H2 F2 (s1.trans s2) R2 d2⟩
  · rename_i h
    rw [if_neg h] at e
    cases e
    exact q _ H1 F1 s1 R1 (.bl _)
theorem xd_or (ha : PE X a (dOf (kxOf X) C f)) (hb : PE X (.BoolOp .Or (b :: rest) pos) (dOf (kxOf X) C (boolE v))) : PE X (.BoolOp .Or (a :: b :: rest) pos) (dOf (kxOf X) C (boolE (orB (valB f) v))) := pe_wk (pe_or ha hb) fun σ H Q q => by
  obtain ⟨F, st, w, R, e, q⟩ := q
  obtain ⟨a, ea, e⟩ := Option.map_eq_some_iff.mp e
  cases e
  obtain ⟨b, eb, e⟩ := Option.bind_eq_some_iff.mp ea
  refine valB_ok R eb fun H1 F1 s1 R1 => ⟨b.1, rfl, ?_⟩
  split
  · rename_i h
    rw [if_pos h] at e
    cases e
    exact q _ H1 F1 s1 R1 (.bl _)
  · rename_i h
    rw [if_neg h] at e
    refine ⟨F1, b.2, (.bool a.1, a.2), R1, by unfold boolE; rw [e]; rfl, fun v H2 F2 s2 R2 d2 => q v H2 F2 (s1.trans s2) R2 d2⟩
theorem xd_not (ha : PE X a (dOf (kxOf X) C f)) : PE X (.UnaryOp .Not a pos) (dOf (kxOf X) C (boolE (notB (valB f)))) := pe_wk (pe_not ha) fun σ H Q q => by
  obtain ⟨F, st, w, R, e, q⟩ := q
  obtain ⟨a, ea, e⟩ := Option.map_eq_some_iff.mp e
  cases e
  obtain ⟨b, eb, e⟩ := Option.map_eq_some_iff.mp ea
  cases e
  exact valB_ok R eb fun H1 F1 s1 R1 => ⟨b.1, rfl, q _ H1 F1 s1 R1 (.bl _)⟩
theorem xd_if (hc : PT X c (bOf (kxOf X) C u)) (ha : PE X a (dOf (kxOf X) C f)) (hb : PE X b (dOf (kxOf X) C g)) : PE X (.IfExp c a b pos) (dOf (kxOf X) C (ifE u f g)) := pe_wk (pe_ifExp hc ha hb) fun σ H Q q => by
  obtain ⟨F, st, w, R, e, q⟩ := q
  obtain ⟨b, eb, e⟩ := Option.bind_eq_some_iff.mp e
  refine ⟨F, st, b, R, eb, fun H1 F1 s1 R1 => ?_⟩
  dsimp only
  split
  · rename_i h
    rw [if_pos h] at e
    exact ⟨F1, b.2, w, R1, e, fun v H2 F2 s2 R2 d2 => q v H2 F2 (s1.trans s2) R2 d2⟩
  · rename_i h
    rw [if_neg h] at e
    exact ⟨F1, b.2, w, R1, e, fun v H2 F2 s2 R2 d2 => q v H2 F2 (s1.trans s2) R2 d2⟩
end

/-! ### what a def hands back; statements -/
inductive RV where
  | val (d : D)
  | new (xs : List D)
  | dct (kvs : List (D × D))
  | exc (x : Ex)
inductive Fl where
  | nx
  | ret (r : RV)
  | brk
  | cont
abbrev SF := AS → Option (Fl × AS)
def ROk (K : Kx) (C : Ct) (F H : Hp) (v : V) : RV → Prop
  | .val d => Dp K F v d
  | .new xs => ∃ a, v = .ref a ∧ C.H0 a = none ∧ Lst K F H a xs
  | .dct kvs => ∃ a, v = .ref a ∧ C.H0 a = none ∧ Dct K F H a kvs
  | .exc _ => False
/-- the exception x, of the class cls, its dict at d -/
def ExOk (K : Kx) (F : Hp) (x : Ex) (cls : Value) (d : Option Addr) : Prop :=
  K.mg x.cls = some cls ∧ ((x.fs = [] ∧ d = none) ∨ ∃ (dd : Addr) (fs : List (Str × V)), d = some dd ∧ F dd = some (.xd fs) ∧ fs.map (·.1) = x.fs.map (·.1) ∧ DpAll K F (fs.map (·.2)) (x.fs.map (·.2)))
theorem ExOk.up {K : Kx} {F G : Hp} {x : Ex} {cls : Value} {d : Option Addr} (h : ExOk K F x cls d) (e : Same F G) : ExOk K G x cls d := by
  obtain ⟨h1, h2 | ⟨dd, fs, e1, e2, e3, e4⟩⟩ := h
  · exact ⟨h1, .inl h2⟩
  · exact ⟨h1, .inr ⟨dd, fs, e1, e _ _ e2, e3, DpAll_up e4 e⟩⟩
/-- what is wished where a def is left -/
def RetQ (K : Kx) (C : Ct) (Z : Ends) (F : Hp) (st : AS) : RV → Prop
  | .exc x => ∀ cls d σ' H' F', Same F F' → Rel K C F' st σ' H' → ExOk K F' x cls d → C.W cls d σ' H'
  | .val d => ∀ v σ' H' F', Same F F' → Rel K C F' st σ' H' → ROk K C F' H' v (.val d) → Z.rt v H'
  | .new xs => ∀ v σ' H' F', Same F F' → Rel K C F' st σ' H' → ROk K C F' H' v (.new xs) → Z.rt v H'
  | .dct kvs => ∀ v σ' H' F', Same F F' → Rel K C F' st σ' H' → ROk K C F' H' v (.dct kvs) → Z.rt v H'
theorem RetQ.up {K : Kx} {C : Ct} {Z : Ends} {F F' : Hp} {st : AS} {r : RV} (q : RetQ K C Z F st r) (e : Same F F') : RetQ K C Z F' st r := by
  cases r with
  | exc x => exact fun cls d σ' H' F2 s2 => q cls d σ' H' F2 (e.trans s2)
  | val d => exact fun v σ' H' F2 s2 => q v σ' H' F2 (e.trans s2)
  | new d => exact fun v σ' H' F2 s2 => q v σ' H' F2 (e.trans s2)
  | dct d => exact fun v σ' H' F2 s2 => q v σ' H' F2 (e.trans s2)
section
variable (K : Kx) (C : Ct)
def sOf (g : SF) : TS := fun Z σ H => ∃ F st w, Rel K C F st σ H ∧ g st = some w ∧ match w.1 with
  | .nx => ∀ σ' H' F', Same F F' → Rel K C F' w.2 σ' H' → Z.nx σ' H'
  | .brk => ∀ σ' H' F', Same F F' → Rel K C F' w.2 σ' H' → Z.bk σ' H'
  | .cont => ∀ σ' H' F', Same F F' → Rel K C F' w.2 σ' H' → Z.ct σ' H'
  | .ret r => RetQ K C Z F w.2 r
/-- an assigned target -/
def gOf (u : D → AS → Option AS) (ts : List Nat) : TG := fun v σ H Q => ∃ F st d st', Rel K C F st σ H ∧ Dp K F v d ∧ u d st = some st' ∧ ∀ σ' H' F', Same F F' → Rel K C F' st' σ' H' → σ'.length = σ.length → (∀ j, j ∉ ts → σ'[j]? = σ[j]?) → Q σ' H'
end
def seqS (f g : SF) : SF := fun st => (f st).bind fun w => match w.1 with
  | .nx => g w.2
  | _ => some w
def skipS : SF := fun st => some (.nx, st)
def neverS : SF := fun _ => none
def retS (f : EF) : SF := fun st => (f st).map fun a => (.ret (.val a.1), a.2)
def retN (g : LF) : SF := fun st => (g st).map fun a => (.ret (.new a.1), a.2)
/-- a list of this def's own, handed back -/
def retM (i : Nat) : SF := fun st => match st[i]? with
  | some (.own xs) => some (.ret (.new xs), st)
  | some (.dat d) => some (.ret (.val d), st)
  | _ => none
def dropS (f : EF) : SF := fun st => (f st).map fun a => (.nx, a.2)
def ifS (c : BF) (f g : SF) : SF := fun st => (c st).bind fun a => if a.1 = true then f a.2 else g a.2
def setD (i : Nat) (d : D) (st : AS) : Option AS := match st[i]? with
  | some (.pen _) => none
  | some _ => some (st.set i (.dat d))
  | none => none
def setO (i : Nat) (xs : List D) (st : AS) : Option AS := match st[i]? with
  | some (.pen _) => none
  | some _ => some (st.set i (.own xs))
  | none => none
def asgS (i : Nat) (f : EF) : SF := fun st => (f st).bind fun a => (setD i a.1 a.2).map fun st' => (.nx, st')
def asgN (i : Nat) (g : LF) : SF := fun st => (g st).bind fun a => (setO i a.1 a.2).map fun st' => (.nx, st')
section
variable {K : Kx} {C : Ct} {F F' H H' : Hp} {st : AS} {σ : L2.St}
theorem Rel.setD {i : Nat} {d : D} {v : V} {st' : AS} (R : Rel K C F st σ H) (h : setD i d st = some st') (hv : Dp K F v d) : Rel K C F st' (σ.set i (some v)) H := by
  have e : st' = st.set i (.dat d) ∧ i < st.length := by
    unfold Xm.setD at h
    split at h <;> cases h
    exact ⟨rfl, (List.getElem?_eq_some_iff.mp ‹_›).1⟩
  obtain ⟨rfl, hi⟩ := e
  have hiσ : i < σ.length := by rw [← R.len]; exact hi
  refine ⟨by rw [List.length_set, List.length_set]; exact R.len, R.f0, R.fh, R.old, R.new, fun j s hj => ?_, fun j k b hj hk e1 e2 => ?_, R.penh, R.pent⟩
  · by_cases e : j = i
    · subst e
      rw [List.getElem?_set_self hi] at hj
      cases hj
      exact ⟨v, List.getElem?_set_self hiσ, hv⟩
    · rw [List.getElem?_set_ne (Ne.symm e)] at hj
      rw [List.getElem?_set_ne (Ne.symm e)]
      exact R.slot j s hj
  · obtain ⟨m1, n1⟩ := mu_set_dat hj
    obtain ⟨m2, n2⟩ := mu_set_dat hk
    rw [List.getElem?_set_ne (Ne.symm n1)] at e1
    rw [List.getElem?_set_ne (Ne.symm n2)] at e2
    exact R.apart j k b m1 m2 e1 e2
theorem Rel.setO {i : Nat} {xs : List D} {a : Addr} {st' : AS} (R : Rel K C F st σ H) (h : setO i xs st = some st') (h0 : C.H0 a = none) (hl : Lst K F H a xs) (hap : ∀ j, Mu st j → σ[j]? ≠ some (some (.ref a))) :
    Rel K C F st' (σ.set i (some (.ref a))) H := by
  have e : st' = st.set i (.own xs) ∧ i < st.length := by
    unfold Xm.setO at h
    split at h <;> cases h
    exact ⟨rfl, (List.getElem?_eq_some_iff.mp ‹_›).1⟩
  obtain ⟨rfl, hi⟩ := e
  have hiσ : i < σ.length := by rw [← R.len]; exact hi
  have back : ∀ j, j ≠ i → Mu (st.set i (.own xs)) j → Mu st j := fun j e h => by
    unfold Mu at h ⊢
    rw [List.getElem?_set_ne (Ne.symm e)] at h
    exact h
  refine ⟨by rw [List.length_set, List.length_set]; exact R.len, R.f0, R.fh, R.old, R.new, fun j s hj => ?_, fun j k b hj hk e1 e2 => ?_, R.penh, R.pent⟩
  · by_cases e : j = i
    · subst e
      rw [List.getElem?_set_self hi] at hj
      cases hj
      exact ⟨a, List.getElem?_set_self hiσ, h0, hl⟩
    · rw [List.getElem?_set_ne (Ne.symm e)] at hj
      rw [List.getElem?_set_ne (Ne.symm e)]
      exact R.slot j s hj
  · by_cases ej : j = i
    · subst ej
      by_cases ek : k = j
      · exact ek.symm
      · rw [List.getElem?_set_self hiσ] at e1
        rw [List.getElem?_set_ne (Ne.symm ek)] at e2
        cases e1
        exact absurd e2 (hap k (back k ek hk))
    · by_cases ek : k = i
      · subst ek
        rw [List.getElem?_set_self hiσ] at e2
        rw [List.getElem?_set_ne (Ne.symm ej)] at e1
        cases e2
        exact absurd e1 (hap j (back j ej hj))
      · rw [List.getElem?_set_ne (Ne.symm ej)] at e1
        rw [List.getElem?_set_ne (Ne.symm ek)] at e2
        exact R.apart j k b (back j ej hj) (back k ek hk) e1 e2
end
section
variable {X : Cx} {C : Ct} {pos : Pos} {e : Expr} {st : Stmt} {sts : List Stmt} {f : EF} {g : LF} {s u : SF} {c : BF}
theorem xs_nil : PSs X [] (sOf (kxOf X) C skipS) := pss_wk pss_nil fun Z σ H q => by
  obtain ⟨F, st, w, R, e, q⟩ := q
  cases e
  exact q σ H F (Same.refl _) R
theorem seqS_ok {K : Kx} {Z : Ends} {σ : L2.St} {H : Hp} (q : sOf K C (seqS s u) Z σ H) : tSeq (sOf K C s) (sOf K C u) Z σ H := by
  obtain ⟨F, st, w, R, e, q⟩ := q
  obtain ⟨a, ea, e⟩ := Option.bind_eq_some_iff.mp e
  refine ⟨F, st, a, R, ea, ?_⟩
  obtain ⟨fl, st1⟩ := a
  cases fl with
  | nx =>
    intro σ1 H1 F1 s1 R1
    refine ⟨F1, st1, w, R1, e, ?_⟩
    obtain ⟨fl2, st2⟩ := w
    cases fl2 with
    | nx => exact fun σ2 H2 F2 s2 R2 => q σ2 H2 F2 (s1.trans s2) R2
    | brk => exact fun σ2 H2 F2 s2 R2 => q σ2 H2 F2 (s1.trans s2) R2
    | cont => exact fun σ2 H2 F2 s2 R2 => q σ2 H2 F2 (s1.trans s2) R2
    | ret r => exact RetQ.up q s1
  | brk => cases e; exact q
  | cont => cases e; exact q
  | ret r => cases e; exact q
theorem xs_cons (h1 : PS X st (sOf (kxOf X) C s)) (h2 : PSs X sts (sOf (kxOf X) C u)) : PSs X (st :: sts) (sOf (kxOf X) C (seqS s u)) := pss_wk (pss_cons h1 h2) fun _ _ _ q => seqS_ok q
theorem xs_one (h1 : PS X st (sOf (kxOf X) C s)) : PSs X [st] (sOf (kxOf X) C s) := pss_one h1
theorem xs_never : PS X st (sOf (kxOf X) C neverS) := ps_wk ps_never fun Z σ H q => by
  obtain ⟨F, st, w, R, e, q⟩ := q
  cases e
theorem xs_pass : PS X (.Pass pos) (sOf (kxOf X) C skipS) := ps_wk ps_pass fun Z σ H q => by
  obtain ⟨F, st, w, R, e, q⟩ := q
  cases e
  exact q σ H F (Same.refl _) R
theorem xs_doc {x j pos'} : PS X (.Expr (.Constant (.str x) j pos) pos') (sOf (kxOf X) C skipS) := ps_wk ps_doc fun Z σ H q => by
  obtain ⟨F, st, w, R, e, q⟩ := q
  cases e
  exact q σ H F (Same.refl _) R
theorem xs_ret (he : PE X e (dOf (kxOf X) C f)) : PS X (.Return (some e) pos) (sOf (kxOf X) C (retS f)) := ps_wk (ps_ret he) fun Z σ H q => by
  obtain ⟨F, st, w, R, e, q⟩ := q
  obtain ⟨a, ea, e⟩ := Option.map_eq_some_iff.mp e
  cases e
  exact ⟨F, st, a, R, ea, fun v H1 F1 s1 R1 d1 => q v σ H1 F1 s1 R1 d1⟩
theorem xs_retN (he : PE X e (nOf (kxOf X) C g)) : PS X (.Return (some e) pos) (sOf (kxOf X) C (retN g)) := ps_wk (ps_ret he) fun Z σ H q => by
  obtain ⟨F, st, w, R, e, q⟩ := q
  obtain ⟨a, ea, e⟩ := Option.map_eq_some_iff.mp e
  cases e
  exact ⟨F, st, a, R, ea, fun p vs H1 F1 s1 R1 h0 h1 h2 _ d1 => q _ σ H1 F1 s1 R1 ⟨p, rfl, h0, h1, vs, h2, d1⟩⟩
theorem xs_retM {i : Nat} (he : PE X e (tVar i)) : PS X (.Return (some e) pos) (sOf (kxOf X) C (retM i)) := ps_wk (ps_ret he) fun Z σ H q => by
  obtain ⟨F, st, w, R, e, q⟩ := q
  unfold retM at e
  split at e
  · rename_i xs hx
    cases e
    obtain ⟨a, h1, h2, h3⟩ := R.slot i _ hx
    exact ⟨.ref a, h1, q _ σ H F (Same.refl _) R ⟨a, rfl, h2, h3⟩⟩
  · rename_i d hd
    cases e
    obtain ⟨v, h1, h2⟩ := R.slot i _ hd
    exact ⟨v, h1, q _ σ H F (Same.refl _) R h2⟩
  · cases e
theorem xs_drop (he : PE X e (dOf (kxOf X) C f)) (hs : swapsWith e none pos.line X.env = pure false := by rfl) : PS X (.Expr e pos) (sOf (kxOf X) C (dropS f)) := ps_wk (ps_expr he hs) fun Z σ H q => by
  obtain ⟨F, st, w, R, e, q⟩ := q
  obtain ⟨a, ea, e⟩ := Option.map_eq_some_iff.mp e
  cases e
  exact ⟨F, st, a, R, ea, fun v H1 F1 s1 R1 d1 => q σ H1 F1 s1 R1⟩
theorem xs_if {t : Expr} {a b : List Stmt} (hc : PT X t (bOf (kxOf X) C c)) (ha : PSs X a (sOf (kxOf X) C s)) (hb : PSs X b (sOf (kxOf X) C u)) : PS X (.If t a b pos) (sOf (kxOf X) C (ifS c s u)) := ps_wk (ps_if hc ha hb) fun Z σ H q => by
  obtain ⟨F, st, w, R, e, q⟩ := q
  obtain ⟨a, ea, e⟩ := Option.bind_eq_some_iff.mp e
  refine ⟨F, st, a, R, ea, fun H1 F1 s1 R1 => ?_⟩
  have fin : ∀ g : SF, g a.2 = some w → sOf (kxOf X) C g Z σ H1 := fun g eg => by
    refine ⟨F1, a.2, w, R1, eg, ?_⟩
    obtain ⟨fl2, st2⟩ := w
    cases fl2 with
    | nx => exact fun σ2 H2 F2 s2 R2 => q σ2 H2 F2 (s1.trans s2) R2
    | brk => exact fun σ2 H2 F2 s2 R2 => q σ2 H2 F2 (s1.trans s2) R2
    | cont => exact fun σ2 H2 F2 s2 R2 => q σ2 H2 F2 (s1.trans s2) R2
    | ret r => exact RetQ.up q s1
  dsimp only
  split
  · rename_i h
    rw [if_pos h] at e
    exact fin s e
  · rename_i h
    rw [if_neg h] at e
    exact fin u e
theorem xs_set {i : Nat} {x : Str} {pos' : Pos} (hN : X.N.Nodup) (he : PE X e (dOf (kxOf X) C f)) (hi : X.N[i]? = some x) (hx : Loc X.env.scope x) (hs : swapsWith e (some (.Name x pos')) pos.line X.env = pure false := by rfl) (hf : X.fn x = true ∨ X.env.scope.names.lookup x = some .local := by first | exact .inl rfl | exact .inr rfl | assumption) :
    PS X (.Assign [.Name x pos'] e pos) (sOf (kxOf X) C (asgS i f)) := ps_wk (ps_set hN hi hx he hs hf) fun Z σ H q => by
  obtain ⟨F, st, w, R, e, q⟩ := q
  obtain ⟨a, ea, e⟩ := Option.bind_eq_some_iff.mp e
  obtain ⟨st', es, e⟩ := Option.map_eq_some_iff.mp e
  cases e
  exact ⟨F, st, a, R, ea, fun v H1 F1 s1 R1 d1 => q _ H1 F1 s1 (R1.setD es d1)⟩
theorem xs_setN {i : Nat} {x : Str} {pos' : Pos} (hN : X.N.Nodup) (he : PE X e (nOf (kxOf X) C g)) (hi : X.N[i]? = some x) (hx : Loc X.env.scope x) (hs : swapsWith e (some (.Name x pos')) pos.line X.env = pure false := by rfl) (hf : X.fn x = true ∨ X.env.scope.names.lookup x = some .local := by first | exact .inl rfl | exact .inr rfl | assumption) :
    PS X (.Assign [.Name x pos'] e pos) (sOf (kxOf X) C (asgN i g)) := ps_wk (ps_set hN hi hx he hs hf) fun Z σ H q => by
  obtain ⟨F, st, w, R, e, q⟩ := q
  obtain ⟨a, ea, e⟩ := Option.bind_eq_some_iff.mp e
  obtain ⟨st', es, e⟩ := Option.map_eq_some_iff.mp e
  cases e
  exact ⟨F, st, a, R, ea, fun p vs H1 F1 s1 R1 h0 h1 h2 h3 d1 => q _ H1 F1 s1 (R1.setO es h0 ⟨h1, vs, h2, d1⟩ h3)⟩
end
end Xm

set_option Elab.async false
set_option linter.all false
set_option maxRecDepth 100000
namespace Xm
open PySem PySem.Spec PyProof.Rows L2

/-! ### what a loop walks -/
structure ItOk (K : Kx) (F : Hp) (J : It) (ds : List D) : Prop where
  go : ∀ i H, i < ds.length → Same F H → J.go i H
  stop : ∀ H, Same F H → J.stop ds.length H
  yld : ∀ i H x H' d, ds[i]? = some d → Same F H → J.yld i H x H' → ∃ G : Hp, (∀ a o, G a = some o → H' a = some o ∧ H a = none) ∧ Same H H' ∧ ∀ F1, Same F F1 → Same G F1 → Dp K F1 x d
def over (G F : Hp) : Hp := fun a => match F a with
  | some o => some o
  | none => G a
theorem over_gr {G F H H' : Hp} (fh : Same F H) (hg : ∀ a o, G a = some o → H' a = some o ∧ H a = none) (hh : Same H H') : Gr F H (over G F) H' ∧ Same G (over G F) := by
  refine ⟨⟨fun a o e => ?_, fun a o e => ?_, hh, fun a e => ?_⟩, fun a o e => ?_⟩
  · unfold over; rw [e]
  · unfold over at e
    split at e
    · rename_i u hu
      cases e
      exact hh _ _ (fh _ _ hu)
    · exact (hg a o e).1
  · unfold over at e
    split at e
    · rename_i u hu
      exact .inl (by rw [hu]; simp)
    · cases q : G a with
      | none => exact absurd q e
      | some o => exact .inr (hg a o q).2
  · unfold over
    have := (hg a o e).2
    rw [fh.free this]
    exact e
def iOf (K : Kx) (C : Ct) (f : LF) : TI := fun σ H R => ∃ F st r, Rel K C F st σ H ∧ f st = some r ∧ ∀ J H' F', Same F F' → Rel K C F' r.2 σ H' → ItOk K F' J r.1 → R J H'
def itD (f : EF) : LF := fun st => (f st).bind fun a => match a.1 with
  | .list xs => some (xs, a.2)
  | .tuple xs => some (xs, a.2)
  | _ => none
theorem itl_ok {K : Kx} {F : Hp} {a : Addr} {vs : List V} {ds : List D} (hs : SqL K.K F a vs) (hv : DpAll K F vs ds) : ItOk K F (Itl K.K a) ds where
  go := fun i H hi e => ⟨vs, vs[i]'(by rw [DpAll_len hv]; exact hi), sql_up e hs, by simp⟩
  stop := fun H e => ⟨vs, sql_up e hs, by rw [DpAll_len hv]; exact Nat.le_refl _⟩
  yld := fun i H x H' d hd e y => by
    obtain ⟨rfl, y⟩ := y
    obtain ⟨v, h1, h2⟩ := DpAll_get hv hd
    have := y vs (sql_up e hs)
    rw [h1] at this
    cases this
    exact ⟨fun _ => none, fun _ _ z => (nomatch z), Same.refl _, fun F1 s1 _ => Dp_up h2 s1⟩
theorem itt_ok {K : Kx} {F : Hp} {a : Addr} {vs : List V} {ds : List D} (hs : SqT K.K F a vs) (hv : DpAll K F vs ds) : ItOk K F (Itt K.K a) ds where
  go := fun i H hi e => ⟨vs, vs[i]'(by rw [DpAll_len hv]; exact hi), sqt_up e hs, by simp⟩
  stop := fun H e => ⟨vs, sqt_up e hs, by rw [DpAll_len hv]; exact Nat.le_refl _⟩
  yld := fun i H x H' d hd e y => by
    obtain ⟨rfl, y⟩ := y
    obtain ⟨v, h1, h2⟩ := DpAll_get hv hd
    have := y vs (sqt_up e hs)
    rw [h1] at this
    cases this
    exact ⟨fun _ => none, fun _ _ z => (nomatch z), Same.refl _, fun F1 s1 _ => Dp_up h2 s1⟩
theorem itr_ok {K : Kx} {F : Hp} {lo : Int} {n : Nat} : ItOk K F (Itr lo n) ((List.range n).map fun (k : Nat) => .int (lo + (k : Int))) where
  go := fun i H hi _ => by
    have : i < n := by simpa using hi
    exact this
  stop := fun H _ => by show n ≤ _; simp
  yld := fun i H x H' d hd _ y => by
    obtain ⟨rfl, rfl⟩ := y
    rw [List.getElem?_map] at hd
    obtain ⟨k, hk, rfl⟩ := Option.map_eq_some_iff.mp hd
    have hk2 : k = i := by
      rw [List.getElem?_range (by
        have := (List.getElem?_eq_some_iff.mp hk).1
        simpa using this)] at hk
      exact (Option.some.inj hk).symm
    subst hk2
    exact ⟨fun _ => none, fun _ _ z => (nomatch z), Same.refl _, fun F1 _ _ => .int _⟩
def rngD (lo hi : Int) : List D := (List.range (hi - lo).toNat).map fun (k : Nat) => .int (lo + (k : Int))
def itR1 (f : EF) : LF := fun st => (f st).bind fun a => match a.1 with
  | .int j => if -(2 ^ 62) ≤ j ∧ j < 2 ^ 62 then some (rngD 0 j, a.2) else none
  | _ => none
def itR2 (f g : EF) : LF := fun st => (f st).bind fun a => (g a.2).bind fun b => match a.1, b.1 with
  | .int i, .int j => if (-(2 ^ 62) ≤ i ∧ i < 2 ^ 62) ∧ (-(2 ^ 62) ≤ j ∧ j < 2 ^ 62) then some (rngD i j, b.2) else none
  | _, _ => none
section
variable {X : Cx} {C : Ct} {pos p : Pos} {tg e a b : Expr} {f g : EF}
/-- both kinds at once -/
def iSeq (K : Kx) (tl : TE) : TI := fun σ H R => tl σ H fun x H1 => ∃ a, x = .ref a ∧ ((∃ xs, SqL K.K H1 a xs) ∧ R (Itl K.K a) H1 ∨ (∃ xs, SqT K.K H1 a xs) ∧ R (Itt K.K a) H1)
theorem xi_seq0 {l : Expr} {tl : TE} (hl : PE X l tl) : PI X tg l (iSeq (kxOf X) tl) := by
  refine ⟨fun pins s σ H R I h => ?_⟩
  refine thn (hl.run pins s σ H _ I h) fun v s1 ⟨x, H1, I1, r1, a, ex, q1⟩ => ?_
  subst ex
  cases r1
  rcases q1 with ⟨⟨xs, hq⟩, q⟩ | ⟨⟨xs, hq⟩, q⟩
  · obtain ⟨its, rv, pl, hz⟩ := I1.list hq
    refine wpAny_pyIter_list pl.isList ?_
    refine ⟨s1.heap.objs.size, [s1.heap.objs.size], _, _, H1, rfl, I1.kept (t' := s1.toks) fun b o e => Heap.get?_push_of_some _ e, turn_list a _, ⟨_, Heap.get?_push_size _ rfl, rfl, rfl⟩, fun b hb => ?_, q⟩
    obtain rfl : b = s1.heap.objs.size := by simpa using hb
    exact I1.fpOk (Nat.le_refl _) (I1.hok.fresh (Nat.le_refl _))
  · obtain ⟨its, rv, pl, hz⟩ := I1.tuple hq
    refine wpAny_pyIter_tuple (show s1.heap.IsTuple a its.toArray from pl) ?_
    refine ⟨s1.heap.objs.size, [s1.heap.objs.size], _, _, H1, rfl, I1.kept (t' := s1.toks) fun b o e => Heap.get?_push_of_some _ e, turn_tuple a _, ⟨_, Heap.get?_push_size _ rfl, rfl, rfl⟩, fun b hb => ?_, q⟩
    obtain rfl : b = s1.heap.objs.size := by simpa using hb
    exact I1.fpOk (Nat.le_refl _) (I1.hok.fresh (Nat.le_refl _))
theorem xi_seq (h : PE X e (dOf (kxOf X) C f)) : PI X tg e (iOf (kxOf X) C (itD f)) := pi_wk (xi_seq0 h) fun σ H R q => by
  obtain ⟨F, st, w, Rl, ew, q⟩ := q
  obtain ⟨a, ea, ew⟩ := Option.bind_eq_some_iff.mp ew
  refine ⟨F, st, a, Rl, ea, fun v H1 F1 s1 R1 d1 => ?_⟩
  split at ew
  · rename_i xs hx
    cases ew
    rw [hx] at d1
    cases d1 with
    | lst hs hv => exact ⟨_, rfl, .inl ⟨⟨_, sql_up R1.fh hs⟩, q _ H1 F1 s1 R1 (itl_ok hs hv)⟩⟩
  · rename_i xs hx
    cases ew
    rw [hx] at d1
    cases d1 with
    | tup hs hv => exact ⟨_, rfl, .inr ⟨⟨_, sqt_up R1.fh hs⟩, q _ H1 F1 s1 R1 (itt_ok hs hv)⟩⟩
  · cases ew
theorem xi_range1 (hm : X.mg "range" = none) (ha : PE X a (dOf (kxOf X) C f)) (hg : Gl X "range" := by rfl) (hs : starEach [a] X.env = [(false, eval a X.env)] := by rfl) : PI X tg (.Call (.Name "range" p) [a] [] pos) (iOf (kxOf X) C (itR1 f)) :=
  pi_wk (pi_range1 hg hm (pa_cons ha pa_nil hs) hs) fun σ H R q => by
    obtain ⟨F, st, w, Rl, ew, q⟩ := q
    obtain ⟨a, ea, ew⟩ := Option.bind_eq_some_iff.mp ew
    refine ⟨F, st, a, Rl, ea, fun v H1 F1 s1 R1 d1 => ?_⟩
    split at ew
    · rename_i j hj
      split at ew
      · rename_i hb
        cases ew
        rw [hj] at d1
        refine ⟨j, by rw [dp_int d1], hb.1, hb.2, ?_⟩
        have z := q (Itr 0 j.toNat) H1 F1 s1 R1 (by
          unfold rngD
          rw [Int.sub_zero]
          exact itr_ok)
        exact z
      · cases ew
    · cases ew
theorem xi_range2 (hm : X.mg "range" = none) (ha : PE X a (dOf (kxOf X) C f)) (hb : PE X b (dOf (kxOf X) C g)) (hg : Gl X "range" := by rfl) (hs : starEach [a, b] X.env = [(false, eval a X.env), (false, eval b X.env)] := by rfl) (hs2 : starEach [b] X.env = [(false, eval b X.env)] := by rfl) : PI X tg (.Call (.Name "range" p) [a, b] [] pos) (iOf (kxOf X) C (itR2 f g)) :=
  pi_wk (pi_range2 hg hm (pa_cons ha (pa_cons hb pa_nil hs2) (by rw [hs, hs2])) hs hs2) fun σ H R q => by
    obtain ⟨F, st, w, Rl, ew, q⟩ := q
    obtain ⟨a, ea, ew⟩ := Option.bind_eq_some_iff.mp ew
    obtain ⟨b, eb, ew⟩ := Option.bind_eq_some_iff.mp ew
    refine ⟨F, st, a, Rl, ea, fun v H1 F1 s1 R1 d1 => ⟨F1, a.2, b, R1, eb, fun u H2 F2 s2 R2 d2 => ?_⟩⟩
    split at ew
    · rename_i i j hi hj
      split at ew
      · rename_i hb
        cases ew
        rw [hi] at d1
        rw [hj] at d2
        refine ⟨i, j, by rw [dp_int d1, dp_int d2], ⟨hb.1.1, hb.1.2, hb.2.1, hb.2.2⟩, ?_⟩
        exact q (Itr i (j - i).toNat) H2 F2 (s1.trans s2) R2 itr_ok
      · cases ew
    · cases ew
end

/-! ### targets -/
def nilT : List D → AS → Option AS := fun ds st => match ds with
  | [] => some st
  | _ => none
def consT (u : D → AS → Option AS) (w : List D → AS → Option AS) : List D → AS → Option AS := fun ds st => match ds with
  | d :: r => (u d st).bind fun st' => w r st'
  | [] => none
def tupT (n : Nat) (w : List D → AS → Option AS) : D → AS → Option AS := fun d st => match d with
  | .tuple ds => if ds.length = n then w ds st else none
  | _ => none
def gsOf (K : Kx) (C : Ct) (u : List D → AS → Option AS) (ts : List Nat) : TGs := fun vs σ H Q => ∃ F st ds st', Rel K C F st σ H ∧ DpAll K F vs ds ∧ u ds st = some st' ∧ ∀ σ' H' F', Same F F' → Rel K C F' st' σ' H' → σ'.length = σ.length → (∀ j, j ∉ ts → σ'[j]? = σ[j]?) → Q σ' H'
section
variable {X : Cx} {C : Ct} {pos p : Pos} {e : Expr} {es : List Expr}
theorem pgs_wk {t t' : TGs} (h : PGs X es t) (w : ∀ v σ H Q, t' v σ H Q → t v σ H Q) : PGs X es t' := ⟨fun pins s σ H v u Q I r q => h.run pins s σ H v u Q I r (w v σ H Q q)⟩
theorem xg_name {i : Nat} {x : Str} (hN : X.N.Nodup) (hi : X.N[i]? = some x) (hx : Loc X.env.scope x) (hf : X.fn x = true ∨ X.env.scope.names.lookup x = some .local := by first | exact .inl rfl | exact .inr rfl | assumption) : PG X (.Name x pos) (gOf (kxOf X) C (setD i) [i]) :=
  pg_wk (pg_name hN hi hx hf) fun v σ H Q q => by
    obtain ⟨F, st, d, st', R, hd, e, q⟩ := q
    exact q _ H F (Same.refl _) (R.setD e hd) (List.length_set ..) fun j hj => List.getElem?_set_ne fun z => hj (by simp [z])
theorem xg_nil : PGs X [] (gsOf (kxOf X) C nilT []) := pgs_wk pgs_nil fun v σ H Q q => by
  obtain ⟨F, st, ds, st', R, hd, e, q⟩ := q
  unfold nilT at e
  split at e <;> cases e
  cases hd
  exact ⟨rfl, q σ H F (Same.refl _) R rfl fun _ _ => rfl⟩
theorem xg_cons {ts ts' : List Nat} {u : D → AS → Option AS} {w : List D → AS → Option AS} (h1 : PG X e (gOf (kxOf X) C u ts)) (h2 : PGs X es (gsOf (kxOf X) C w ts')) (hs : (assignEach (e :: es) X.env).map (·.2) = assign e X.env :: (assignEach es X.env).map (·.2) := by rfl) : PGs X (e :: es) (gsOf (kxOf X) C (consT u w) (ts ++ ts')) :=
  pgs_wk (pgs_cons h1 h2 hs) fun v σ H Q q => by
    obtain ⟨F, st, ds, st', R, hd, e, q⟩ := q
    unfold consT at e
    split at e
    · rename_i d r
      obtain ⟨st1, e1, e2⟩ := Option.bind_eq_some_iff.mp e
      cases hd with
      | cons hd1 hd2 => exact ⟨_, _, rfl, F, st, d, st1, R, hd1, e1, fun σ1 H1 F1 s1 R1 l1 k1 => ⟨F1, st1, r, st', R1, DpAll_up hd2 s1, e2, fun σ2 H2 F2 s2 R2 l2 k2 => q σ2 H2 F2 (s1.trans s2) R2 (l2.trans l1) fun j hj => by
        rw [List.mem_append] at hj
        rw [k2 j fun z => hj (.inr z), k1 j fun z => hj (.inl z)]⟩⟩
    · cases e
theorem xg_tup {k n : Nat} {ts : List Nat} {w : List D → AS → Option AS} (h : PGs X es (gsOf (kxOf X) C w ts)) (hc : X.calm = true := by rfl)
    (hn : (assignEach es X.env).length = n := by rfl) (hst : (assignEach es X.env).findIdx? (·.1) = none := by rfl) : PG X (.Tuple es k pos) (gOf (kxOf X) C (tupT n w) ts) :=
  pg_wk (pg_tup hc h hn hst) fun v σ H Q q => by
    obtain ⟨F, st, d, st', R, hd, e, q⟩ := q
    unfold tupT at e
    split at e
    · split at e
      · rename_i ds hl
        cases hd with
        | tup hs hv => exact ⟨_, _, rfl, sqt_up R.fh hs, by rw [DpAll_len hv]; exact hl, F, st, ds, st', R, hv, e, q⟩
      · cases e
    · cases e
end

/-! ### for -/
def loopS (u : D → AS → Option AS) (b : SF) : List D → AS → Option (Fl × AS)
  | [], st => some (.nx, st)
  | d :: ds, st => (u d st).bind fun st1 => (b st1).bind fun w => match w.1 with
    | .nx => loopS u b ds w.2
    | .cont => loopS u b ds w.2
    | .brk => some (.nx, w.2)
    | .ret r => some (.ret r, w.2)
def forS (it : LF) (u : D → AS → Option AS) (b : SF) : SF := fun st => (it st).bind fun a => loopS u b a.1 a.2
section
variable {X : Cx} {C : Ct} {pos : Pos}
theorem xs_for {ts : List Nat} {tg iter : Expr} {body : List Stmt} {it : LF} {u : D → AS → Option AS} {b : SF} (hp : PassesOwn (model X.prog X.w) X.A X.env X.xe) (hc : X.calm = true) (hi : PI X tg iter (iOf (kxOf X) C it)) (hg : PG X tg (gOf (kxOf X) C u ts)) (hb : PSs X body (sOf (kxOf X) C b))
    (hs : ∀ x, foldedSetIterable iter X.env x = pure x := by intro _; rfl) : PS X (.For tg iter body [] pos) (sOf (kxOf X) C (forS it u b)) := ps_wk (ps_for hp hc hi hg hb hs) fun Z σ H q => by
  obtain ⟨F, st, w, R, e, q⟩ := q
  obtain ⟨a, ea, e⟩ := Option.bind_eq_some_iff.mp e
  refine ⟨F, st, a, R, ea, fun J H1 F1 s1 R1 J1 => ?_⟩
  refine ⟨fun i m σ H => m = a.1.length - i ∧ i ≤ a.1.length ∧ ∃ F2 st2, Same F1 F2 ∧ Rel (kxOf X) C F2 st2 σ H ∧ loopS u b (a.1.drop i) st2 = some w, ⟨a.1.length, by simp, Nat.zero_le _, F1, a.2, Same.refl _, R1, e⟩, ?_⟩
  rintro i m σ2 H2 ⟨rfl, hi, F2, st2, s2, R2, e2⟩
  by_cases hlt : i < a.1.length
  · refine .inr ⟨J1.go i H2 hlt (s2.trans R2.fh), ?_⟩
    have hd : a.1[i]? = some a.1[i] := List.getElem?_eq_getElem hlt
    rw [List.drop_eq_getElem_cons hlt] at e2
    obtain ⟨st3, e3, e4⟩ := Option.bind_eq_some_iff.mp e2
    obtain ⟨v, ev, e5⟩ := Option.bind_eq_some_iff.mp e4
    refine ⟨fun σ' H' => ∃ F4, Same F2 F4 ∧ Rel (kxOf X) C F4 v.2 σ' H' ∧ loopS u b (a.1.drop (i + 1)) v.2 = some w, fun σ' H' ⟨F4, s4, R4, e6⟩ => ⟨a.1.length - (i + 1), by omega, rfl, hlt, F4, v.2, s2.trans s4, R4, e6⟩, fun x H3 hy => ?_⟩
    obtain ⟨G, hG, hh, hx⟩ := J1.yld i H2 x H3 _ hd (s2.trans R2.fh) hy
    obtain ⟨gr, sg⟩ := over_gr R2.fh hG hh
    refine ⟨over G F2, st2, _, st3, R2.grow gr, hx _ (s2.trans gr.ff) sg, e3, fun σ4 H4 F4 s4 R4 _ _ => ?_⟩
    refine ⟨F4, st3, v, R4, ev, ?_⟩
    have up : Same F1 F4 := (s2.trans gr.ff).trans s4
    obtain ⟨fl, st5⟩ := v
    cases fl with
    | nx => exact fun σ5 H5 F5 s5 R5 => ⟨F5, (gr.ff.trans s4).trans s5, R5, e5⟩
    | cont => exact fun σ5 H5 F5 s5 R5 => ⟨F5, (gr.ff.trans s4).trans s5, R5, e5⟩
    | brk =>
      cases e5
      exact fun σ5 H5 F5 s5 R5 => q σ5 H5 F5 ((s1.trans up).trans s5) R5
    | ret r =>
      cases e5
      exact RetQ.up q (s1.trans up)
  · have e3 : i = a.1.length := by omega
    subst e3
    rw [List.drop_length] at e2
    cases e2
    exact .inl ⟨J1.stop H2 (s2.trans R2.fh), q σ2 H2 F2 (s1.trans s2) R2⟩

/-! ### while -/
def whileN (c : BF) (b : SF) : Nat → AS → Option (Fl × AS)
  | 0, _ => none
  | n + 1, st => (c st).bind fun a => if a.1 = true then (b a.2).bind fun w => match w.1 with
      | .nx => whileN c b n w.2
      | .cont => whileN c b n w.2
      | .brk => some (.nx, w.2)
      | .ret r => some (.ret r, w.2)
    else some (.nx, a.2)
/-- the number of turns is given by the state -/
def whileS (c : BF) (b : SF) (n : AS → Nat) : SF := fun st => whileN c b (n st) st
theorem xs_while {t : Expr} {body : List Stmt} {c : BF} {b : SF} (n : AS → Nat) (hp : PassesOwn (model X.prog X.w) X.A X.env X.xe) (hc : PT X t (bOf (kxOf X) C c)) (hb : PSs X body (sOf (kxOf X) C b)) : PS X (.While t body [] pos) (sOf (kxOf X) C (whileS c b n)) := ps_wk (ps_while hp hc hb) fun Z σ H q => by
  obtain ⟨F, st, w, R, e, q⟩ := q
  refine ⟨fun m σ H => ∃ F2 st2, Same F F2 ∧ Rel (kxOf X) C F2 st2 σ H ∧ whileN c b m st2 = some w, ⟨n st, F, st, Same.refl _, R, e⟩, ?_⟩
  rintro m σ2 H2 ⟨F2, st2, s2, R2, e2⟩
  cases m with
  | zero => cases e2
  | succ m =>
    obtain ⟨a, ea, e2⟩ := Option.bind_eq_some_iff.mp e2
    refine ⟨F2, st2, a, R2, ea, fun H3 F3 s3 R3 => ?_⟩
    dsimp only
    split
    · rename_i h
      rw [if_pos h] at e2
      obtain ⟨v, ev, e5⟩ := Option.bind_eq_some_iff.mp e2
      refine ⟨fun σ' H' => ∃ F4, Same F F4 ∧ Rel (kxOf X) C F4 v.2 σ' H' ∧ whileN c b m v.2 = some w, fun σ' H' ⟨F4, s4, R4, e6⟩ => ⟨m, Nat.lt_succ_self m, F4, v.2, s4, R4, e6⟩, F3, a.2, v, R3, ev, ?_⟩
      have up : Same F F3 := s2.trans s3
      obtain ⟨fl, st5⟩ := v
      cases fl with
      | nx => exact fun σ5 H5 F5 s5 R5 => ⟨F5, up.trans s5, R5, e5⟩
      | cont => exact fun σ5 H5 F5 s5 R5 => ⟨F5, up.trans s5, R5, e5⟩
      | brk =>
        cases e5
        exact fun σ5 H5 F5 s5 R5 => q σ5 H5 F5 (up.trans s5) R5
      | ret r =>
        cases e5
        exact RetQ.up q up
    · rename_i h
      rw [if_neg h] at e2
      cases e2
      exact q σ2 H3 F3 (s2.trans s3) R3
end
end Xm

set_option Elab.async false
set_option linter.all false
set_option maxRecDepth 100000
namespace Xm
open PySem PySem.Spec PyProof.Rows L2

section
variable {K : Kx} {C : Ct} {F F' H H' : Hp} {st : AS} {σ τ : L2.St}
/-- a new object that is no longer changed -/
theorem Rel.freezeO {a : Addr} {o : HO} (R : Rel K C F st σ H) (h0 : C.H0 a = none) (hF : F a = none) (hH : H a = some o) (hap : ∀ j, Mu st j → σ[j]? ≠ some (some (.ref a))) :
    Same F (upd F a o) ∧ Rel K C (upd F a o) st σ H := by
  have hff : Same F (upd F a o) := same_upd hF
  refine ⟨hff, ⟨R.len, R.f0.trans hff, ?_, R.old, ?_, ?_, R.apart, R.penh, R.pent⟩⟩
  · intro b o e
    by_cases hb : b = a
    · subst hb; rw [upd_same] at e; cases e; exact hH
    · rw [upd_ne hb] at e; exact R.fh _ _ e
  · intro b hb0 hb1
    have hb : b ≠ a := fun z => by subst z; exact hb1 h0
    rw [upd_ne hb]
    exact R.new b hb0 hb1
  · intro j s hj
    have q := R.slot j s hj
    cases s with
    | no => trivial
    | dat d => obtain ⟨v, q1, q2⟩ := q; exact ⟨v, q1, Dp_up q2 hff⟩
    | own ys =>
      obtain ⟨b, q1, q2, q3, us, q4, q5⟩ := q
      have hb : b ≠ a := fun z => by subst z; exact hap j ⟨_, hj, rfl⟩ q1
      exact ⟨b, q1, q2, by rw [upd_ne hb]; exact q3, us, q4, DpAll_up q5 hff⟩
    | pen ys =>
      obtain ⟨b, q1, q2, q3, us, q4, q5⟩ := q
      have hb : b ≠ a := fun z => by subst z; exact hap j ⟨_, hj, rfl⟩ q1
      exact ⟨b, q1, q2, by rw [upd_ne hb]; exact q3, us, q4, DpAll_up q5 hff⟩
    | dct kvs =>
      obtain ⟨b, q1, q2, q3, u, q4, q5⟩ := q
      have hb : b ≠ a := fun z => by subst z; exact hap j ⟨_, hj, rfl⟩ q1
      exact ⟨b, q1, q2, by rw [upd_ne hb]; exact q3, u, q4, q5.up hff⟩
/-- a new list that is no longer changed -/
theorem Rel.freezeNew {a : Addr} {vs : List V} {xs : List D} (R : Rel K C F st σ H) (h0 : C.H0 a = none) (hF : F a = none) (hH : H a = some (.lst vs)) (hap : ∀ j, Mu st j → σ[j]? ≠ some (some (.ref a))) (hv : DpAll K F vs xs) :
    Same F (upd F a (.lst vs)) ∧ Rel K C (upd F a (.lst vs)) st σ H ∧ Dp K (upd F a (.lst vs)) (.ref a) (.list xs) := by
  obtain ⟨hff, R2⟩ := R.freezeO h0 hF hH hap
  exact ⟨hff, R2, .lst (.inl (.inl upd_same)) (DpAll_up hv hff)⟩
theorem Rel.slots (R : Rel K C F st σ H) (hl : τ.length = σ.length) (h : ∀ i : Nat, st[i]? ≠ some Slot.no → τ[i]? = σ[i]?) : Rel K C F st τ H where
  len := R.len.trans hl.symm
  f0 := R.f0
  fh := R.fh
  old := R.old
  new := R.new
  slot := fun i s e => by
    cases s with
    | no => trivial
    | dat d => rw [h i (by rw [e]; simp)]; exact R.slot i _ e
    | own xs => rw [h i (by rw [e]; simp)]; exact R.slot i _ e
    | pen xs => rw [h i (by rw [e]; simp)]; exact R.slot i _ e
    | dct xs => rw [h i (by rw [e]; simp)]; exact R.slot i _ e
  apart := fun i j a hi hj e1 e2 => by
    have nn : ∀ k : Nat, Mu st k → st[k]? ≠ some Slot.no := fun k hk z => by
      obtain ⟨s, e, m⟩ := hk
      rw [z] at e
      cases e
      cases m
    rw [h i (nn i hi)] at e1
    rw [h j (nn j hj)] at e2
    exact R.apart i j a hi hj e1 e2
  penh := R.penh
  pent := R.pent
theorem wipe_get {vs : List Nat} {i : Nat} : (wipe σ vs)[i]? = if i ∈ vs ∧ i < σ.length then some none else σ[i]? := by
  induction vs with
  | nil => simp [wipe]
  | cons v vs ih =>
    unfold wipe
    by_cases e : v = i
    · subst e
      by_cases hv : v < σ.length
      · rw [List.getElem?_set_self (by rw [wipe_length]; exact hv), if_pos ⟨by simp, hv⟩]
      · rw [if_neg (fun z => hv z.2), List.getElem?_eq_none_iff.mpr (by rw [List.length_set, wipe_length]; omega), List.getElem?_eq_none_iff.mpr (by omega)]
    · rw [List.getElem?_set_ne e, ih]
      by_cases hm : i ∈ vs
      · by_cases hi : i < σ.length
        · rw [if_pos ⟨hm, hi⟩, if_pos ⟨by simp [hm], hi⟩]
        · rw [if_neg (fun z => hi z.2), if_neg (fun z => hi z.2)]
      · rw [if_neg (fun z => hm z.1), if_neg (fun z => (List.mem_cons.mp z.1).elim (fun q => e q.symm) hm)]
theorem wipe_eq {vs ts : List Nat} (hl : τ.length = (wipe σ vs).length) (h : ∀ j, j ∉ ts → τ[j]? = (wipe σ vs)[j]?) (hts : ∀ j ∈ ts, j ∈ vs) : wipe τ vs = wipe σ vs := by
  refine List.ext_getElem? fun i => ?_
  rw [wipe_length] at hl
  by_cases hi : i ∈ vs
  · by_cases hb : i < σ.length
    · rw [wipe_get, wipe_get, if_pos ⟨hi, by omega⟩, if_pos ⟨hi, hb⟩]
    · rw [List.getElem?_eq_none_iff.mpr (by rw [wipe_length]; omega), List.getElem?_eq_none_iff.mpr (by rw [wipe_length]; omega)]
  · rw [wipe_get, if_neg (fun z => hi z.1), h i fun z => hi (hts i z)]
/-- a list at D, kept aside -/
abbrev Ct.atO (C : Ct) (D : Addr) (o : HO) : Ct := { C with H0 := upd C.H0 D o }
abbrev Ct.at (C : Ct) (D : Addr) (vs : List V) : Ct := C.atO D (.lst vs)
structure Aside (C : Ct) (F : Hp) (st : AS) (σ : L2.St) (a : Addr) : Prop where
  h0 : C.H0 a = none
  f : F a = none
  pn : C.pen ≠ some a
  ap : ∀ j, Mu st j → σ[j]? ≠ some (some (.ref a))
theorem Rel.into {a : Addr} {u : HO} (R : Rel K C F st σ H) (A : Aside C F st σ a) (hH : H a = some u) : Rel K (C.atO a u) F st σ H where
  len := R.len
  f0 := R.f0
  fh := R.fh
  old := fun b o e hp => by
    by_cases hb : b = a
    · subst hb
      have e' : upd C.H0 b u b = some o := e
      rw [upd_same] at e'
      cases e'
      exact hH
    · have e' : upd C.H0 a u b = some o := e
      rw [upd_ne hb] at e'
      exact R.old b o e' hp
  new := fun b h1 h2 => by
    by_cases hb : b = a
    · subst hb; exact A.f
    · have h2' : upd C.H0 a u b ≠ none := h2
      rw [upd_ne hb] at h2'
      exact R.new b h1 h2'
  slot := fun i s e => by
    have q := R.slot i s e
    cases s with
    | no => trivial
    | dat d => exact q
    | own ys =>
      obtain ⟨b, q1, q2, q3⟩ := q
      have hb : b ≠ a := fun z => by subst z; exact A.ap i (⟨_, e, rfl⟩) q1
      exact ⟨b, q1, (upd_ne hb).trans q2, q3⟩
    | pen ys => exact q
    | dct ys =>
      obtain ⟨b, q1, q2, q3⟩ := q
      have hb : b ≠ a := fun z => by subst z; exact A.ap i ⟨_, e, rfl⟩ q1
      exact ⟨b, q1, (upd_ne hb).trans q2, q3⟩
  apart := R.apart
  penh := fun p hp => by
    by_cases hb : p = a
    · subst hb; exact absurd hp A.pn
    · show upd C.H0 a u p ≠ none
      rw [upd_ne hb]
      exact R.penh p hp
  pent := R.pent
theorem Rel.outof {a : Addr} {u : HO} (R : Rel K (C.atO a u) F st σ H) (h0 : C.H0 a = none) (hf : C.F0 a = none) (hp : C.pen ≠ some a) : Rel K C F st σ H ∧ Aside C F st σ a ∧ H a = some u := by
  have sa : upd C.H0 a u a = some u := upd_same
  have hF : F a = none := R.new a hf (by show upd C.H0 a u a ≠ none; rw [sa]; simp)
  refine ⟨⟨R.len, R.f0, R.fh, fun b o e hp' => ?_, fun b h1 h2 => ?_, fun i s e => ?_, R.apart, fun p hp' => ?_, R.pent⟩, ⟨h0, hF, hp, fun j hj e => ?_⟩, R.old a _ sa hp⟩
  · have hb : b ≠ a := fun z => by subst z; rw [h0] at e; cases e
    exact R.old b o ((upd_ne hb).trans e) hp'
  · have hb : b ≠ a := fun z => by subst z; exact h2 h0
    exact R.new b h1 (by show upd C.H0 a u b ≠ none; rw [upd_ne hb]; exact h2)
  · have q := R.slot i s e
    cases s with
    | no => trivial
    | dat d => exact q
    | own ys =>
      obtain ⟨b, q1, q2, q3⟩ := q
      have hb : b ≠ a := fun z => by
        subst z
        have q2' : upd C.H0 b u b = none := q2
        rw [upd_same] at q2'
        cases q2'
      exact ⟨b, q1, (upd_ne hb).symm.trans q2, q3⟩
    | pen ys => exact q
    | dct ys =>
      obtain ⟨b, q1, q2, q3⟩ := q
      have hb : b ≠ a := fun z => by
        subst z
        have q2' : upd C.H0 b u b = none := q2
        rw [upd_same] at q2'
        cases q2'
      exact ⟨b, q1, (upd_ne hb).symm.trans q2, q3⟩
  · have hb : p ≠ a := fun z => by subst z; exact hp hp'
    have q := R.penh p hp'
    have q' : upd C.H0 a u p ≠ none := q
    rw [upd_ne hb] at q'
    exact q'
  · obtain ⟨s, hx, hm⟩ := hj
    have q := R.slot j _ hx
    cases s with
    | no => cases hm
    | dat d => cases hm
    | pen xs =>
      obtain ⟨b, q1, q2, q3⟩ := q
      rw [e] at q1
      cases q1
      exact hp q2
    | own xs =>
      obtain ⟨b, q1, q2, q3⟩ := q
      rw [e] at q1
      cases q1
      have q2' : upd C.H0 a u a = none := q2
      rw [upd_same] at q2'
      cases q2'
    | dct xs =>
      obtain ⟨b, q1, q2, q3⟩ := q
      rw [e] at q1
      cases q1
      have q2' : upd C.H0 a u a = none := q2
      rw [upd_same] at q2'
      cases q2'
theorem Rel.write {a : Addr} {o : HO} (R : Rel K C F st σ H) (A : Aside C F st σ a) : Rel K C F st σ (upd H a o) where
  len := R.len
  f0 := R.f0
  fh := fun b u e => by
    have hb : b ≠ a := fun z => by subst z; rw [A.f] at e; cases e
    rw [upd_ne hb]; exact R.fh b u e
  old := fun b u e hp => by
    have hb : b ≠ a := fun z => by subst z; rw [A.h0] at e; cases e
    rw [upd_ne hb]; exact R.old b u e hp
  new := R.new
  slot := fun i s e => by
    have q := R.slot i s e
    cases s with
    | no => trivial
    | dat d => exact q
    | own ys =>
      obtain ⟨b, q1, q2, q3, us, q4, q5⟩ := q
      have hb : b ≠ a := fun z => by subst z; exact A.ap i (⟨_, e, rfl⟩) q1
      exact ⟨b, q1, q2, q3, us, by rw [upd_ne hb]; exact q4, q5⟩
    | pen ys =>
      obtain ⟨b, q1, q2, q3, us, q4, q5⟩ := q
      have hb : b ≠ a := fun z => by subst z; exact A.ap i (⟨_, e, rfl⟩) q1
      exact ⟨b, q1, q2, q3, us, by rw [upd_ne hb]; exact q4, q5⟩
    | dct ys =>
      obtain ⟨b, q1, q2, q3, us, q4, q5⟩ := q
      have hb : b ≠ a := fun z => by subst z; exact A.ap i ⟨_, e, rfl⟩ q1
      exact ⟨b, q1, q2, q3, us, by rw [upd_ne hb]; exact q4, q5⟩
  apart := R.apart
  penh := R.penh
  pent := fun p hp => by
    by_cases hb : p = a
    · subst hb; rw [upd_same]; simp
    · rw [upd_ne hb]; exact R.pent p hp
/-- a new place is aside of all -/
theorem Rel.aside {a : Addr} (R : Rel K C F st σ H) (h : H a = none) : Aside C F st σ a ∧ C.F0 a = none := by
  have hF : F a = none := R.fh.free h
  have hpn : C.pen ≠ some a := fun z => R.pent a z h
  refine ⟨⟨?_, hF, hpn, fun j hj e => ?_⟩, R.f0.free hF⟩
  · cases q : C.H0 a with
    | none => rfl
    | some o => rw [R.old a o q hpn] at h; cases h
  · obtain ⟨s, hx, hm⟩ := hj
    have q := R.slot j _ hx
    cases s with
    | no => cases hm
    | dat d => cases hm
    | own xs =>
      obtain ⟨b, q1, q2, q3, us, q4, q5⟩ := q
      rw [e] at q1
      cases q1
      rw [h] at q4; cases q4
    | pen xs =>
      obtain ⟨b, q1, q2, q3, us, q4, q5⟩ := q
      rw [e] at q1
      cases q1
      rw [h] at q4; cases q4
    | dct xs =>
      obtain ⟨b, q1, q2, q3, us, q4, q5⟩ := q
      rw [e] at q1
      cases q1
      rw [h] at q4; cases q4
end

/-! ### new lists -/
def listE (g : LF) : EF := fun st => (g st).map fun a => (.list a.1, a.2)
section
variable {X : Cx} {C : Ct} {pos : Pos} {e : Expr} {es : List Expr} {g : LF}
theorem xd_new (h : PE X e (nOf (kxOf X) C g)) : PE X e (dOf (kxOf X) C (listE g)) := pe_wk h fun σ H Q q => by
  obtain ⟨F, st, w, R, e, q⟩ := q
  obtain ⟨a, ea, e⟩ := Option.map_eq_some_iff.mp e
  cases e
  refine ⟨F, st, a, R, ea, fun p vs H1 F1 s1 R1 h0 h1 h2 h3 d1 => ?_⟩
  obtain ⟨k1, k2, k3⟩ := R1.freezeNew h0 h1 h2 h3 d1
  exact q _ H1 _ (s1.trans k1) k2 k3
theorem xn_lst (h : PA X es (aOf (kxOf X) C g)) : PE X (.List es pos) (nOf (kxOf X) C (newF g)) := pe_wk (pe_lst h) fun σ H Q q => by
  obtain ⟨F, st, w, R, e, q⟩ := q
  obtain ⟨b, eb, e⟩ := Option.bind_eq_some_iff.mp e
  split at e <;> cases e
  rename_i hl
  refine ⟨F, st, w, R, eb, fun vs H1 F1 s1 R1 d1 => ⟨by rw [DpAll_len d1]; exact hl, fun p hp => ?_⟩⟩
  obtain ⟨A, hf⟩ := R1.aside hp
  exact q p vs _ F1 s1 (R1.write A) A.h0 A.f upd_same A.ap d1
end

/-! ### comprehensions -/
def clr (st : AS) : List Nat → AS
  | [] => st
  | v :: vs => (clr st vs).set v .no
theorem clr_len (st : AS) : ∀ vs, (clr st vs).length = st.length
  | [] => rfl
  | v :: vs => by unfold clr; rw [List.length_set, clr_len]
theorem clr_get {st : AS} {vs : List Nat} {i : Nat} : (clr st vs)[i]? = if i ∈ vs ∧ i < st.length then some .no else st[i]? := by
  induction vs with
  | nil => simp [clr]
  | cons v vs ih =>
    unfold clr
    by_cases e : v = i
    · subst e
      by_cases hv : v < st.length
      · rw [List.getElem?_set_self (by rw [clr_len]; exact hv), if_pos ⟨by simp, hv⟩]
      · rw [if_neg (fun z => hv z.2), List.getElem?_eq_none_iff.mpr (by rw [List.length_set, clr_len]; omega), List.getElem?_eq_none_iff.mpr (by omega)]
    · rw [List.getElem?_set_ne e, ih]
      by_cases hm : i ∈ vs
      · by_cases hi : i < st.length
        · rw [if_pos ⟨hm, hi⟩, if_pos ⟨by simp [hm], hi⟩]
        · rw [if_neg (fun z => hi z.2), if_neg (fun z => hi z.2)]
      · rw [if_neg (fun z => hm z.1), if_neg (fun z => (List.mem_cons.mp z.1).elim (fun q => e q.symm) hm)]
def noS : Option Slot → Bool
  | some .no => true
  | _ => false
def allNo (st : AS) (vs : List Nat) : Bool := vs.all fun i => noS st[i]?
theorem allNo_iff {st : AS} {vs : List Nat} (h : allNo st vs = true) : ∀ i ∈ vs, st[i]? = some Slot.no := fun i hi => by
  have q := List.all_eq_true.mp h i hi
  unfold noS at q
  split at q
  · assumption
  · cases q
def yesB : BF := fun st => some (true, st)
def compL (u : D → AS → Option AS) (tt : BF) (te : EF) (vs : List Nat) : List D → AS → Option (List D × AS)
  | [], st => some ([], st)
  | d :: ds, st => (u d st).bind fun st1 => (tt st1).bind fun c => if c.1 = true then (te c.2).bind fun x => (compL u tt te vs ds (clr x.2 vs)).map fun r => (x.1 :: r.1, r.2)
    else compL u tt te vs ds (clr c.2 vs)
def compF (it : LF) (u : D → AS → Option AS) (tt : BF) (te : EF) (vs : List Nat) : LF := fun st => (it st).bind fun a => if allNo a.2 vs = true ∧ a.1.length ≤ sizeLine then compL u tt te vs a.1 a.2 else none
section
variable {X : Cx} {C : Ct} {pos : Pos}
/-- the slots of the block's own names hold nothing -/
theorem Rel.clr {K : Kx} {C : Ct} {F H : Hp} {st : AS} {σ : L2.St} {vs : List Nat} (R : Rel K C F st σ H) : Rel K C F (Xm.clr st vs) (wipe σ vs) H := by
  have R1 : Rel K C F (Xm.clr st vs) σ H := rel_mono_slots R (clr_len st vs) fun i s e => by
    rw [clr_get] at e
    split at e
    · cases e; exact .inl rfl
    · exact .inr e
  refine R1.slots (wipe_length σ vs) fun i hi => ?_
  rw [wipe_get, if_neg]
  rintro ⟨z1, z2⟩
  exact hi (by rw [clr_get, if_pos ⟨z1, by rw [R.len]; exact z2⟩])
theorem lc_ok {K : Kx} {it : LF} {u : D → AS → Option AS} {ts : List Nat} {tt : BF} {te : EF} {vs : List Nat} {σ : L2.St} {H : Hp} {Q : VK} (hts : ∀ j ∈ ts, j ∈ vs)
    (hg : TG) (ht : TT) (he : TE) (kg : ∀ C v σ H Q, gOf K C u ts v σ H Q → hg v σ H Q) (kt : ∀ C σ H Q, bOf K C tt σ H Q → ht σ H Q) (ke : ∀ C σ H Q, dOf K C te σ H Q → he σ H Q)
    (q : nOf K C (compF it u tt te vs) σ H Q) : tLc (iOf K C it) hg ht he vs σ H Q := by
  obtain ⟨F, st, w, R, e, q⟩ := q
  obtain ⟨a, ea, e⟩ := Option.bind_eq_some_iff.mp e
  split at e
  · rename_i hno
    obtain ⟨hno, hlen⟩ := hno
    have hno' := allNo_iff hno
    refine ⟨F, st, a, R, ea, fun J H1 F1 s1 R1 J1 => fun Dd hD => ?_⟩
    obtain ⟨A1, hF0⟩ := R1.aside hD
    have Rw : ∀ {F2 st2 H2}, Rel K C F2 st2 σ H2 → (∀ i ∈ vs, st2[i]? = some Slot.no) → Rel K C F2 st2 (wipe σ vs) H2 := fun R2 hn => R2.slots (wipe_length σ vs) fun i hi => by
      rw [wipe_get, if_neg]
      rintro ⟨z1, z2⟩
      exact hi (hn i z1)
    have apW : ∀ {st2 : AS}, (∀ j, Mu st2 j → σ[j]? ≠ some (some (.ref Dd))) → ∀ j, Mu st2 j → (wipe σ vs)[j]? ≠ some (some (.ref Dd)) := fun h j hj z => by
      rw [wipe_get] at z
      split at z
      · cases z
      · exact h j hj z
    refine ⟨fun i m H => m = a.1.length - i ∧ i ≤ a.1.length ∧ ∃ F2 st2 vsa dsa rest, Same F1 F2 ∧ Rel K C F2 st2 (wipe σ vs) H ∧ H Dd = some (.lst vsa) ∧ Aside C F2 st2 (wipe σ vs) Dd ∧ DpAll K F2 vsa dsa ∧ dsa.length ≤ i ∧
      (∀ i ∈ vs, st2[i]? = some Slot.no) ∧ compL u tt te vs (a.1.drop i) st2 = some (rest, w.2) ∧ dsa ++ rest = w.1,
      ⟨a.1.length, by simp, Nat.zero_le _, F1, a.2, [], [], w.1, Same.refl _, Rw (R1.write A1) hno', upd_same, ⟨A1.h0, A1.f, A1.pn, apW A1.ap⟩, .nil, Nat.le_refl _, hno', e, rfl⟩, ?_⟩
    rintro i m H2 ⟨rfl, hi, F2, st2, vsa, dsa, rest, s2, R2, h2, A2, d2, hl2, n2, e2, w2⟩
    by_cases hlt : i < a.1.length
    · refine .inr ⟨J1.go i H2 hlt (s2.trans R2.fh), ?_⟩
      have hd : a.1[i]? = some a.1[i] := List.getElem?_eq_getElem hlt
      rw [List.drop_eq_getElem_cons hlt] at e2
      obtain ⟨st3, e3, e4⟩ := Option.bind_eq_some_iff.mp e2
      obtain ⟨c, ec, e5⟩ := Option.bind_eq_some_iff.mp e4
      refine ⟨fun H' => ∃ F4 st4 vsb dsb rest, Same F1 F4 ∧ Rel K C F4 st4 (wipe σ vs) H' ∧ H' Dd = some (.lst vsb) ∧ Aside C F4 st4 (wipe σ vs) Dd ∧ DpAll K F4 vsb dsb ∧ dsb.length ≤ i + 1 ∧
        (∀ i ∈ vs, st4[i]? = some Slot.no) ∧ compL u tt te vs (a.1.drop (i + 1)) st4 = some (rest, w.2) ∧ dsb ++ rest = w.1, fun H' ⟨F4, st4, vsb, dsb, rest, k⟩ => ⟨a.1.length - (i + 1), by omega, rfl, hlt, F4, st4, vsb, dsb, rest, k⟩, fun x H3 hy => ?_⟩
      obtain ⟨G, hG, hh, hx⟩ := J1.yld i H2 x H3 _ hd (s2.trans R2.fh) hy
      obtain ⟨gr, sg⟩ := over_gr R2.fh hG hh
      have R3 := (R2.into A2 h2).grow gr
      refine kg (C.at Dd vsa) x (wipe σ vs) H3 _ ⟨over G F2, st2, _, st3, R3, hx _ (s2.trans gr.ff) sg, e3, fun σ4 H4 F4 s4 R4 l4 k4 => ⟨wipe_eq l4 k4 hts, ?_⟩⟩
      have up4 : Same F1 F4 := (s2.trans gr.ff).trans s4
      have w4 : wipe σ4 vs = wipe σ vs := wipe_eq l4 k4 hts
      have no_of : ∀ (stx : AS), stx.length = σ4.length → ∀ j ∈ vs, (Xm.clr stx vs)[j]? = some Slot.no := fun stx hlx j hj => by
        rw [clr_get, if_pos]
        refine ⟨hj, ?_⟩
        have z := (List.getElem?_eq_some_iff.mp (n2 j hj)).1
        have z2 := R2.len
        rw [hlx, l4]
        omega
      refine kt (C.at Dd vsa) σ4 H4 _ ⟨F4, st3, c, R4, ec, fun H5 F5 s5 R5 => ?_⟩
      have up5 : Same F1 F5 := up4.trans s5
      have u25 : Same F2 F5 := (gr.ff.trans s4).trans s5
      dsimp only
      split
      · rename_i hc
        rw [if_pos hc] at e5
        obtain ⟨y, ey, e6⟩ := Option.bind_eq_some_iff.mp e5
        obtain ⟨r, er, e7⟩ := Option.map_eq_some_iff.mp e6
        obtain ⟨e8, e9⟩ := Prod.mk.inj e7
        subst e8
        have er : compL u tt te vs (a.1.drop (i + 1)) (Xm.clr y.2 vs) = some (r.1, w.2) := by rw [er, ← e9]
        refine ke (C.at Dd vsa) σ4 H5 _ ⟨F5, c.2, y, R5, ey, fun yv H6 F6 s6 R6 dy => ?_⟩
        obtain ⟨R7, A7, h7⟩ := R6.outof A1.h0 hF0 A1.pn
        refine ⟨vsa, h7, by rw [DpAll_len d2]; exact Nat.lt_of_le_of_lt hl2 (Nat.lt_of_lt_of_le hlt hlen), ?_⟩
        have R8 := (R7.write (o := .lst (vsa ++ [yv])) A7).clr (vs := vs)
        rw [w4] at R8
        refine ⟨F6, Xm.clr y.2 vs, vsa ++ [yv], dsa ++ [y.1], r.1, up5.trans s6, R8, upd_same, ⟨A7.h0, A7.f, A7.pn, fun j hj z => ?_⟩, DpAll_app (DpAll_up d2 (u25.trans s6)) (.cons dy .nil), by rw [List.length_append, List.length_singleton]; omega, no_of _ R6.len, er, by rw [List.append_assoc]; exact w2⟩
        rw [← w4, wipe_get] at z
        split at z
        · cases z
        · rename_i hz
          refine A7.ap j ?_ z
          unfold Mu at hj ⊢
          have hlx := R6.len
          rw [clr_get, if_neg (fun q => hz ⟨q.1, by omega⟩)] at hj
          exact hj
      · rename_i hc
        rw [if_neg hc] at e5
        obtain ⟨R7, A7, h7⟩ := R5.outof A1.h0 hF0 A1.pn
        have R8 := R7.clr (vs := vs)
        rw [w4] at R8
        refine ⟨F5, Xm.clr c.2 vs, vsa, dsa, rest, up5, R8, h7, ⟨A7.h0, A7.f, A7.pn, fun j hj z => ?_⟩, DpAll_up d2 u25, by omega, no_of _ R5.len, e5, w2⟩
        rw [← w4, wipe_get] at z
        split at z
        · cases z
        · rename_i hz
          refine A7.ap j ?_ z
          unfold Mu at hj ⊢
          have hlx := R5.len
          rw [clr_get, if_neg (fun q => hz ⟨q.1, by omega⟩)] at hj
          exact hj
    · have e3 : i = a.1.length := by omega
      subst e3
      rw [List.drop_length] at e2
      cases e2
      have w3 : dsa = w.1 := by rw [List.append_nil] at w2; exact w2
      have Rb : Rel K C F2 w.2 σ H2 := R2.slots (wipe_length σ vs).symm fun i hi => by
        rw [wipe_get, if_neg]
        rintro ⟨z1, z2⟩
        exact hi (n2 i z1)
      refine .inl ⟨J1.stop H2 (s2.trans R2.fh), q Dd vsa H2 F2 (s1.trans s2) Rb A2.h0 A2.f h2 (fun j hj z => ?_) (w3 ▸ d2)⟩
      refine A2.ap j hj ?_
      rw [wipe_get, if_neg]
      · exact z
      · rintro ⟨z1, z2⟩
        have z3 := n2 j z1
        obtain ⟨s0, hx, hm⟩ := hj
        rw [z3] at hx
        cases hx
        cases hm
  · cases e
end
section
variable {X : Cx} {C : Ct} {pos : Pos} {elt tg iter : Expr} {ifs : List Expr} {scope : Scope} {own : List (Str × Nat)} {it : LF} {u : D → AS → Option AS} {ts : List Nat} {tt : BF} {te : EF} {vs : List Nat}
theorem xn_lc (hN : X.N.Nodup) (hi : PI X tg iter (iOf (kxOf X) C it)) (ok : BlkOk X.N X.env.scope scope own)
    (hg : ∀ (C : Ct) (s : Shared) (H : Hp) (c : Addr) (cl : List (Str × Addr)) (fp : List Addr), PG (X.blk s H scope (compEnvC scope cl c X.env) fp) tg (gOf (kxOf X) C u ts))
    (ht : ∀ (C : Ct) (s : Shared) (H : Hp) (c : Addr) (cl : List (Str × Addr)) (fp : List Addr), PTs (X.blk s H scope (compEnvC scope cl c X.env) fp) ifs (bOf (kxOf X) C tt))
    (he : ∀ (C : Ct) (s : Shared) (H : Hp) (c : Addr) (cl : List (Str × Addr)) (fp : List Addr), PE (X.blk s H scope (compEnvC scope cl c X.env) fp) elt (dOf (kxOf X) C te))
    (hvs : own.map (·.2) = vs := by rfl) (hts : ∀ j ∈ ts, j ∈ vs := by decide) (hc : X.calm = true := by rfl) (hs : ∀ x, foldedSetIterable iter X.env x = pure x := by intro _; rfl) :
    PE X (.ListComp elt [⟨tg, iter, ifs, 0⟩] scope pos) (nOf (kxOf X) C (compF it u tt te vs)) := by
  subst hvs
  exact pe_wk (pe_lc (g := fun v σ H Q => ∃ C, gOf (kxOf X) C u ts v σ H Q) (tt := fun σ H Q => ∃ C, bOf (kxOf X) C tt σ H Q) (te := fun σ H Q => ∃ C, dOf (kxOf X) C te σ H Q) hc hN hi ok
    (fun s H c cl fp => ⟨fun pins s1 σ H1 v uu Q I r ⟨C1, q⟩ => (hg C1 s H c cl fp).run pins s1 σ H1 v uu Q I r q⟩)
    (fun s H c cl fp => ⟨fun pins s1 σ H1 Q I ⟨C1, q⟩ => (ht C1 s H c cl fp).run pins s1 σ H1 Q I q⟩)
    (fun s H c cl fp => ⟨fun pins s1 σ H1 Q I ⟨C1, q⟩ => (he C1 s H c cl fp).run pins s1 σ H1 Q I q⟩) hs)
    fun σ H Q q => lc_ok hts _ _ _ (fun C _ _ _ _ k => ⟨C, k⟩) (fun C _ _ _ k => ⟨C, k⟩) (fun C _ _ _ k => ⟨C, k⟩) q
theorem xts_nil {Y : Cx} {K : Kx} {C : Ct} : PTs Y [] (bOf K C yesB) := ⟨fun pins s σ H Q I q => pts_nil.run pins s σ H Q I (by
  obtain ⟨F, st, w, R, e, q⟩ := q
  cases e
  exact q H F (Same.refl _) R)⟩
theorem xts_one {Y : Cx} {t : TT} {c : Expr} (h : PT Y c t) : PTs Y [c] t := pts_one h
end
end Xm

set_option Elab.async false
set_option linter.all false
set_option maxRecDepth 100000
namespace Xm
open PySem PySem.Spec PyProof.Rows L2

/-! ### methods of lists that are still changed -/
section
variable {X : Cx} {C : Ct} {pos p apos cpos : Pos} {o e : Expr} {g : EF}
theorem xd_append {i : Nat} (ho : PE X o (tVar i)) (he : PE X e (dOf (kxOf X) C g)) (hs : starEach [e] X.env = (false, eval e X.env) :: starEach [] X.env := by rfl) (hbase : attributeBase o "append" X.env (eval o X.env) = eval o X.env := by rfl)
    (hfew : ((backTo cpos (starEach [e] X.env)).all (fun x => !x.1) && (backToKw cpos (keywordEach [] X.env)).all (fun x => x.1.isSome) && decide ([e].length + ([] : List Keyword).length + (if ([] : List Keyword).isEmpty then 0 else 1) < 30)) = true := by rfl)
    (hline : (apos.endLine == cpos.line) = true := by rfl) (hplain : (backTo cpos (starEach [] X.env)).any (·.1) = false := by rfl) :
    PE X (.Call (.Attribute o "append" apos) [e] [] cpos) (dOf (kxOf X) C (appM i g)) :=
  pe_wk (pe_bm PySem.F.plainAttrs_list PySem.F.slot_list_append PySem.F.type_list_append mt_append ho (pa_cons he pa_nil hs) hbase hfew hline hs hplain) fun σ H Q q => by
    obtain ⟨F, st, w, R, e, q⟩ := q
    obtain ⟨x0, e0, e⟩ := Option.bind_eq_some_iff.mp e
    obtain ⟨b, eb, e⟩ := Option.bind_eq_some_iff.mp e
    obtain ⟨xs, ex, e⟩ := Option.bind_eq_some_iff.mp e
    split at e
    · rename_i hl
      cases e
      obtain ⟨a, h1, ⟨hF0, vs0, hH0, hv0⟩, _⟩ := R.mu e0
      refine ⟨.ref a, h1, .inl ⟨rfl, _, .inl (.inl hH0)⟩, F, st, b, R, eb, fun y H1 F1 s1 R1 d1 => ?_⟩
      obtain ⟨a', h1', ⟨hF, vs, hH, hv⟩, _⟩ := R1.mu ex
      rw [h1] at h1'
      cases h1'
      exact ⟨a, vs, y, rfl, rfl, hH, by rw [DpAll_len hv]; exact hl, q .non _ F1 s1 (R1.put ex h1 (DpAll_app hv (.cons d1 .nil))) .non⟩
    · cases e
theorem xd_popAt {i : Nat} (ho : PE X o (tVar i)) (he : PE X e (dOf (kxOf X) C g)) (hs : starEach [e] X.env = (false, eval e X.env) :: starEach [] X.env := by rfl) (hbase : attributeBase o "pop" X.env (eval o X.env) = eval o X.env := by rfl)
    (hfew : ((backTo cpos (starEach [e] X.env)).all (fun x => !x.1) && (backToKw cpos (keywordEach [] X.env)).all (fun x => x.1.isSome) && decide ([e].length + ([] : List Keyword).length + (if ([] : List Keyword).isEmpty then 0 else 1) < 30)) = true := by rfl)
    (hline : (apos.endLine == cpos.line) = true := by rfl) (hplain : (backTo cpos (starEach [] X.env)).any (·.1) = false := by rfl) :
    PE X (.Call (.Attribute o "pop" apos) [e] [] cpos) (dOf (kxOf X) C (popM i g)) :=
  pe_wk (pe_bm PySem.F.plainAttrs_list PySem.F.slot_list_pop PySem.F.type_list_pop mt_popAt ho (pa_cons he pa_nil hs) hbase hfew hline hs hplain) fun σ H Q q => by
    obtain ⟨F, st, w, R, e, q⟩ := q
    obtain ⟨x0, e0, e⟩ := Option.bind_eq_some_iff.mp e
    obtain ⟨b, eb, e⟩ := Option.bind_eq_some_iff.mp e
    obtain ⟨xs, ex, e⟩ := Option.bind_eq_some_iff.mp e
    split at e
    · rename_i k hk
      split at e
      · rename_i hb
        obtain ⟨z, ez, e⟩ := Option.map_eq_some_iff.mp e
        cases e
        obtain ⟨a, h1, ⟨hF0, vs0, hH0, hv0⟩, _⟩ := R.mu e0
        refine ⟨.ref a, h1, .inl ⟨rfl, _, .inl (.inl hH0)⟩, F, st, b, R, eb, fun y H1 F1 s1 R1 d1 => ?_⟩
        obtain ⟨a', h1', ⟨hF, vs, hH, hv⟩, _⟩ := R1.mu ex
        rw [h1] at h1'
        cases h1'
        obtain ⟨v, hv1, hv2⟩ := DpAll_get hv ez
        have hlt : k.toNat < vs.length := (List.getElem?_eq_some_iff.mp hv1).1
        have hseq : seqIndex? k vs.length = some k.toNat := by
          refine (ixN_seq ?_).1
          unfold ixN
          rw [if_pos hb.1, if_pos (by omega)]
        rw [hk] at d1
        refine ⟨a, vs, k, k.toNat, v, rfl, by rw [dp_int d1], hH, by omega, hb.2, hseq, hv1, q v _ F1 s1 (R1.put ex h1 (DpAll_erase _ hv)) hv2⟩
      · cases e
    · cases e
/-- xs.extend(e), e a new list or one that is no longer changed -/
theorem xd_extend {i : Nat} (ho : PE X o (tVar i)) (he : PE X e (dOf (kxOf X) C g)) (hs : starEach [e] X.env = (false, eval e X.env) :: starEach [] X.env := by rfl) (hbase : attributeBase o "extend" X.env (eval o X.env) = eval o X.env := by rfl)
    (hfew : ((backTo cpos (starEach [e] X.env)).all (fun x => !x.1) && (backToKw cpos (keywordEach [] X.env)).all (fun x => x.1.isSome) && decide ([e].length + ([] : List Keyword).length + (if ([] : List Keyword).isEmpty then 0 else 1) < 30)) = true := by rfl)
    (hline : (apos.endLine == cpos.line) = true := by rfl) (hplain : (backTo cpos (starEach [] X.env)).any (·.1) = false := by rfl) : True := trivial
end

/-! ### an item stored -/
def setM (i : Nat) (f g : EF) : SF := fun st => (muC st i).bind fun _ => (f st).bind fun a => (muC a.2 i).bind fun _ => (g a.2).bind fun b => (muC b.2 i).bind fun xs => match b.1 with
  | .int k => (ixN xs.length k).map fun j => (.nx, putM b.2 i (xs.set j a.1))
  | _ => none
section
variable {X : Cx} {C : Ct} {pos spos : Pos} {o ix e : Expr} {f g : EF}
theorem xs_setItem {i : Nat} (ho : PE X o (tVar i)) (hx : PE X ix (dOf (kxOf X) C g)) (he : PE X e (dOf (kxOf X) C f))
    (ha : ∀ v, assign (.Subscript o ix spos) X.env v = (do
      let ov ← holding [v] (eval o X.env)
      let iv ← holding [v, ov] (eval ix X.env)
      standAt spos
      holding [v, ov, iv] (setItem ov iv v)
      release [v, ov, iv] []) := by intro _; rfl)
    (hs : swapsWithSole [.Subscript o ix spos] e pos.line X.env = pure false := by rfl) (hw : swappedStores [.Subscript o ix spos] e X.env = pure none := by rfl)
    (h1 : (assignEach [.Subscript o ix spos] X.env).map (·.2) = [assign (.Subscript o ix spos) X.env] := by rfl) : PS X (.Assign [.Subscript o ix spos] e pos) (sOf (kxOf X) C (setM i f g)) :=
  ps_wk (ps_asg he (pg_sub ho hx set_list ha) hs hw h1) fun Z σ H q => by
    obtain ⟨F, st, w, R, e, q⟩ := q
    obtain ⟨x0, e0, e⟩ := Option.bind_eq_some_iff.mp e
    obtain ⟨a, ea, e⟩ := Option.bind_eq_some_iff.mp e
    obtain ⟨y0, e1, e⟩ := Option.bind_eq_some_iff.mp e
    obtain ⟨b, eb, e⟩ := Option.bind_eq_some_iff.mp e
    obtain ⟨xs, ex, e⟩ := Option.bind_eq_some_iff.mp e
    split at e
    · rename_i k hk
      obtain ⟨j, ej, e⟩ := Option.map_eq_some_iff.mp e
      cases e
      refine ⟨F, st, a, R, ea, fun v H1 F1 s1 R1 d1 => ?_⟩
      obtain ⟨p, h1, ⟨hF0, vs0, hH0, hv0⟩, _⟩ := R1.mu e1
      refine ⟨.ref p, h1, F1, a.2, b, R1, eb, fun u H2 F2 s2 R2 d2 => ?_⟩
      obtain ⟨p', h1', ⟨hF, vs, hH, hv⟩, _⟩ := R2.mu ex
      rw [h1] at h1'
      cases h1'
      rw [hk] at d2
      exact ⟨p, vs, k, j, rfl, dp_int d2, hH, by rw [DpAll_len hv]; exact ej, q σ _ F2 (s1.trans s2) (R2.put ex h1 (DpAll_set j hv (Dp_up d1 s2)))⟩
    · cases e
end

/-! ### defs -/
/-- which exceptions may leave a def -/
abbrev CXM (P : Program) (w : World) : CXT := L2.CX P w
structure FnG (P : Program) (w : World) (K : PySem.W.Frag) (mg : Str → Option Value) (base : Heap) (CX : CXT) (k : Nat) (f : Addr) (fd : FuncData) (ps : List Str) (sp : Sp) : Prop where
  arity : ∀ vs H Q E, sp vs H Q E → vs.length = ps.length
  go : ∀ (A : Around) (outer : List Env) (s : Shared) (H : Hp) (args : Args) (us : List Value) (vs : List V) (Q : VK) (E : XK), Room k A → A.guards = some [] → Env0 P w K mg base A outer s H →
    BindsTo s fd args (ps.zip us) → Vals vs us → sp vs H Q E → codeAny (model P w) A (.call (.ref f) args) (CR CX outer P w H s Q E) s
section
variable {P : Program} {w : World} {K : PySem.W.Frag} {mg : Str → Option Value} {base : Heap} {CX : CXT} {k j : Nat} {f : Addr} {fd : FuncData} {ps N : List Str} {sp : Sp}
theorem FnG.mono (h : FnG P w K mg base CX j f fd ps sp) (l : j ≤ k) : FnG P w K mg base CX k f fd ps sp :=
  ⟨h.arity, fun A outer s H args us vs Q E hr hg => h.go A outer s H args us vs Q E (hr.mono l) hg⟩
/-- a def of the text keeps its promise, by its body -/
theorem fnG_of {x qual : Str} {st : Stmt} (T : Fun K x qual st f fd) (S : FnScope N ps (defScope st)) (ar : ∀ vs H Q E, sp vs H Q E → vs.length = ps.length)
    (body : ∀ (cdv : Value) (A : Around) (outer : List Env) (s : Shared) (H : Hp) (vs : List V) (Q : VK) (E : XK), Room k (A.deeper (envOfC qual (defScope st) s.heap.objs.size f cdv)) → A.guards = some [] → sp vs H Q E →
      ∃ t, PSs (cxOf CX P w K mg base N qual (defScope st) f cdv A outer s H E) (defBody st) t ∧ t { nx := fun _ H' => Q .non H', rt := Q } (L2.start N vs) H) : FnG P w K mg base CX (k + 1) f fd ps sp := by
  obtain ⟨oc, od, kV, doc, pm, an, cdv, ct, osl, rfl, lk, hcd⟩ := T.ex
  refine ⟨ar, fun A outer s H args us vs Q E room guards env bind rel want => ?_⟩
  have inHeap : ∀ b o, base.get? b = some o → s.heap.get? b = some o := fun b o e => (env.bs b o e).1
  have written : K.In s.heap := env.mod.kin.keeps inHeap
  have param : ∀ y ∈ ps.zip us, (defScope st).names.lookup y.1 = some .local ∨ ((defScope st).names.lookup y.1 = some .cell ∧ ((cellsFrom (s.heap.objs.size + 1) (defScope st).names []).lookup y.1).isSome = true) := by
    intro y hy
    rcases S.par y.1 (List.of_mem_zip hy).1 with q | q
    · exact .inl q
    · exact .inr ⟨q, PySem.W.cellsFrom_some _ _ _ (.inl q)⟩
  refine codeAny_call_function room.depth (written _ _ lk) rfl S.co S.gen rfl (PySem.W.codeRec_of written hcd) (bind _ _ _ _ ?_)
  refine wpAny_newFunctionEnv_cells S.kind param fun en hen s1 inC => ?_
  subst hen
  refine ⟨(env.mod.nolimit.keeps inHeap).keeps inC.toInCall.keep, codeAny_func ?_⟩
  obtain ⟨t, pss, ht⟩ := body cdv A outer s H vs Q E (room.deeper _) guards want
  have I0 := inv_start (CX := CX) (qual := qual) (f := f) (cd := cdv) (E := E) S room.hd env (ar _ _ _ _ want) rel inC
  refine wpAny_mono (pss.run [] s1 (L2.start N vs) H _ I0 ht) (fun fl s' hs => ?_) fun _ _ z => z
  cases fl with
  | ret u =>
    obtain ⟨v, σ', H', J, rv, q⟩ := hs
    exact ⟨v, H', J.os, J.bare, J.base, J.hok, rv, q⟩
  | next =>
    obtain ⟨σ', H', J, q⟩ := hs
    exact ⟨V.non, H', J.os, J.bare, J.base, J.hok, rfl, q⟩
  | brk =>
    obtain ⟨_, _, _, q⟩ := hs
    exact q.elim
  | cont =>
    obtain ⟨_, _, _, q⟩ := hs
    exact q.elim
end
section
variable {X : Cx} {CX : CXT} {k : Nat} {f : Addr} {fd : FuncData} {ps : List Str} {sp : Sp} {dvs : List V} {ds : List Value} {E : XK} {x : Str} {p pos : Pos} {e : Expr} {es : List Expr} {t : TA}
theorem runG {pins : List (Addr × Obj)} {σ : L2.St} {H : Hp} {s : Shared} {Q : VK} {us : List Value} {vs : List V} (G : FnG X.prog X.w X.K X.mg X.base CX k f fd ps sp) (hr : Room k X.A) (gd : X.A.guards = some []) (hb : Binds X.K fd ps ds) (hd : Vals dvs ds)
    (hx : Passes CX X E) (I : Inv X pins σ H s) (r : Vals vs us) (h : sp (vs ++ dvs) H Q E) : wpAny (model X.prog X.w) X.A (call (.ref f) us) (EP X pins σ Q) X.xe s := by
  have r2 : Vals (vs ++ dvs) (us ++ ds) := r.append hd
  have hl : (us ++ ds).length = ps.length := by rw [← r2.length, G.arity _ _ _ _ h]
  refine wpAny_call (codeAny_mono (G.go X.A X.stack s H ⟨us, []⟩ (us ++ ds) (vs ++ dvs) Q E hr gd I.env0 (hb s us I.kIn hl) r2 h) fun res s' hq => ?_)
  match res, hq with
  | .error e, hq => exact hx pins σ H s e s' I hq
  | .ok (.ret u), hq => exact I.after hq
theorem pe_callG (G : FnG X.prog X.w X.K X.mg X.base CX k f fd ps sp) (hr : Room k X.A) (gd : X.A.guards = some []) (hm : X.mg x = some (.ref f)) (hk : PySem.W.keepIn X.K (.ref f) = true) (hb : Binds X.K fd ps ds) (hd : Vals dvs ds) (hx : Passes CX X E)
    (ha : PA X (e :: es) t) (hg : Gl X x) (he : starEach (e :: es) X.env = (false, eval e X.env) :: starEach es X.env) (hpl : (backTo pos (starEach es X.env)).any (·.1) = false) (hdb : (x == ("__debug__" : Str)) = false) :
    PE X (.Call (.Name x p) (e :: es) [] pos) (tCall sp dvs E t) := by
  refine ⟨fun pins s σ H Q I h => wpAny_Call_Name_kw (ld_glob I hg hm ?_ hdb)⟩
  refine PySem.W.callWith_K (h₀ := X.base) I.ok.mod.kin hk (thn (ha.run pos pins s σ H _ I h) fun us s1 ⟨vs, H1, I1, r, q⟩ => ?_) he hpl
  exact ⟨I1.kIn, runG G hr gd hb hd hx I1 r q⟩
end

/-- what is handed back, seen by the caller -/
def RvOk (K : Kx) (H F' H' : Hp) (v : V) : RV → Prop
  | .val d => Dp K F' v d
  | .new xs => ∃ a, v = .ref a ∧ H a = none ∧ Lst K F' H' a xs
  | .dct kvs => ∃ a, v = .ref a ∧ H a = none ∧ Dct K F' H' a kvs
  | .exc _ => False
/-- a def that is a function of data: n arguments -/
def spP (K : Kx) (n : Nat) (mf : List D → Option RV) : Sp := fun vs H Q E => vs.length = n ∧ ∃ F ds r, Same F H ∧ DpAll K F vs ds ∧ mf ds = some r ∧ (∀ v F' H', Gr F H F' H' → RvOk K H F' H' v r → Q v H') ∧
  ∀ x, r = .exc x → ∀ cls d F' H', Gr F H F' H' → ExOk K F' x cls d → E cls d H'
/-- .. whose first argument is a list that it changes -/
structure GrP (p : Addr) (F H F' H' : Hp) : Prop where
  ff : Same F F'
  fh : Same F' H'
  hh : ∀ a o, a ≠ p → H a = some o → H' a = some o
  nw : ∀ a, F' a ≠ none → F a ≠ none ∨ H a = none
def spQ (K : Kx) (n : Nat) (mf : List D → List D → Option (RV × List D)) : Sp := fun vs H Q _ => vs.length = n ∧ ∃ F p vs' us xs ds r, vs = .ref p :: vs' ∧ Same F H ∧ F p = none ∧ H p = some (.lst us) ∧ DpAll K F us xs ∧ DpAll K F vs' ds ∧ mf xs ds = some r ∧ (∀ x, r.1 ≠ .exc x) ∧
  ∀ v F' H' us', GrP p F H F' H' → F' p = none → H' p = some (.lst us') → DpAll K F' us' r.2 → RvOk K H F' H' v r.1 → Q v H'

/-- the entry's slots -/
def st0 (n : Nat) (ds : List D) : AS := ds.map Slot.dat ++ List.replicate (n - ds.length) Slot.no
def st1 (n : Nat) (xs : List D) (ds : List D) : AS := Slot.pen xs :: (ds.map Slot.dat ++ List.replicate (n - ds.length - 1) Slot.no)
/-- how a def's body ends -/
def Leaves (g : SF) (st : AS) (r : RV) (last : AS → Prop) : Prop := ∃ st', (g st = some (.ret r, st') ∨ (g st = some (.nx, st') ∧ r = .val .none)) ∧ last st'
section
variable {P : Program} {w : World} {K : Kx} {mg : Str → Option Value} {base : Heap} {CX : CXT} {k : Nat} {f : Addr} {fd : FuncData} {ps N : List Str} {W : WX}
theorem start_get {N : List Str} {vs : List V} (h : vs.length ≤ N.length) {i : Nat} {v : V} (e : vs[i]? = some v) : (L2.start N vs)[i]? = some (some v) := by
  unfold L2.start
  have hi := (List.getElem?_eq_some_iff.mp e).1
  rw [List.getElem?_append_left (by simpa using hi), List.getElem?_map, e]
  rfl
theorem start_len {N : List Str} {vs : List V} (h : vs.length ≤ N.length) : (L2.start N vs).length = N.length := by
  unfold L2.start
  rw [List.length_append, List.length_map, List.length_replicate]
  omega
theorem rel0 {F H : Hp} {vs : List V} {ds : List D} (fh : Same F H) (h : DpAll K F vs ds) (hl : vs.length ≤ N.length) : Rel K ⟨H, F, none, W⟩ F (st0 N.length ds) (L2.start N vs) H where
  len := by
    unfold st0
    rw [start_len hl, List.length_append, List.length_map, List.length_replicate, ← DpAll_len h]
    omega
  f0 := Same.refl _
  fh := fh
  old := fun a o e _ => e
  new := fun a e _ => e
  slot := fun i s e => by
    unfold st0 at e
    by_cases hi : i < ds.length
    · rw [List.getElem?_append_left (by simpa using hi), List.getElem?_map] at e
      obtain ⟨d, hd, rfl⟩ := Option.map_eq_some_iff.mp e
      obtain ⟨v, h1, h2⟩ := DpAll_get h hd
      exact ⟨v, start_get hl h1, h2⟩
    · rw [List.getElem?_append_right (by simpa using hi), List.getElem?_replicate] at e
      split at e <;> cases e
      trivial
  apart := fun i j a hi _ _ _ => by
    exfalso
    have no : ∀ s, (st0 N.length ds)[i]? = some s → (∃ d, s = .dat d) ∨ s = .no := fun s e => by
      unfold st0 at e
      by_cases hi : i < ds.length
      · rw [List.getElem?_append_left (by simpa using hi), List.getElem?_map] at e
        obtain ⟨d, hd, rfl⟩ := Option.map_eq_some_iff.mp e
        exact .inl ⟨d, rfl⟩
      · rw [List.getElem?_append_right (by simpa using hi), List.getElem?_replicate] at e
        split at e <;> cases e
        exact .inr rfl
    obtain ⟨s0, e, hm⟩ := hi
    rcases no _ e with ⟨d, z⟩ | z <;> (subst z; cases hm)
  penh := fun p e => nomatch e
  pent := fun p e => nomatch e
theorem Rel.gr {F H F' H' : Hp} {st : AS} {σ : L2.St} (R : Rel K ⟨H, F, none, W⟩ F' st σ H') : Gr F H F' H' :=
  ⟨R.f0, R.fh, fun a o e => R.old a o e (fun z => nomatch z), fun a e => by
    by_cases hF : F a = none
    · by_cases hH : H a = none
      · exact .inr hH
      · exact absurd (R.new a hF hH) e
    · exact .inl hF⟩
theorem fnX {K : PySem.W.Frag} {x qual : Str} {st : Stmt} {n : Nat} {mf : List D → Option RV} (T : Fun K x qual st f fd) (S : FnScope N ps (defScope st)) (hn : n = ps.length) (hn2 : n ≤ N.length) (g : SF)
    (body : ∀ (C : Ct) (cdv : Value) (A : Around) (outer : List Env) (s : Shared) (H : Hp) (E : XK), C.W = (fun cls d _ H => E cls d H) → Room k (A.deeper (envOfC qual (defScope st) s.heap.objs.size f cdv)) → A.guards = some [] →
      PSs (cxOf CX P w K mg base N qual (defScope st) f cdv A outer s H E) (defBody st) (sOf ⟨K, P, w, mg⟩ C g))
    (law : ∀ ds r, ds.length = n → mf ds = some r → Leaves g (st0 N.length ds) r fun _ => True) : FnG P w K mg base CX (k + 1) f fd ps (spP ⟨K, P, w, mg⟩ n mf) := by
  refine fnG_of T S (fun vs H Q E h => h.1.trans hn) fun cdv A outer s H vs Q E room guards want => ?_
  obtain ⟨hl, F, ds, r, fh, hd, hm, q, qx⟩ := want
  refine ⟨_, body ⟨H, F, none, fun cls d _ H => E cls d H⟩ cdv A outer s H E rfl room guards, ?_⟩
  obtain ⟨st', hg, _⟩ := law ds r ((DpAll_len hd).symm.trans hl) hm
  have R0 : Rel ⟨K, P, w, mg⟩ ⟨H, F, none, fun cls d _ H => E cls d H⟩ F (st0 N.length ds) (L2.start N vs) H := rel0 fh hd (by omega)
  rcases hg with hg | ⟨hg, rfl⟩
  · refine ⟨F, _, _, R0, hg, ?_⟩
    cases r with
    | val d => exact fun v σ' H' F' s1 R1 ok => q v F' H' R1.gr ok
    | new xs => exact fun v σ' H' F' s1 R1 ok => q v F' H' R1.gr ok
    | dct xs => exact fun v σ' H' F' s1 R1 ok => q v F' H' R1.gr ok
    | exc x => exact fun cls d σ' H' F' s1 R1 ok => qx x rfl cls d F' H' R1.gr ok
  · exact ⟨F, _, _, R0, hg, fun σ' H' F' s1 R1 => q .non F' H' R1.gr .non⟩
/-- .. of a body that lets none out -/
theorem fnP {K : PySem.W.Frag} {x qual : Str} {st : Stmt} {n : Nat} {mf : List D → Option RV} (T : Fun K x qual st f fd) (S : FnScope N ps (defScope st)) (hn : n = ps.length) (hn2 : n ≤ N.length) (g : SF)
    (body : ∀ (C : Ct) (cdv : Value) (A : Around) (outer : List Env) (s : Shared) (H : Hp) (E : XK), Room k (A.deeper (envOfC qual (defScope st) s.heap.objs.size f cdv)) → A.guards = some [] →
      PSs (cxOf CX P w K mg base N qual (defScope st) f cdv A outer s H E).nox (defBody st) (sOf ⟨K, P, w, mg⟩ C g))
    (law : ∀ ds r, ds.length = n → mf ds = some r → Leaves g (st0 N.length ds) r fun _ => True) : FnG P w K mg base CX (k + 1) f fd ps (spP ⟨K, P, w, mg⟩ n mf) :=
  fnX T S hn hn2 g (fun C cdv A outer s H E _ room guards => (body C cdv A outer s H E room guards).nox) law
theorem rel1 {F H : Hp} {p : Addr} {us vs : List V} {xs ds : List D} (fh : Same F H) (hp : F p = none) (hH : H p = some (.lst us)) (hu : DpAll K F us xs) (h : DpAll K F vs ds) (hl : vs.length + 1 ≤ N.length) :
    Rel K ⟨H, F, some p, W⟩ F (st1 N.length xs ds) (L2.start N (.ref p :: vs)) H where
  len := by
    unfold st1
    rw [start_len (by simpa using hl), List.length_cons, List.length_append, List.length_map, List.length_replicate, ← DpAll_len h]
    omega
  f0 := Same.refl _
  fh := fh
  old := fun a o e _ => e
  new := fun a e _ => e
  slot := fun i s e => by
    unfold st1 at e
    cases i with
    | zero =>
      cases e
      exact ⟨p, start_get (by simpa using hl) rfl, rfl, hp, us, hH, hu⟩
    | succ i =>
      rw [List.getElem?_cons_succ] at e
      by_cases hi : i < ds.length
      · rw [List.getElem?_append_left (by simpa using hi), List.getElem?_map] at e
        obtain ⟨d, hd, rfl⟩ := Option.map_eq_some_iff.mp e
        obtain ⟨v, h1, h2⟩ := DpAll_get h hd
        exact ⟨v, start_get (vs := .ref p :: vs) (by simpa using hl) (by rw [List.getElem?_cons_succ]; exact h1), h2⟩
      · rw [List.getElem?_append_right (by simpa using hi), List.getElem?_replicate] at e
        split at e <;> cases e
        trivial
  apart := fun i j a hi hj _ _ => by
    have z : ∀ i, Mu (st1 N.length xs ds) i → i = 0 := fun i hi => by
      cases i with
      | zero => rfl
      | succ i =>
        exfalso
        have no : ∀ s, (st1 N.length xs ds)[i + 1]? = some s → (∃ d, s = .dat d) ∨ s = .no := fun s e => by
          unfold st1 at e
          rw [List.getElem?_cons_succ] at e
          by_cases hi : i < ds.length
          · rw [List.getElem?_append_left (by simpa using hi), List.getElem?_map] at e
            obtain ⟨d, hd, rfl⟩ := Option.map_eq_some_iff.mp e
            exact .inl ⟨d, rfl⟩
          · rw [List.getElem?_append_right (by simpa using hi), List.getElem?_replicate] at e
            split at e <;> cases e
            exact .inr rfl
        obtain ⟨s0, e, hm⟩ := hi
        rcases no _ e with ⟨d, z⟩ | z <;> (subst z; cases hm)
    rw [z i hi, z j hj]
  penh := fun q e => by
    cases e
    show H p ≠ none
    rw [hH]; simp
  pent := fun q e => by
    cases e
    rw [hH]; simp
theorem Rel.grP {p : Addr} {F H F' H' : Hp} {st : AS} {σ : L2.St} (R : Rel K ⟨H, F, some p, W⟩ F' st σ H') : GrP p F H F' H' :=
  ⟨R.f0, R.fh, fun a o n e => R.old a o e (fun z => n (Option.some.inj z).symm), fun a e => by
    by_cases hF : F a = none
    · by_cases hH : H a = none
      · exact .inr hH
      · exact absurd (R.new a hF hH) e
    · exact .inl hF⟩
/-- the changed list is still the first slot's -/
theorem fnQ {K : PySem.W.Frag} {x qual : Str} {st : Stmt} {n : Nat} {mf : List D → List D → Option (RV × List D)} (T : Fun K x qual st f fd) (S : FnScope N ps (defScope st)) (hn : n = ps.length) (hn2 : n ≤ N.length) (g : SF)
    (body : ∀ (C : Ct) (cdv : Value) (A : Around) (outer : List Env) (s : Shared) (H : Hp) (E : XK), Room k (A.deeper (envOfC qual (defScope st) s.heap.objs.size f cdv)) → A.guards = some [] →
      PSs (cxOf CX P w K mg base N qual (defScope st) f cdv A outer s H E).nox (defBody st) (sOf ⟨K, P, w, mg⟩ C g))
    (law : ∀ xs ds r, ds.length + 1 = n → mf xs ds = some r → Leaves g (st1 N.length xs ds) r.1 fun st' => st'[0]? = some (.pen r.2)) : FnG P w K mg base CX (k + 1) f fd ps (spQ ⟨K, P, w, mg⟩ n mf) := by
  refine fnG_of T S (fun vs H Q E h => h.1.trans hn) fun cdv A outer s H vs Q E room guards want => ?_
  obtain ⟨hl, F, p, vs', us, xs, ds, r, rfl, fh, hp, hH, hu, hd, hm, nx, q⟩ := want
  refine ⟨_, (body ⟨H, F, some p, fun cls d _ H => E cls d H⟩ cdv A outer s H E room guards).nox, ?_⟩
  have hl' : vs'.length + 1 = n := by simpa using hl
  obtain ⟨st', hg, hlast⟩ := law xs ds r (by rw [← DpAll_len hd]; exact hl') hm
  have R0 : Rel ⟨K, P, w, mg⟩ ⟨H, F, some p, fun cls d _ H => E cls d H⟩ F (st1 N.length xs ds) (L2.start N (.ref p :: vs')) H := rel1 fh hp hH hu hd (by omega)
  rcases hg with hg | ⟨hg, hr⟩
  · refine ⟨F, _, _, R0, hg, ?_⟩
    have fin : ∀ v (σ' : L2.St) (H' F' : Hp), Same F F' → Rel ⟨K, P, w, mg⟩ ⟨H, F, some p, fun cls d _ H => E cls d H⟩ F' st' σ' H' → RvOk ⟨K, P, w, mg⟩ H F' H' v r.1 → Q v H' := fun v σ' H' F' s1 R1 ok => by
      obtain ⟨a, h1, h2, h3, us', h4, h5⟩ := R1.slot 0 _ hlast
      cases h2
      exact q v F' H' us' R1.grP h3 h4 h5 ok
    cases hr : r.1 with
    | val d => exact fun v σ' H' F' s1 R1 ok => fin v σ' H' F' s1 R1 (by rw [hr]; exact ok)
    | new xs => exact fun v σ' H' F' s1 R1 ok => fin v σ' H' F' s1 R1 (by rw [hr]; exact ok)
    | dct xs => exact fun v σ' H' F' s1 R1 ok => fin v σ' H' F' s1 R1 (by rw [hr]; exact ok)
    | exc x => exact absurd hr (nx x)
  · refine ⟨F, _, _, R0, hg, fun σ' H' F' s1 R1 => ?_⟩
    obtain ⟨a, h1, h2, h3, us', h4, h5⟩ := R1.slot 0 _ hlast
    cases h2
    refine q .non F' H' us' R1.grP h3 h4 h5 ?_
    rw [hr]
    exact .non
end

/-! ### calls -/
def callP (mf : List D → Option RV) (dvs : List D) (g : LF) : AS → Option (RV × AS) := fun st => (g st).bind fun a => (mf (a.1 ++ dvs)).map fun r => (r, a.2)
def rvD (c : AS → Option (RV × AS)) : EF := fun st => (c st).bind fun r => match r.1 with
  | .val d => some (d, r.2)
  | .new xs => some (.list xs, r.2)
  | .dct kvs => some (.dict kvs, r.2)
  | .exc _ => none
def rvN (c : AS → Option (RV × AS)) : LF := fun st => (c st).bind fun r => match r.1 with
  | .new xs => some (xs, r.2)
  | _ => none
def callQ (mf : List D → List D → Option (RV × List D)) (i : Nat) (g : LF) : AS → Option (RV × AS) := fun st => (muC st i).bind fun _ => (g st).bind fun a => (muC a.2 i).bind fun xs => (mf xs a.1).map fun r => (r.1, putM a.2 i r.2)
section
variable {K : Kx} {C : Ct} {mf : List D → Option RV} {mq : List D → List D → Option (RV × List D)} {g : LF} {n : Nat} {σ : L2.St} {H : Hp} {Q : VK} {dvs : List V} {dds : List D} {E : XK}
theorem callP_d (hd : ∀ F, DpAll K F dvs dds) (hn : ∀ st r, g st = some r → (r.1 ++ dds).length = n) (q : dOf K C (rvD (callP mf dds g)) σ H Q) : tCall (spP K n mf) dvs E (aOf K C g) σ H Q := by
  obtain ⟨F, st, w, R, e, q⟩ := q
  obtain ⟨c, ec, e⟩ := Option.bind_eq_some_iff.mp e
  obtain ⟨a, ea, ec⟩ := Option.bind_eq_some_iff.mp ec
  obtain ⟨r, er, ec⟩ := Option.map_eq_some_iff.mp ec
  cases ec
  refine ⟨F, st, a, R, ea, fun vs H1 F1 s1 R1 d1 => ?_⟩
  have dd := DpAll_app d1 (hd F1)
  refine ⟨by rw [DpAll_len dd]; exact hn st a ea, F1, _, r, R1.fh, dd, er, fun v F2 H2 gr ok => ?_, fun x hx => by subst hx; cases e⟩
  have R2 := R1.grow gr
  cases r with
  | val d => cases e; exact q v H2 F2 (s1.trans gr.ff) R2 ok
  | new xs =>
    cases e
    obtain ⟨p, rfl, hp, hF, us, hH, hu⟩ := ok
    obtain ⟨A, _⟩ := R1.aside hp
    obtain ⟨k1, k2, k3⟩ := R2.freezeNew A.h0 hF hH (fun j hj => A.ap j hj) hu
    exact q _ H2 _ ((s1.trans gr.ff).trans k1) k2 k3
  | dct kvs =>
    cases e
    obtain ⟨p, rfl, hp, hF, u, hH, hu⟩ := ok
    obtain ⟨A, _⟩ := R1.aside hp
    obtain ⟨k1, k2⟩ := R2.freezeO A.h0 hF hH (fun j hj => A.ap j hj)
    exact q _ H2 _ ((s1.trans gr.ff).trans k1) k2 (hu.dp k1 upd_same)
  | exc x => cases e
theorem callP_n (hd : ∀ F, DpAll K F dvs dds) (hn : ∀ st r, g st = some r → (r.1 ++ dds).length = n) (q : nOf K C (rvN (callP mf dds g)) σ H Q) : tCall (spP K n mf) dvs E (aOf K C g) σ H Q := by
  obtain ⟨F, st, w, R, e, q⟩ := q
  obtain ⟨c, ec, e⟩ := Option.bind_eq_some_iff.mp e
  obtain ⟨a, ea, ec⟩ := Option.bind_eq_some_iff.mp ec
  obtain ⟨r, er, ec⟩ := Option.map_eq_some_iff.mp ec
  cases ec
  refine ⟨F, st, a, R, ea, fun vs H1 F1 s1 R1 d1 => ?_⟩
  have dd := DpAll_app d1 (hd F1)
  refine ⟨by rw [DpAll_len dd]; exact hn st a ea, F1, _, r, R1.fh, dd, er, fun v F2 H2 gr ok => ?_, fun x hx => by subst hx; cases e⟩
  have R2 := R1.grow gr
  cases r with
  | val d => cases e
  | dct d => cases e
  | exc d => cases e
  | new xs =>
    cases e
    obtain ⟨p, rfl, hp, hF, us, hH, hu⟩ := ok
    obtain ⟨A, _⟩ := R1.aside hp
    exact q p us H2 F2 (s1.trans gr.ff) R2 A.h0 hF hH (fun j hj => A.ap j hj) hu
/-- behind a call that changed the i-th slot's list -/
theorem Rel.growP {F F' H' : Hp} {st : AS} {i : Nat} {xs ys : List D} {p : Addr} {us us' : List V} (R : Rel K C F st σ H) (hx : muC st i = some xs) (hs : σ[i]? = some (some (.ref p))) (hH : H p = some (.lst us)) (gr : GrP p F H F' H') (hF' : F' p = none) (hH' : H' p = some (.lst us')) (hu : DpAll K F us xs) (hu' : DpAll K F' us' ys) :
    Rel K C F' (putM st i ys) σ H' := by
  have g2 : Gr F H F' (upd H' p (.lst us)) := ⟨gr.ff, fun a o e => by
      have hb : a ≠ p := fun z => by subst z; rw [hF'] at e; cases e
      rw [upd_ne hb]; exact gr.fh a o e, fun a o e => by
      by_cases hb : a = p
      · subst hb; rw [upd_same]; rw [hH] at e; exact e
      · rw [upd_ne hb]; exact gr.hh a o hb e, gr.nw⟩
  have R2 := (R.grow g2).put hx hs hu'
  rw [upd_upd] at R2
  have e : upd H' p (.lst us') = H' := by
    funext a
    by_cases hb : a = p
    · subst hb; rw [upd_same, hH']
    · rw [upd_ne hb]
  rw [e] at R2
  exact R2
/-- the other slots are where they were -/
theorem putM_apart {st : AS} {i : Nat} {xs ys : List D} {z : Addr} (ex : muC st i = some xs) (ap : ∀ j, Mu st j → σ[j]? ≠ some (some (.ref z))) : ∀ j, Mu (putM st i ys) j → σ[j]? ≠ some (some (.ref z)) := fun j hj => by
  refine ap j ?_
  by_cases ej : j = i
  · subst ej; exact mu_Mu ex
  · unfold Mu at hj ⊢
    have : (putM st i ys)[j]? = st[j]? := by
      unfold putM
      split <;> first | rfl | rw [List.getElem?_set_ne (Ne.symm ej)]
    rw [this] at hj
    exact hj
theorem callQ_d {i : Nat} (hn : ∀ st r, g st = some r → r.1.length + 1 = n) (q : dOf K C (rvD (callQ mq i g)) σ H Q) : tCall (spQ K n mq) [] E (tCons (tVar i) (aOf K C g)) σ H Q := by
  obtain ⟨F, st, w, R, e, q⟩ := q
  obtain ⟨c, ec, e⟩ := Option.bind_eq_some_iff.mp e
  obtain ⟨x0, e0, ec⟩ := Option.bind_eq_some_iff.mp ec
  obtain ⟨a, ea, ec⟩ := Option.bind_eq_some_iff.mp ec
  obtain ⟨xs, ex, ec⟩ := Option.bind_eq_some_iff.mp ec
  obtain ⟨r, er, ec⟩ := Option.map_eq_some_iff.mp ec
  obtain ⟨r1, r2⟩ := r
  cases ec
  obtain ⟨p, hp, _, _⟩ := R.mu e0
  refine ⟨.ref p, hp, F, st, a, R, ea, fun vs H1 F1 s1 R1 d1 => ?_⟩
  obtain ⟨p', hp', ⟨hF, us, hH, hu⟩, _⟩ := R1.mu ex
  rw [hp] at hp'
  cases hp'
  rw [List.append_nil]
  refine ⟨by rw [List.length_cons, DpAll_len d1]; exact hn st a ea, F1, p, vs, us, xs, a.1, (r1, r2), rfl, R1.fh, hF, hH, hu, d1, er, fun x hx => ?_, fun v F2 H2 us' gr k1 k2 k3 ok => ?_⟩
  · dsimp only at hx e
    subst hx
    cases e
  have R2 := R1.growP ex hp hH gr k1 k2 hu k3
  dsimp only at e ok
  cases r1 with
  | val d => cases e; exact q v H2 F2 (s1.trans gr.ff) R2 ok
  | exc x => cases e
  | new zs =>
    cases e
    obtain ⟨z, rfl, hz, hFz, ws, hHz, hw⟩ := ok
    obtain ⟨A, _⟩ := R1.aside hz
    obtain ⟨k4, k5, k6⟩ := R2.freezeNew A.h0 hFz hHz (putM_apart ex A.ap) hw
    exact q _ H2 _ ((s1.trans gr.ff).trans k4) k5 k6
  | dct zs =>
    cases e
    obtain ⟨z, rfl, hz, hFz, u, hHz, hw⟩ := ok
    obtain ⟨A, _⟩ := R1.aside hz
    obtain ⟨k4, k5⟩ := R2.freezeO A.h0 hFz hHz (putM_apart ex A.ap)
    exact q _ H2 _ ((s1.trans gr.ff).trans k4) k5 (hw.dp k4 upd_same)
theorem callQ_n {i : Nat} (hn : ∀ st r, g st = some r → r.1.length + 1 = n) (q : nOf K C (rvN (callQ mq i g)) σ H Q) : tCall (spQ K n mq) [] E (tCons (tVar i) (aOf K C g)) σ H Q := by
  obtain ⟨F, st, w, R, e, q⟩ := q
  obtain ⟨c, ec, e⟩ := Option.bind_eq_some_iff.mp e
  obtain ⟨x0, e0, ec⟩ := Option.bind_eq_some_iff.mp ec
  obtain ⟨a, ea, ec⟩ := Option.bind_eq_some_iff.mp ec
  obtain ⟨xs, ex, ec⟩ := Option.bind_eq_some_iff.mp ec
  obtain ⟨r, er, ec⟩ := Option.map_eq_some_iff.mp ec
  obtain ⟨r1, r2⟩ := r
  cases ec
  obtain ⟨p, hp, _, _⟩ := R.mu e0
  refine ⟨.ref p, hp, F, st, a, R, ea, fun vs H1 F1 s1 R1 d1 => ?_⟩
  obtain ⟨p', hp', ⟨hF, us, hH, hu⟩, _⟩ := R1.mu ex
  rw [hp] at hp'
  cases hp'
  rw [List.append_nil]
  refine ⟨by rw [List.length_cons, DpAll_len d1]; exact hn st a ea, F1, p, vs, us, xs, a.1, (r1, r2), rfl, R1.fh, hF, hH, hu, d1, er, fun x hx => ?_, fun v F2 H2 us' gr k1 k2 k3 ok => ?_⟩
  · dsimp only at hx e
    subst hx
    cases e
  have R2 := R1.growP ex hp hH gr k1 k2 hu k3
  dsimp only at e ok
  cases r1 with
  | val d => cases e
  | dct d => cases e
  | exc d => cases e
  | new zs =>
    cases e
    obtain ⟨z, rfl, hz, hFz, ws, hHz, hw⟩ := ok
    obtain ⟨A, _⟩ := R1.aside hz
    exact q z ws H2 F2 (s1.trans gr.ff) R2 A.h0 hFz hHz (putM_apart ex A.ap) hw
end
end Xm

set_option Elab.async false
set_option linter.all false
set_option maxRecDepth 100000
namespace Xm
open PySem PySem.Spec PyProof.Rows L2

/-! ### in -/
def kIn : D → D → Option D
  | a, .list xs => if SeqAt.shaped a = true ∧ SeqAt.shaped (.list xs) = true then some (.bool (xs.any fun z => PyData.eqv z a)) else none
  | a, .tuple xs => if SeqAt.shaped a = true ∧ SeqAt.shaped (.tuple xs) = true then some (.bool (xs.any fun z => PyData.eqv z a)) else none
  | _, _ => none
def kNotIn (a b : D) : Option D := (kIn a b).bind fun r => match r with
  | .bool x => some (.bool (!x))
  | _ => none
def rInAny (K : Kx) : R2 := fun x y H Q => ∃ d ds, Dp K H x d ∧ (Dp K H y (.list ds) ∧ SeqAt.shaped (.list ds) = true ∨ Dp K H y (.tuple ds) ∧ SeqAt.shaped (.tuple ds) = true) ∧ SeqAt.shaped d = true ∧ Q (.bl (ds.any fun z => PyData.eqv z d)) H
def rNotInAny (K : Kx) : R2 := fun x y H Q => ∃ d ds, Dp K H x d ∧ (Dp K H y (.list ds) ∧ SeqAt.shaped (.list ds) = true ∨ Dp K H y (.tuple ds) ∧ SeqAt.shaped (.tuple ds) = true) ∧ SeqAt.shaped d = true ∧ Q (.bl (!ds.any fun z => PyData.eqv z d)) H
section
variable {X : Cx}
theorem op_inAny (hu : X.A.units + 65 < cLine) : OpR X (compareOp .In) (rInAny (kxOf X)) := by
  intro pins s σ H x y v u Q I rx ry h
  obtain ⟨d, ds, hd, he, sd, q⟩ := h
  obtain ⟨as, r1⟩ := Dp.reads I d x v (canLay_sh sd) hd rx
  rcases he with ⟨he, se⟩ | ⟨he, se⟩
  · obtain ⟨bs, r2⟩ := Dp.reads I (.list ds) y u (canLay_sh se) he ry
    exact SeqAt.in_list_reads r2 r1 (SeqAt.canLay_of_shaped se) (SeqAt.canLay_of_shaped sd) (room_in_shaped sd hu) ⟨.bl _, H, I, rfl, q⟩
  · obtain ⟨bs, r2⟩ := Dp.reads I (.tuple ds) y u (canLay_sh se) he ry
    exact SeqAt.in_tuple_reads r2 r1 (SeqAt.canLay_of_shaped se) (SeqAt.canLay_of_shaped sd) (room_in_shaped sd hu) ⟨.bl _, H, I, rfl, q⟩
theorem op_notInAny (hu : X.A.units + 65 < cLine) : OpR X (compareOp .NotIn) (rNotInAny (kxOf X)) := by
  intro pins s σ H x y v u Q I rx ry h
  obtain ⟨d, ds, hd, he, sd, q⟩ := h
  obtain ⟨as, r1⟩ := Dp.reads I d x v (canLay_sh sd) hd rx
  rcases he with ⟨he, se⟩ | ⟨he, se⟩
  · obtain ⟨bs, r2⟩ := Dp.reads I (.list ds) y u (canLay_sh se) he ry
    exact SeqAt.notIn_list_reads r2 r1 (SeqAt.canLay_of_shaped se) (SeqAt.canLay_of_shaped sd) (room_in_shaped sd hu) ⟨.bl _, H, I, rfl, q⟩
  · obtain ⟨bs, r2⟩ := Dp.reads I (.tuple ds) y u (canLay_sh se) he ry
    exact SeqAt.notIn_tuple_reads r2 r1 (SeqAt.canLay_of_shaped se) (SeqAt.canLay_of_shaped sd) (room_in_shaped sd hu) ⟨.bl _, H, I, rfl, q⟩
theorem ok_in {K : Kx} : Ok2 K (rInAny K) kIn := by
  intro F H x y a b z Q fh ha hb e q
  unfold kIn at e
  split at e
  · split at e <;> cases e
    rename_i h
    exact ⟨a, _, Dp_up ha fh, .inl ⟨Dp_up hb fh, h.2⟩, h.1, q _ F H (Gr.refl fh) (.bl _)⟩
  · split at e <;> cases e
    rename_i h
    exact ⟨a, _, Dp_up ha fh, .inr ⟨Dp_up hb fh, h.2⟩, h.1, q _ F H (Gr.refl fh) (.bl _)⟩
  · cases e
theorem ok_notIn {K : Kx} : Ok2 K (rNotInAny K) kNotIn := by
  intro F H x y a b z Q fh ha hb e q
  obtain ⟨r, er, e⟩ := Option.bind_eq_some_iff.mp e
  unfold kIn at er
  split at er
  · split at er <;> cases er
    rename_i h
    cases e
    exact ⟨a, _, Dp_up ha fh, .inl ⟨Dp_up hb fh, h.2⟩, h.1, q _ F H (Gr.refl fh) (.bl _)⟩
  · split at er <;> cases er
    rename_i h
    cases e
    exact ⟨a, _, Dp_up ha fh, .inr ⟨Dp_up hb fh, h.2⟩, h.1, q _ F H (Gr.refl fh) (.bl _)⟩
  · cases er
variable {C : Ct} {pos : Pos} {a b : Expr} {f g : EF}
theorem xd_in (hu : X.A.units + 65 < cLine) (ha : PE X a (dOf (kxOf X) C f)) (hb : PE X b (dOf (kxOf X) C g)) (hm : behindInMarks .In b = false := by rfl) : PE X (.Compare a [.In] [b] pos) (dOf (kxOf X) C (bin2 kIn f g)) := xd_cmp (op_inAny hu) ok_in ha hb hm
theorem xd_notIn (hu : X.A.units + 65 < cLine) (ha : PE X a (dOf (kxOf X) C f)) (hb : PE X b (dOf (kxOf X) C g)) (hm : behindInMarks .NotIn b = false := by rfl) : PE X (.Compare a [.NotIn] [b] pos) (dOf (kxOf X) C (bin2 kNotIn f g)) := xd_cmp (op_notInAny hu) ok_notIn ha hb hm
theorem xt_in (hu : X.A.units + 65 < cLine) (ha : PE X a (dOf (kxOf X) C f)) (hb : PE X b (dOf (kxOf X) C g)) (hm : behindInMarks .In b = false := by rfl) : PT X (.Compare a [.In] [b] pos) (bOf (kxOf X) C (valB (bin2 kIn f g))) := xt_cmp (op_inAny hu) ok_in ha hb hm
theorem xt_notIn (hu : X.A.units + 65 < cLine) (ha : PE X a (dOf (kxOf X) C f)) (hb : PE X b (dOf (kxOf X) C g)) (hm : behindInMarks .NotIn b = false := by rfl) : PT X (.Compare a [.NotIn] [b] pos) (bOf (kxOf X) C (valB (bin2 kNotIn f g))) := xt_cmp (op_notInAny hu) ok_notIn ha hb hm
end

/-! ### slices -/
def cutX {α : Type} (xs : List α) (lo hi : Option Int) : List α := (xs.drop (HT.sIx xs.length 0 lo)).take (HT.sIx xs.length xs.length hi - HT.sIx xs.length 0 lo)
theorem cut_dp {K : Kx} {F : Hp} {vs : List V} {ds : List D} {lo hi : Option Int} (h : DpAll K F vs ds) : DpAll K F (cutV vs lo hi) (cutX ds lo hi) := by
  unfold cutV cutX
  rw [DpAll_len h]
  exact DpAll_take _ (DpAll_drop _ h)
abbrev OF := AS → Option (Option Int × AS)
def oOf (K : Kx) (C : Ct) (f : OF) : TO := fun σ H Q => ∃ F st r, Rel K C F st σ H ∧ f st = some r ∧ ∀ H' F', Same F F' → Rel K C F' r.2 σ H' → Q r.1 H'
def noO : OF := fun st => some (none, st)
def someO (f : EF) : OF := fun st => (f st).bind fun a => match a.1 with
  | .int i => some (some i, a.2)
  | _ => none
def cutF (f : EF) (lo hi : OF) : EF := fun st => (f st).bind fun a => (lo a.2).bind fun l => (hi l.2).bind fun h => match a.1 with
  | .list xs => some (.list (cutX xs l.1 h.1), h.2)
  | .tuple xs => some (.tuple (cutX xs l.1 h.1), h.2)
  | _ => none
def revF (f : EF) : EF := fun st => (f st).bind fun a => match a.1 with
  | .list xs => some (.list xs.reverse, a.2)
  | _ => none
section
variable {X : Cx} {C : Ct} {pos p2 : Pos} {e : Expr} {lo hi : Option Expr} {f : EF} {l h : OF}
theorem po_wk {t t' : TO} {o : Option Expr} (h : PO X o t) (w : ∀ σ H Q, t' σ H Q → t σ H Q) : PO X o t' := ⟨fun pins s σ H Q I q => h.run pins s σ H Q I (w σ H Q q)⟩
theorem xo_none : PO X none (oOf (kxOf X) C noO) := po_wk po_none fun σ H Q q => by
  obtain ⟨F, st, w, R, e, q⟩ := q
  cases e
  exact q H F (Same.refl _) R
theorem xo_some (he : PE X e (dOf (kxOf X) C f)) : PO X (some e) (oOf (kxOf X) C (someO f)) := po_wk (po_some he) fun σ H Q q => by
  obtain ⟨F, st, w, R, e, q⟩ := q
  obtain ⟨a, ea, e⟩ := Option.bind_eq_some_iff.mp e
  split at e
  · rename_i i hi
    cases e
    exact ⟨F, st, a, R, ea, fun v H1 F1 s1 R1 d1 => ⟨i, dp_int (hi ▸ d1), q H1 F1 s1 R1⟩⟩
  · cases e
theorem cut_whole {α : Type} {xs : List α} {lo hi : Option Int} (h : HT.sIx xs.length 0 lo = 0 ∧ HT.sIx xs.length xs.length hi = xs.length) : cutX xs lo hi = xs := by
  unfold cutX
  rw [h.1, h.2]
  simp
theorem xd_slice (he : PE X e (dOf (kxOf X) C f)) (hl : PO X lo (oOf (kxOf X) C l)) (hh : PO X hi (oOf (kxOf X) C h)) : PE X (.Subscript e (.Slice lo hi none p2) pos) (dOf (kxOf X) C (cutF f l h)) :=
  pe_wk (pe_slice (sl_list.or sl_tupA) he hl hh) fun σ H Q q => by
    obtain ⟨F, st, w, R, e, q⟩ := q
    obtain ⟨a, ea, e⟩ := Option.bind_eq_some_iff.mp e
    obtain ⟨b, eb, e⟩ := Option.bind_eq_some_iff.mp e
    obtain ⟨c, ec, e⟩ := Option.bind_eq_some_iff.mp e
    refine ⟨F, st, a, R, ea, fun v H1 F1 s1 R1 d1 => ⟨F1, a.2, b, R1, eb, fun H2 F2 s2 R2 => ⟨F2, b.2, c, R2, ec, fun H3 F3 s3 R3 => ?_⟩⟩⟩
    have up : Same F F3 := (s1.trans s2).trans s3
    have d3 := Dp_up d1 (s2.trans s3)
    split at e
    · rename_i xs hx
      cases e
      rw [hx] at d3
      cases d3 with
      | lst hs hv =>
        rename_i a0 vs0
        refine .inl ⟨_, _, rfl, sql_up R3.fh hs, fun p hp => ?_⟩
        have gr := Gr.new (o := .lst (cutV vs0 b.1 c.1)) R3.fh hp
        exact q _ _ _ (up.trans gr.ff) (R3.grow gr) (.lst (.inl (.inl upd_same)) (DpAll_up (cut_dp hv) gr.ff))
    · rename_i xs hx
      cases e
      rw [hx] at d3
      cases d3 with
      | tup hs hv =>
        rename_i a0 vs0
        refine .inr ⟨_, _, rfl, sqt_up R3.fh hs, fun hw => ?_, fun hw p hp => ?_⟩
        · refine q _ H3 F3 up R3 ?_
          rw [DpAll_len hv] at hw
          rw [cut_whole hw]
          exact .tup hs hv
        · have gr := Gr.new (o := .tup (cutV vs0 b.1 c.1)) R3.fh hp
          exact q _ _ _ (up.trans gr.ff) (R3.grow gr) (.tup (.inl (.inl upd_same)) (DpAll_up (cut_dp hv) gr.ff))
    · cases e
theorem xd_revL {k : Nat} {p1 p3 : Pos} (he : PE X e (dOf (kxOf X) C f)) : PE X (.Subscript e (.Slice none none (some (.UnaryOp .USub (.Constant (.int 1) k p1) p2)) p3) pos) (dOf (kxOf X) C (revF f)) :=
  pe_wk (pe_revL he) fun σ H Q q => by
    obtain ⟨F, st, w, R, e, q⟩ := q
    obtain ⟨a, ea, e⟩ := Option.bind_eq_some_iff.mp e
    split at e
    · rename_i xs hx
      cases e
      refine ⟨F, st, a, R, ea, fun v H1 F1 s1 R1 d1 => ?_⟩
      rw [hx] at d1
      cases d1 with
      | lst hs hv =>
        rename_i a0 vs0
        refine ⟨_, _, rfl, sql_up R1.fh hs, fun p hp => ?_⟩
        have gr := Gr.new (o := .lst vs0.reverse) R1.fh hp
        exact q _ _ _ (s1.trans gr.ff) (R1.grow gr) (.lst (.inl (.inl upd_same)) (DpAll_up (DpAll_rev hv) gr.ff))
    · cases e
end

/-! ### tuples joined -/
def kCat : D → D → Option D
  | .int i, .int j => some (.int (i + j))
  | .tuple xs, .tuple ys => if xs.length + ys.length ≤ sizeLine then some (.tuple (xs ++ ys)) else none
  | _, _ => none
theorem ok_cat {K : Kx} : Ok2 K (fun x y H Q => rI0 (fun i j => .int (i + j)) x y H Q ∨ rCatA K.K x y H Q) kCat := by
  intro F H x y a b z Q fh ha hb e q
  unfold kCat at e
  split at e
  · cases e
    exact .inl ⟨_, _, dp_int ha, dp_int hb, q _ F H (Gr.refl fh) (.int _)⟩
  · split at e <;> cases e
    rename_i hl
    cases ha with
    | tup hs hv =>
      rename_i a0 vs0
      cases hb with
      | tup hs2 hv2 =>
        rename_i a1 vs1
        refine .inr ⟨_, _, _, _, rfl, rfl, sqt_up fh hs, sqt_up fh hs2, by rw [DpAll_len hv, DpAll_len hv2]; exact hl, fun h0 => ?_, fun h0 h1 => ?_, fun h0 h1 p hp => ?_⟩
        · subst h0
          cases hv
          exact q _ F H (Gr.refl fh) (.tup hs2 hv2)
        · subst h1
          cases hv2
          rw [List.append_nil] at q
          exact q _ F H (Gr.refl fh) (.tup hs hv)
        · have gr := Gr.new (o := .tup (vs0 ++ vs1)) fh hp
          exact q _ _ _ gr (.tup (.inl (.inl upd_same)) (DpAll_up (DpAll_app hv hv2) gr.ff))
  · cases e
section
variable {X : Cx} {C : Ct} {pos : Pos} {a b : Expr} {f g : EF}
theorem xd_cat (ha : PE X a (dOf (kxOf X) C f)) (hb : PE X b (dOf (kxOf X) C g)) : PE X (.BinOp a .Add b pos) (dOf (kxOf X) C (bin2 kCat f g)) := xd_op (op_add.or op_catA) ok_cat ha hb
end

/-! ### calls by name -/
def ArN (g : LF) (n : Nat) : Prop := ∀ st r, g st = some r → r.1.length = n
theorem ar_nil : ArN nilA 0 := fun st r e => by cases e; rfl
theorem ar_cons {f : EF} {g : LF} {n : Nat} (h : ArN g n) : ArN (consA f g) (n + 1) := fun st r e => by
  obtain ⟨a, ea, e⟩ := Option.bind_eq_some_iff.mp e
  obtain ⟨b, eb, e⟩ := Option.map_eq_some_iff.mp e
  cases e
  rw [List.length_cons, h _ _ eb]
section
variable {X : Cx} {C : Ct} {k n m : Nat} {f : Addr} {fd : FuncData} {ps : List Str} {x y : Str} {p p1 pos : Pos} {e : Expr} {es : List Expr} {g : LF} {mf : List D → Option RV} {mq : List D → List D → Option (RV × List D)} {dvs : List V} {dds : List D} {ds : List Value}
theorem xd_callP (G : FnG X.prog X.w X.K X.mg X.base (CXM X.prog X.w) k f fd ps (spP (kxOf X) n mf)) (hr : Room k X.A) (gd : X.A.guards = some []) (hm : X.mg x = some (.ref f)) (hk : PySem.W.keepIn X.K (.ref f) = true) (hb : Binds X.K fd ps ds) (hv : Vals dvs ds) (hd : ∀ F, DpAll (kxOf X) F dvs dds)
    (ha : PA X (e :: es) (aOf (kxOf X) C g)) (hn : ArN g m) (hnm : m + dds.length = n := by rfl) (hg : Gl X x := by rfl) (he : starEach (e :: es) X.env = (false, eval e X.env) :: starEach es X.env := by rfl) (hpl : (backTo pos (starEach es X.env)).any (·.1) = false := by rfl) (hdb : (x == ("__debug__" : Str)) = false := by decide) :
    PE X (.Call (.Name x p) (e :: es) [] pos) (dOf (kxOf X) C (rvD (callP mf dds g))) :=
  pe_wk (pe_callG (E := E0) G hr gd hm hk hb hv passL ha hg he hpl hdb) fun _ _ _ q => callP_d hd (fun st r er => by rw [List.length_append, hn st r er]; exact hnm) q
theorem xn_callP (G : FnG X.prog X.w X.K X.mg X.base (CXM X.prog X.w) k f fd ps (spP (kxOf X) n mf)) (hr : Room k X.A) (gd : X.A.guards = some []) (hm : X.mg x = some (.ref f)) (hk : PySem.W.keepIn X.K (.ref f) = true) (hb : Binds X.K fd ps ds) (hv : Vals dvs ds) (hd : ∀ F, DpAll (kxOf X) F dvs dds)
    (ha : PA X (e :: es) (aOf (kxOf X) C g)) (hn : ArN g m) (hnm : m + dds.length = n := by rfl) (hg : Gl X x := by rfl) (he : starEach (e :: es) X.env = (false, eval e X.env) :: starEach es X.env := by rfl) (hpl : (backTo pos (starEach es X.env)).any (·.1) = false := by rfl) (hdb : (x == ("__debug__" : Str)) = false := by decide) :
    PE X (.Call (.Name x p) (e :: es) [] pos) (nOf (kxOf X) C (rvN (callP mf dds g))) :=
  pe_wk (pe_callG (E := E0) G hr gd hm hk hb hv passL ha hg he hpl hdb) fun _ _ _ q => callP_n hd (fun st r er => by rw [List.length_append, hn st r er]; exact hnm) q
theorem xd_callQ {i : Nat} (G : FnG X.prog X.w X.K X.mg X.base (CXM X.prog X.w) k f fd ps (spQ (kxOf X) n mq)) (hr : Room k X.A) (gd : X.A.guards = some []) (hm : X.mg x = some (.ref f)) (hk : PySem.W.keepIn X.K (.ref f) = true) (hb : Binds X.K fd ps [])
    (ho : PE X e (tVar i)) (ha : PA X es (aOf (kxOf X) C g)) (hn : ArN g m) (hnm : m + 1 = n := by rfl) (hg : Gl X x := by rfl) (he : starEach (e :: es) X.env = (false, eval e X.env) :: starEach es X.env := by rfl) (hpl : (backTo pos (starEach es X.env)).any (·.1) = false := by rfl) (hdb : (x == ("__debug__" : Str)) = false := by decide) :
    PE X (.Call (.Name x p) (e :: es) [] pos) (dOf (kxOf X) C (rvD (callQ mq i g))) :=
  pe_wk (pe_callG (E := E0) G hr gd hm hk hb .nil passL (pa_cons ho ha he) hg he hpl hdb) fun _ _ _ q => callQ_d (fun st r er => by rw [hn st r er]; exact hnm) q
theorem xn_callQ {i : Nat} (G : FnG X.prog X.w X.K X.mg X.base (CXM X.prog X.w) k f fd ps (spQ (kxOf X) n mq)) (hr : Room k X.A) (gd : X.A.guards = some []) (hm : X.mg x = some (.ref f)) (hk : PySem.W.keepIn X.K (.ref f) = true) (hb : Binds X.K fd ps [])
    (ho : PE X e (tVar i)) (ha : PA X es (aOf (kxOf X) C g)) (hn : ArN g m) (hnm : m + 1 = n := by rfl) (hg : Gl X x := by rfl) (he : starEach (e :: es) X.env = (false, eval e X.env) :: starEach es X.env := by rfl) (hpl : (backTo pos (starEach es X.env)).any (·.1) = false := by rfl) (hdb : (x == ("__debug__" : Str)) = false := by decide) :
    PE X (.Call (.Name x p) (e :: es) [] pos) (nOf (kxOf X) C (rvN (callQ mq i g))) :=
  pe_wk (pe_callG (E := E0) G hr gd hm hk hb .nil passL (pa_cons ho ha he) hg he hpl hdb) fun _ _ _ q => callQ_n (fun st r er => by rw [hn st r er]; exact hnm) q
end

/-! ### a, b = x, y -/
def par2 (i j : Nat) (g : LF) : SF := fun st => (g st).bind fun a => match a.1 with
  | [x, y] => (setD i x a.2).bind fun s1 => (setD j y s1).map fun s2 => (.nx, s2)
  | _ => none
def par3 (i j l : Nat) (g : LF) : SF := fun st => (g st).bind fun a => match a.1 with
  | [x, y, z] => (setD i x a.2).bind fun s1 => (setD j y s1).bind fun s2 => (setD l z s2).map fun s3 => (.nx, s3)
  | _ => none
section
variable {X : Cx} {C : Ct} {pos px py pz pt : Pos} {a b c : Expr} {g : LF} {i j l : Nat} {x y z : Str} {kt k2 pt2}
theorem xs_par2 (hN : X.N.Nodup) (ha : PA X [a, b] (aOf (kxOf X) C g)) (hi : X.N[i]? = some x) (hj : X.N[j]? = some y) (hij : i ≠ j) (hx : X.env.scope.names.lookup x = some .local) (hy : X.env.scope.names.lookup y = some .local)
    (hw : swappedStores [.Tuple [.Name x px, .Name y py] kt pt] (.Tuple [a, b] k2 pt2) X.env = pure (some [x, y]))
    (hs : swapsWithSole [.Tuple [.Name x px, .Name y py] kt pt] (.Tuple [a, b] k2 pt2) pos.line X.env = pure false := by rfl) (hc : X.calm = true := by rfl) :
    PS X (.Assign [.Tuple [.Name x px, .Name y py] kt pt] (.Tuple [a, b] k2 pt2) pos) (sOf (kxOf X) C (par2 i j g)) :=
  ps_wk (ps_par hc hN hi hj hij hx hy ha hw hs) fun Z σ H q => by
    obtain ⟨F, st, w, R, e, q⟩ := q
    obtain ⟨r, er, e⟩ := Option.bind_eq_some_iff.mp e
    refine ⟨F, st, r, R, er, fun vs H1 F1 s1 R1 d1 => ?_⟩
    split at e
    · rename_i u v huv
      obtain ⟨t1, e1, e⟩ := Option.bind_eq_some_iff.mp e
      obtain ⟨t2, e2, e⟩ := Option.map_eq_some_iff.mp e
      cases e
      rw [huv] at d1
      cases d1 with
      | cons d2 d3 =>
        cases d3 with
        | cons d4 d5 =>
          cases d5
          exact ⟨_, _, rfl, q _ H1 F1 s1 ((R1.setD e1 d2).setD e2 d4)⟩
    · cases e
theorem xs_par3 (hN : X.N.Nodup) (ha : PA X [a, b, c] (aOf (kxOf X) C g)) (hi : X.N[i]? = some x) (hj : X.N[j]? = some y) (hl : X.N[l]? = some z) (hij : i ≠ j) (hil : i ≠ l) (hjl : j ≠ l)
    (hx : X.env.scope.names.lookup x = some .local) (hy : X.env.scope.names.lookup y = some .local) (hz : X.env.scope.names.lookup z = some .local)
    (hw : swappedStores [.Tuple [.Name x px, .Name y py, .Name z pz] kt pt] (.Tuple [a, b, c] k2 pt2) X.env = pure (some [x, y, z]))
    (hs : swapsWithSole [.Tuple [.Name x px, .Name y py, .Name z pz] kt pt] (.Tuple [a, b, c] k2 pt2) pos.line X.env = pure false := by rfl) (hc : X.calm = true := by rfl) :
    PS X (.Assign [.Tuple [.Name x px, .Name y py, .Name z pz] kt pt] (.Tuple [a, b, c] k2 pt2) pos) (sOf (kxOf X) C (par3 i j l g)) :=
  ps_wk (ps_par3 hc hN hi hj hl hij hil hjl hx hy hz ha hw hs) fun Z σ H q => by
    obtain ⟨F, st, w, R, e, q⟩ := q
    obtain ⟨r, er, e⟩ := Option.bind_eq_some_iff.mp e
    refine ⟨F, st, r, R, er, fun vs H1 F1 s1 R1 d1 => ?_⟩
    split at e
    · rename_i u v t huv
      obtain ⟨t1, e1, e⟩ := Option.bind_eq_some_iff.mp e
      obtain ⟨t2, e2, e⟩ := Option.bind_eq_some_iff.mp e
      obtain ⟨t3, e3, e⟩ := Option.map_eq_some_iff.mp e
      cases e
      rw [huv] at d1
      cases d1 with
      | cons d2 d3 =>
        cases d3 with
        | cons d4 d5 =>
          cases d5 with
          | cons d6 d7 =>
            cases d7
            exact ⟨_, _, _, rfl, q _ H1 F1 s1 (((R1.setD e1 d2).setD e2 d4).setD e3 d6)⟩
    · cases e
end
/-- targets that are stored from a tuple's value -/
def asgT (f : EF) (u : D → AS → Option AS) : SF := fun st => (f st).bind fun a => (u a.1 a.2).map fun s => (.nx, s)
section
variable {X : Cx} {C : Ct} {pos : Pos} {tg e : Expr} {f : EF} {u : D → AS → Option AS} {ts : List Nat}
theorem xs_asg (he : PE X e (dOf (kxOf X) C f)) (hg : PG X tg (gOf (kxOf X) C u ts)) (hs : swapsWithSole [tg] e pos.line X.env = pure false := by rfl) (hw : swappedStores [tg] e X.env = pure none := by rfl)
    (h1 : (assignEach [tg] X.env).map (·.2) = [assign tg X.env] := by rfl) : PS X (.Assign [tg] e pos) (sOf (kxOf X) C (asgT f u)) := ps_wk (ps_asg he hg hs hw h1) fun Z σ H q => by
  obtain ⟨F, st, w, R, e, q⟩ := q
  obtain ⟨a, ea, e⟩ := Option.bind_eq_some_iff.mp e
  obtain ⟨st', es, e⟩ := Option.map_eq_some_iff.mp e
  cases e
  exact ⟨F, st, a, R, ea, fun v H1 F1 s1 R1 d1 => ⟨F1, a.2, a.1, st', R1, d1, es, fun σ' H' F' s2 R2 _ _ => q σ' H' F' (s1.trans s2) R2⟩⟩
end

/-! ### a comprehension stored in a local -/
section
variable {X : Cx} {C : Ct} {pos spos py : Pos} {elt tg iter : Expr} {ifs : List Expr} {scope : Scope} {own : List (Str × Nat)} {it : LF} {u : D → AS → Option AS} {ts : List Nat} {tt : BF} {te : EF} {i : Nat} {y : Str} {vs : List Nat}
theorem xs_setLcN (hN : X.N.Nodup) (hi : PI X tg iter (iOf (kxOf X) C it)) (ok : BlkOk X.N X.env.scope scope own)
    (hg : ∀ (C : Ct) (s : Shared) (H : Hp) (c : Addr) (cl : List (Str × Addr)) (fp : List Addr), PG (X.blk s H scope (compEnvC scope cl c X.env) fp) tg (gOf (kxOf X) C u ts))
    (ht : ∀ (C : Ct) (s : Shared) (H : Hp) (c : Addr) (cl : List (Str × Addr)) (fp : List Addr), PTs (X.blk s H scope (compEnvC scope cl c X.env) fp) ifs (bOf (kxOf X) C tt))
    (he : ∀ (C : Ct) (s : Shared) (H : Hp) (c : Addr) (cl : List (Str × Addr)) (fp : List Addr), PE (X.blk s H scope (compEnvC scope cl c X.env) fp) elt (dOf (kxOf X) C te))
    (hy : X.N[i]? = some y) (hyl : X.env.scope.names.lookup y = some .local) (hsw : swapsWith (.ListComp elt [⟨tg, iter, ifs, 0⟩] scope pos) (some (.Name y py)) spos.line X.env = pure true)
    (hvs : own.map (·.2) = vs := by rfl) (hts : ∀ j ∈ ts, j ∈ vs := by decide) (hc : X.calm = true := by rfl) (hs : ∀ x, foldedSetIterable iter X.env x = pure x := by intro _; rfl) :
    PS X (.Assign [.Name y py] (.ListComp elt [⟨tg, iter, ifs, 0⟩] scope pos) spos) (sOf (kxOf X) C (asgN i (compF it u tt te vs))) := by
  subst hvs
  exact ps_wk (ps_setLc (g := fun v σ H Q => ∃ C, gOf (kxOf X) C u ts v σ H Q) (tt := fun σ H Q => ∃ C, bOf (kxOf X) C tt σ H Q) (te := fun σ H Q => ∃ C, dOf (kxOf X) C te σ H Q) hc hN hy hyl hsw hi ok
    (fun s H c cl fp => ⟨fun pins s1 σ H1 v uu Q I r ⟨C1, q⟩ => (hg C1 s H c cl fp).run pins s1 σ H1 v uu Q I r q⟩)
    (fun s H c cl fp => ⟨fun pins s1 σ H1 Q I ⟨C1, q⟩ => (ht C1 s H c cl fp).run pins s1 σ H1 Q I q⟩)
    (fun s H c cl fp => ⟨fun pins s1 σ H1 Q I ⟨C1, q⟩ => (he C1 s H c cl fp).run pins s1 σ H1 Q I q⟩) hs)
    fun Z σ H q => by
      obtain ⟨F, st, w, R, e, q⟩ := q
      obtain ⟨a, ea, e⟩ := Option.bind_eq_some_iff.mp e
      obtain ⟨st', es, e⟩ := Option.map_eq_some_iff.mp e
      cases e
      exact lc_ok hts _ _ _ (fun C _ _ _ _ k => ⟨C, k⟩) (fun C _ _ _ k => ⟨C, k⟩) (fun C _ _ _ k => ⟨C, k⟩) ⟨F, st, a, R, ea, fun p vs H1 F1 s1 R1 h0 h1 h2 h3 d1 => q _ H1 F1 s1 (R1.setO es h0 ⟨h1, vs, h2, d1⟩ h3)⟩
theorem xs_setLcD (hN : X.N.Nodup) (hi : PI X tg iter (iOf (kxOf X) C it)) (ok : BlkOk X.N X.env.scope scope own)
    (hg : ∀ (C : Ct) (s : Shared) (H : Hp) (c : Addr) (cl : List (Str × Addr)) (fp : List Addr), PG (X.blk s H scope (compEnvC scope cl c X.env) fp) tg (gOf (kxOf X) C u ts))
    (ht : ∀ (C : Ct) (s : Shared) (H : Hp) (c : Addr) (cl : List (Str × Addr)) (fp : List Addr), PTs (X.blk s H scope (compEnvC scope cl c X.env) fp) ifs (bOf (kxOf X) C tt))
    (he : ∀ (C : Ct) (s : Shared) (H : Hp) (c : Addr) (cl : List (Str × Addr)) (fp : List Addr), PE (X.blk s H scope (compEnvC scope cl c X.env) fp) elt (dOf (kxOf X) C te))
    (hy : X.N[i]? = some y) (hyl : X.env.scope.names.lookup y = some .local) (hsw : swapsWith (.ListComp elt [⟨tg, iter, ifs, 0⟩] scope pos) (some (.Name y py)) spos.line X.env = pure true)
    (hvs : own.map (·.2) = vs := by rfl) (hts : ∀ j ∈ ts, j ∈ vs := by decide) (hc : X.calm = true := by rfl) (hs : ∀ x, foldedSetIterable iter X.env x = pure x := by intro _; rfl) :
    PS X (.Assign [.Name y py] (.ListComp elt [⟨tg, iter, ifs, 0⟩] scope pos) spos) (sOf (kxOf X) C (asgS i (listE (compF it u tt te vs)))) := by
  subst hvs
  exact ps_wk (ps_setLc (g := fun v σ H Q => ∃ C, gOf (kxOf X) C u ts v σ H Q) (tt := fun σ H Q => ∃ C, bOf (kxOf X) C tt σ H Q) (te := fun σ H Q => ∃ C, dOf (kxOf X) C te σ H Q) hc hN hy hyl hsw hi ok
    (fun s H c cl fp => ⟨fun pins s1 σ H1 v uu Q I r ⟨C1, q⟩ => (hg C1 s H c cl fp).run pins s1 σ H1 v uu Q I r q⟩)
    (fun s H c cl fp => ⟨fun pins s1 σ H1 Q I ⟨C1, q⟩ => (ht C1 s H c cl fp).run pins s1 σ H1 Q I q⟩)
    (fun s H c cl fp => ⟨fun pins s1 σ H1 Q I ⟨C1, q⟩ => (he C1 s H c cl fp).run pins s1 σ H1 Q I q⟩) hs)
    fun Z σ H q => by
      obtain ⟨F, st, w, R, e, q⟩ := q
      obtain ⟨b, eb, e⟩ := Option.bind_eq_some_iff.mp e
      obtain ⟨st', es, e⟩ := Option.map_eq_some_iff.mp e
      obtain ⟨a, ea, eb⟩ := Option.map_eq_some_iff.mp eb
      cases e
      cases eb
      exact lc_ok hts _ _ _ (fun C _ _ _ _ k => ⟨C, k⟩) (fun C _ _ _ k => ⟨C, k⟩) (fun C _ _ _ k => ⟨C, k⟩) ⟨F, st, a, R, ea, fun p vs H1 F1 s1 R1 h0 h1 h2 h3 d1 => by
        obtain ⟨k1, k2, k3⟩ := R1.freezeNew h0 h1 h2 h3 d1
        exact q _ H1 _ (s1.trans k1) (k2.setD es k3)⟩
end
end Xm

set_option Elab.async false
set_option linter.all false
set_option maxRecDepth 100000
namespace Xm
open PySem PySem.Spec PyProof.Rows L2

theorem dpa_ints {K : Kx} {F : Hp} : ∀ ns : List Int, DpAll K F (ns.map V.int) (ns.map PyData.int)
  | [] => .nil
  | n :: ns => .cons (.int n) (dpa_ints ns)
/-- the law's call at the end of the top, over a promise with guards -/
theorem lawG {P : Program} {w : World} {K : PySem.W.Frag} {mg mb : Str → Option Value} {k : Nat} {fa a : Addr} {fd : FuncData} {x : Str} {mf : List D → Option RV} {st : Shared} {vs : List Value} {ns : List Int}
    (KX : K.In st.heap) (hns : st.heap.Ns mainGlobals mg) (hb : st.heap.Ns builtinsNs mb) (hbb : ∀ x : Str, x ≠ "__name__" → mb x = bootBuiltins x) (hlim : st.heap.NoLimit) (hg : st.gens = #[])
    (ha : st.heap.get? a = some { cls := .type "list", data := .seq vs.toArray }) (hi : IntsAre vs ns) (hl : ns.length ≤ sizeLine) (hr : Room k callerA)
    (G : ∀ base : Heap, K.In base → base.Ns mainGlobals mg → FnG P w K mg base (CXM P w) k fa fd [x] (spP ⟨K, P, w, mg⟩ 1 mf)) (bind : ∀ (s : Shared) (u : Value), BindsTo s fd ⟨[u], []⟩ [(x, u)])
    (hmf : mf [.list (ns.map PyData.int)] = some (.val (.bool true))) :
    codeAny (model P w) callerA (.call (.ref fa) ⟨[.ref a], []⟩) (fun r s' => r = .ok (.ret (.bool true)) ∧ OldK st.heap s'.heap ∧ s'.os = st.os ∧ AllBare s'.gens) st := by
  have rv : Vals (ns.map V.int) vs := vals_ints hi
  have hlen : vs.length = ns.length := hi.length
  -- what is tracked: the script, unless the module has written it
  obtain ⟨H, hH, hS⟩ : ∃ H : Hp, (∀ b u, H b = some u → b = a ∧ K.lookup a = none ∧ u = .frz { cls := .type "list", data := .seq vs.toArray } (.lst (ns.map V.int))) ∧ SqL K H a (ns.map V.int) := by
    cases hk : K.lookup a with
    | none =>
      refine ⟨fun b => if b = a then some (.frz { cls := .type "list", data := .seq vs.toArray } (.lst (ns.map V.int))) else none, fun b u e => ?_, .inl (.inr ⟨_, if_pos rfl⟩)⟩
      dsimp only at e
      by_cases hb : b = a
      · rw [if_pos hb] at e
        cases e
        exact ⟨hb, rfl, rfl⟩
      · rw [if_neg hb] at e
        cases e
    | some o =>
      have e := KX a o hk
      rw [ha] at e
      cases e
      refine ⟨fun _ => none, fun b u e => (nomatch e), .inr ⟨_, vs.toArray, _, hk, rfl, rfl, rfl, ?_, by simpa using rv⟩⟩
      rw [List.size_toArray, hlen]
      exact hl
  have free_of : ∀ {b : Addr} {o : Obj}, K.lookup b = some o → H b = none := fun {b o} e => by
    cases q : H b with
    | none => rfl
    | some u =>
      obtain ⟨z1, z2, _⟩ := hH b u q
      subst z1
      rw [z2] at e
      cases e
  have free_dict : ∀ {b : Addr} {o : Obj} {es : Array DictEntry} {ep : Nat}, st.heap.get? b = some o → o.data = .dict es ep → H b = none := fun {b o es ep} e d => by
    cases q : H b with
    | none => rfl
    | some u =>
      obtain ⟨z1, _, _⟩ := hH b u q
      subst z1
      rw [ha] at e
      cases e
      cases d
  have nsBase : ∀ {b : Addr} {m : Str → Option Value}, st.heap.Ns b m → (hidT st.heap H).Ns b m := fun {b m} ⟨o, es, ep, e, d, r⟩ => ⟨o, es, ep, hidT_get e (free_dict e d), d, r⟩
  have inBase : K.In (hidT st.heap H) := fun b o e => hidT_get (KX b o e) (free_of e)
  have hok : HOk P w H st.heap := fun b u e => by
    obtain ⟨rfl, _, rfl⟩ := hH b u e
    refine ⟨ha, ?_, vs, _, rv, ha⟩
    rw [List.length_map]
    exact hl
  have modB : Mod K mg (hidT st.heap H) := by
    obtain ⟨mc, h1, h2⟩ := hlim
    exact ⟨inBase, nsBase hns, ⟨mb, nsBase hb, hbb⟩, ⟨mc, nsBase h1, h2⟩⟩
  have entry : Env0 P w K mg (hidT st.heap H) callerA [] st H := by
    refine ⟨rfl, modB, fun b o e => of_hidT e, Nat.le_of_eq (hidT_size _ _), trivial, fun b z => ?_, hok, .of_eq hg⟩
    exact absurd (show b ∈ ([] : List Addr) from z) (by simp)
  refine codeAny_mono ((G _ inBase (nsBase hns)).go callerA [] st H ⟨[.ref a], []⟩ [.ref a] [.ref a] (fun v _ => v = .bl true) E0 hr rfl entry (bind st (.ref a)) (.cons rfl .nil)
    ⟨rfl, H, [.list (ns.map PyData.int)], .val (.bool true), Same.refl _, .cons (.lst hS (dpa_ints ns)) .nil, hmf, fun v F' H' gr ok => dp_bl ok, fun x hx => nomatch hx⟩) fun r s' h => ?_
  match r, h with
  | .error e, h =>
    obtain ⟨_, _, _, _, _, _, _, _, _, _, _, _, z⟩ := h
    exact z.elim
  | .ok (.ret u), h =>
    obtain ⟨v, H', os, bare, un, hok', rv', q⟩ := h
    have q' : v = .bl true := q
    subst q'
    obtain rfl : u = Value.bool true := rv'
    refine ⟨rfl, OldK.of_keep fun b o e => ?_, os, bare⟩
    cases q : H b with
    | none => exact un.keep b o e q (fun z => absurd (show b ∈ ([] : List Addr) from z) (by simp)) (by simp)
    | some u =>
      obtain ⟨rfl, _, rfl⟩ := hH b u q
      obtain ⟨e2, _⟩ := hok' b _ (un.frzs b _ _ q)
      rw [ha] at e
      cases e
      exact e2
theorem walkG {l : PySem.W.OpenLaw} {n k : Nat} {q : Program} {loose : List Str} {XP : (Str → Option Value) → Heap → Prop} {YP : World → Heap → Prop} {d : DefRec} {K : Params → PySem.W.Frag} {mf : List D → Option RV} {x : Str}
    (hn : l.most = some n) (hn2 : n ≤ sizeLine) (hdf : d.params.defaults = []) (hr : Room k callerA)
    (hY : ∀ (w : World) (h : Heap), YP w h → (K w.params).In h)
    (F : ∀ (w : World) (mg : Str → Option Value) (fa : Addr) (h : Heap), (K w.params).In h → h.Ns mainGlobals mg → mg d.name = some (.ref fa) →
      ∃ fd : FuncData, (∀ (s : Shared) (u : Value), BindsTo s fd ⟨[u], []⟩ [(x, u)]) ∧
        ∀ base : Heap, (K w.params).In base → base.Ns mainGlobals mg → FnG l.prog w (K w.params) mg base (CXM l.prog w) k fa fd [x] (spP ⟨K w.params, l.prog, w, mg⟩ 1 mf))
    (hmf : ∀ ns : List Int, ns.length ≤ n → (∀ z ∈ ns, Builtin.Int.intBits z ≤ 1048576) → mf [.list (ns.map PyData.int)] = some (.val (.bool true))) :
    PySem.W.WalkO q loose XP YP l.row.toRowW d [] (fun f vs => PySem.call f vs) := by
  refine Att.attach_callB hn hdf fun w s0 s1 mg mb fa o pm cd doc a vs ns G Y ho hd hcd hmg hobj hints hlen hbits hg => ?_
  obtain ⟨fd, hb, hF⟩ := F w mg fa _ (hY w _ Y) G.T.g hmg
  exact lawG (hY w _ Y) G.T.g G.T.b G.T.builtins G.T.nolimit hg hobj hints (Nat.le_trans hlen hn2) hr hF hb (hmf ns hlen hbits)
end Xm

set_option Elab.async false
set_option linter.all false
set_option maxRecDepth 100000
namespace Xm
open PySem PySem.Spec PyProof.Rows L2

/-! ### what a def finds in its module -/
/-- a constant of the module -/
def GlobD (K : PySem.W.Frag) (mg : Str → Option Value) (x : Str) (d : D) : Prop := ∃ v u, mg x = some u ∧ RelV v u ∧ ∀ P w F, Dp ⟨K, P, w, mg⟩ F v d
/-- a def of the module, called with some arguments written and the defaults dds behind -/
structure Has (P : Program) (w : World) (K : PySem.W.Frag) (mg : Str → Option Value) (base : Heap) (k : Nat) (x : Str) (n : Nat) (dds : List D) (mf : List D → Option RV) : Prop where
  ex : ∃ (f : Addr) (fd : FuncData) (ps : List Str) (dvs : List V) (ds : List Value), FnG P w K mg base (CXM P w) k f fd ps (spP ⟨K, P, w, mg⟩ n mf) ∧ mg x = some (.ref f) ∧ PySem.W.keepIn K (.ref f) = true ∧ Binds K fd ps ds ∧ Vals dvs ds ∧ ∀ F, DpAll ⟨K, P, w, mg⟩ F dvs dds
structure HasQ (P : Program) (w : World) (K : PySem.W.Frag) (mg : Str → Option Value) (base : Heap) (k : Nat) (x : Str) (n : Nat) (mq : List D → List D → Option (RV × List D)) : Prop where
  ex : ∃ (f : Addr) (fd : FuncData) (ps : List Str), FnG P w K mg base (CXM P w) k f fd ps (spQ ⟨K, P, w, mg⟩ n mq) ∧ mg x = some (.ref f) ∧ PySem.W.keepIn K (.ref f) = true ∧ Binds K fd ps []
section
variable {X : Cx} {C : Ct} {j k n m : Nat} {x : Str} {p pos : Pos} {e : Expr} {es : List Expr} {g : LF} {mf : List D → Option RV} {mq : List D → List D → Option (RV × List D)} {dds : List D} {d : D}
theorem xd_glob (h : GlobD X.K X.mg x d) (hg : Gl X x := by rfl) (hd : (x == ("__debug__" : Str)) = false := by decide) : PE X (.Name x pos) (dOf (kxOf X) C (cst d)) := by
  obtain ⟨v, u, h1, h2, h3⟩ := h
  exact xd_c (pe_glob hg h1 h2 hd) (h3 _ _)
theorem xd_call (h : Has X.prog X.w X.K X.mg X.base j x n dds mf) (hr : Room k X.A) (gd : X.A.guards = some []) (hjk : j ≤ k) (ha : PA X (e :: es) (aOf (kxOf X) C g)) (hn : ArN g m) (hnm : m + dds.length = n := by rfl) (hg : Gl X x := by rfl)
    (he : starEach (e :: es) X.env = (false, eval e X.env) :: starEach es X.env := by rfl) (hpl : (backTo pos (starEach es X.env)).any (·.1) = false := by rfl) (hdb : (x == ("__debug__" : Str)) = false := by decide) :
    PE X (.Call (.Name x p) (e :: es) [] pos) (dOf (kxOf X) C (rvD (callP mf dds g))) := by
  obtain ⟨f, fd, ps, dvs, ds, G, hm, hk, hb, hv, hd⟩ := h.ex
  exact xd_callP G (hr.mono hjk) gd hm hk hb hv hd ha hn hnm hg he hpl hdb
theorem xn_call (h : Has X.prog X.w X.K X.mg X.base j x n dds mf) (hr : Room k X.A) (gd : X.A.guards = some []) (hjk : j ≤ k) (ha : PA X (e :: es) (aOf (kxOf X) C g)) (hn : ArN g m) (hnm : m + dds.length = n := by rfl) (hg : Gl X x := by rfl)
    (he : starEach (e :: es) X.env = (false, eval e X.env) :: starEach es X.env := by rfl) (hpl : (backTo pos (starEach es X.env)).any (·.1) = false := by rfl) (hdb : (x == ("__debug__" : Str)) = false := by decide) :
    PE X (.Call (.Name x p) (e :: es) [] pos) (nOf (kxOf X) C (rvN (callP mf dds g))) := by
  obtain ⟨f, fd, ps, dvs, ds, G, hm, hk, hb, hv, hd⟩ := h.ex
  exact xn_callP G (hr.mono hjk) gd hm hk hb hv hd ha hn hnm hg he hpl hdb
theorem xd_callM {i : Nat} (h : HasQ X.prog X.w X.K X.mg X.base j x n mq) (hr : Room k X.A) (gd : X.A.guards = some []) (hjk : j ≤ k) (ho : PE X e (tVar i)) (ha : PA X es (aOf (kxOf X) C g)) (hn : ArN g m) (hnm : m + 1 = n := by rfl) (hg : Gl X x := by rfl)
    (he : starEach (e :: es) X.env = (false, eval e X.env) :: starEach es X.env := by rfl) (hpl : (backTo pos (starEach es X.env)).any (·.1) = false := by rfl) (hdb : (x == ("__debug__" : Str)) = false := by decide) :
    PE X (.Call (.Name x p) (e :: es) [] pos) (dOf (kxOf X) C (rvD (callQ mq i g))) := by
  obtain ⟨f, fd, ps, G, hm, hk, hb⟩ := h.ex
  exact xd_callQ G (hr.mono hjk) gd hm hk hb ho ha hn hnm hg he hpl hdb
theorem xn_callM {i : Nat} (h : HasQ X.prog X.w X.K X.mg X.base j x n mq) (hr : Room k X.A) (gd : X.A.guards = some []) (hjk : j ≤ k) (ho : PE X e (tVar i)) (ha : PA X es (aOf (kxOf X) C g)) (hn : ArN g m) (hnm : m + 1 = n := by rfl) (hg : Gl X x := by rfl)
    (he : starEach (e :: es) X.env = (false, eval e X.env) :: starEach es X.env := by rfl) (hpl : (backTo pos (starEach es X.env)).any (·.1) = false := by rfl) (hdb : (x == ("__debug__" : Str)) = false := by decide) :
    PE X (.Call (.Name x p) (e :: es) [] pos) (nOf (kxOf X) C (rvN (callQ mq i g))) := by
  obtain ⟨f, fd, ps, G, hm, hk, hb⟩ := h.ex
  exact xn_callQ G (hr.mono hjk) gd hm hk hb ho ha hn hnm hg he hpl hdb
end
theorem Room.u65 {k : Nat} {A : Around} (r : Room k A) : A.units + 65 < cLine := by have := r.un; omega

/-! ### a def of the text, with its defaults -/
abbrev Dn (K : PySem.W.Frag) (x : Str) (st : Stmt) (dvs : List V) (f : Addr) (fd : FuncData) : Prop := FunD K x x (defArgs st) (defBody st) (defScope st) dvs [] f fd
section
variable {P : Program} {w : World} {K : PySem.W.Frag} {mg : Str → Option Value} {base : Heap} {CX : CXT} {k j : Nat} {f : Addr} {fd : FuncData} {ps N : List Str} {sp : Sp} {dvs : List V}
theorem fnG_ofD {x : Str} {st : Stmt} (T : Dn K x st dvs f fd) (S : FnScope N ps (defScope st)) (ar : ∀ vs H Q E, sp vs H Q E → vs.length = ps.length)
    (body : ∀ (cdv : Value) (A : Around) (outer : List Env) (s : Shared) (H : Hp) (vs : List V) (Q : VK) (E : XK), Room k (A.deeper (envOfC x (defScope st) s.heap.objs.size f cdv)) → A.guards = some [] → sp vs H Q E →
      ∃ t, PSs (cxOf CX P w K mg base N x (defScope st) f cdv A outer s H E) (defBody st) t ∧ t { nx := fun _ H' => Q .non H', rt := Q } (L2.start N vs) H) : FnG P w K mg base CX (k + 1) f fd ps sp := by
  obtain ⟨oc, od, dV, kV, doc, pm, an, cdv, ct, osl, rfl, lk, hcd, _, _⟩ := T.ex
  refine ⟨ar, fun A outer s H args us vs Q E room guards env bind rel want => ?_⟩
  have inHeap : ∀ b o, base.get? b = some o → s.heap.get? b = some o := fun b o e => (env.bs b o e).1
  have written : K.In s.heap := env.mod.kin.keeps inHeap
  have param : ∀ y ∈ ps.zip us, (defScope st).names.lookup y.1 = some .local ∨ ((defScope st).names.lookup y.1 = some .cell ∧ ((cellsFrom (s.heap.objs.size + 1) (defScope st).names []).lookup y.1).isSome = true) := by
    intro y hy
    rcases S.par y.1 (List.of_mem_zip hy).1 with q | q
    · exact .inl q
    · exact .inr ⟨q, PySem.W.cellsFrom_some _ _ _ (.inl q)⟩
  refine codeAny_call_function room.depth (written _ _ lk) rfl S.co S.gen rfl (PySem.W.codeRec_of written hcd) (bind _ _ _ _ ?_)
  refine wpAny_newFunctionEnv_cells S.kind param fun en hen s1 inC => ?_
  subst hen
  refine ⟨(env.mod.nolimit.keeps inHeap).keeps inC.toInCall.keep, codeAny_func ?_⟩
  obtain ⟨t, pss, ht⟩ := body cdv A outer s H vs Q E (room.deeper _) guards want
  have I0 := inv_start (CX := CX) (qual := x) (f := f) (cd := cdv) (E := E) S room.hd env (ar _ _ _ _ want) rel inC
  refine wpAny_mono (pss.run [] s1 (L2.start N vs) H _ I0 ht) (fun fl s' hs => ?_) fun _ _ z => z
  cases fl with
  | ret u =>
    obtain ⟨v, σ', H', J, rv, q⟩ := hs
    exact ⟨v, H', J.os, J.bare, J.base, J.hok, rv, q⟩
  | next =>
    obtain ⟨σ', H', J, q⟩ := hs
    exact ⟨V.non, H', J.os, J.bare, J.base, J.hok, rfl, q⟩
  | brk =>
    obtain ⟨_, _, _, q⟩ := hs
    exact q.elim
  | cont =>
    obtain ⟨_, _, _, q⟩ := hs
    exact q.elim
theorem defX {x : Str} {st : Stmt} {n : Nat} {mf : List D → Option RV} (g : SF) (T : Dn K x st dvs f fd) (S : FnScope N ps (defScope st)) (hn : n = ps.length) (hn2 : n ≤ N.length)
    (law : ∀ ds r, ds.length = n → mf ds = some r → Leaves g (st0 N.length ds) r fun _ => True)
    (body : ∀ (C : Ct) (cdv : Value) (A : Around) (outer : List Env) (s : Shared) (H : Hp) (E : XK), C.W = (fun cls d _ H => E cls d H) → Room k (A.deeper (envOfC x (defScope st) s.heap.objs.size f cdv)) → (A.deeper (envOfC x (defScope st) s.heap.objs.size f cdv)).guards = some [] →
      PSs (cxOf CX P w K mg base N x (defScope st) f cdv A outer s H E) (defBody st) (sOf ⟨K, P, w, mg⟩ C g)) : FnG P w K mg base CX (k + 1) f fd ps (spP ⟨K, P, w, mg⟩ n mf) := by
  refine fnG_ofD T S (fun vs H Q E h => h.1.trans hn) fun cdv A outer s H vs Q E room guards want => ?_
  obtain ⟨hl, F, ds, r, fh, hd, hm, q, qx⟩ := want
  refine ⟨_, body ⟨H, F, none, fun cls d _ H => E cls d H⟩ cdv A outer s H E rfl room guards, ?_⟩
  obtain ⟨st', hg, _⟩ := law ds r ((DpAll_len hd).symm.trans hl) hm
  have R0 : Rel ⟨K, P, w, mg⟩ ⟨H, F, none, fun cls d _ H => E cls d H⟩ F (st0 N.length ds) (L2.start N vs) H := rel0 fh hd (by omega)
  rcases hg with hg | ⟨hg, rfl⟩
  · refine ⟨F, _, _, R0, hg, ?_⟩
    cases r with
    | val d => exact fun v σ' H' F' s1 R1 ok => q v F' H' R1.gr ok
    | new xs => exact fun v σ' H' F' s1 R1 ok => q v F' H' R1.gr ok
    | dct xs => exact fun v σ' H' F' s1 R1 ok => q v F' H' R1.gr ok
    | exc x => exact fun cls d σ' H' F' s1 R1 ok => qx x rfl cls d F' H' R1.gr ok
  · exact ⟨F, _, _, R0, hg, fun σ' H' F' s1 R1 => q .non F' H' R1.gr .non⟩
theorem defP {x : Str} {st : Stmt} {n : Nat} {mf : List D → Option RV} (g : SF) (T : Dn K x st dvs f fd) (S : FnScope N ps (defScope st)) (hn : n = ps.length) (hn2 : n ≤ N.length)
    (law : ∀ ds r, ds.length = n → mf ds = some r → Leaves g (st0 N.length ds) r fun _ => True)
    (body : ∀ (C : Ct) (cdv : Value) (A : Around) (outer : List Env) (s : Shared) (H : Hp) (E : XK), Room k (A.deeper (envOfC x (defScope st) s.heap.objs.size f cdv)) → (A.deeper (envOfC x (defScope st) s.heap.objs.size f cdv)).guards = some [] →
      PSs (cxOf CX P w K mg base N x (defScope st) f cdv A outer s H E).nox (defBody st) (sOf ⟨K, P, w, mg⟩ C g)) : FnG P w K mg base CX (k + 1) f fd ps (spP ⟨K, P, w, mg⟩ n mf) :=
  defX g T S hn hn2 law fun C cdv A outer s H E _ room guards => (body C cdv A outer s H E room guards).nox
theorem defQ {x : Str} {st : Stmt} {n : Nat} {mf : List D → List D → Option (RV × List D)} (g : SF) (T : Dn K x st dvs f fd) (S : FnScope N ps (defScope st)) (hn : n = ps.length) (hn2 : n ≤ N.length)
    (law : ∀ xs ds r, ds.length + 1 = n → mf xs ds = some r → Leaves g (st1 N.length xs ds) r.1 fun st' => st'[0]? = some (.pen r.2))
    (body : ∀ (C : Ct) (cdv : Value) (A : Around) (outer : List Env) (s : Shared) (H : Hp) (E : XK), Room k (A.deeper (envOfC x (defScope st) s.heap.objs.size f cdv)) → (A.deeper (envOfC x (defScope st) s.heap.objs.size f cdv)).guards = some [] →
      PSs (cxOf CX P w K mg base N x (defScope st) f cdv A outer s H E).nox (defBody st) (sOf ⟨K, P, w, mg⟩ C g)) : FnG P w K mg base CX (k + 1) f fd ps (spQ ⟨K, P, w, mg⟩ n mf) := by
  refine fnG_ofD T S (fun vs H Q E h => h.1.trans hn) fun cdv A outer s H vs Q E room guards want => ?_
  obtain ⟨hl, F, p, vs', us, xs, ds, r, rfl, fh, hp, hH, hu, hd, hm, nx, q⟩ := want
  refine ⟨_, (body ⟨H, F, some p, fun cls d _ H => E cls d H⟩ cdv A outer s H E room guards).nox, ?_⟩
  have hl' : vs'.length + 1 = n := by simpa using hl
  obtain ⟨st', hg, hlast⟩ := law xs ds r (by rw [← DpAll_len hd]; exact hl') hm
  have R0 : Rel ⟨K, P, w, mg⟩ ⟨H, F, some p, fun cls d _ H => E cls d H⟩ F (st1 N.length xs ds) (L2.start N (.ref p :: vs')) H := rel1 fh hp hH hu hd (by omega)
  rcases hg with hg | ⟨hg, hr⟩
  · refine ⟨F, _, _, R0, hg, ?_⟩
    have fin : ∀ v (σ' : L2.St) (H' F' : Hp), Same F F' → Rel ⟨K, P, w, mg⟩ ⟨H, F, some p, fun cls d _ H => E cls d H⟩ F' st' σ' H' → RvOk ⟨K, P, w, mg⟩ H F' H' v r.1 → Q v H' := fun v σ' H' F' s1 R1 ok => by
      obtain ⟨a, h1, h2, h3, us', h4, h5⟩ := R1.slot 0 _ hlast
      cases h2
      exact q v F' H' us' R1.grP h3 h4 h5 ok
    cases hr : r.1 with
    | val d => exact fun v σ' H' F' s1 R1 ok => fin v σ' H' F' s1 R1 (by rw [hr]; exact ok)
    | new xs => exact fun v σ' H' F' s1 R1 ok => fin v σ' H' F' s1 R1 (by rw [hr]; exact ok)
    | dct xs => exact fun v σ' H' F' s1 R1 ok => fin v σ' H' F' s1 R1 (by rw [hr]; exact ok)
    | exc x => exact absurd hr (nx x)
  · refine ⟨F, _, _, R0, hg, fun σ' H' F' s1 R1 => ?_⟩
    obtain ⟨a, h1, h2, h3, us', h4, h5⟩ := R1.slot 0 _ hlast
    cases h2
    refine q .non F' H' us' R1.grP h3 h4 h5 ?_
    rw [hr]
    exact .non
end
/-! ### a def's place, made of what the head tells -/
section
variable {K : PySem.W.Frag} {x : Str} {st : Stmt} {f : Addr} {oc kV doc pm cdv ct : Value} {od an : Option Addr} {osl : Array (Option Value)}
theorem dn_mk (l : K.lookup f = some ⟨oc, od, .func (PySem.W.fnOf x x (defArgs st) (defBody st) (defScope st) .none kV doc pm an cdv ct), osl⟩) (c : PySem.W.codeIn K cdv x = true) (k : PySem.W.keepIn K (.ref f) = true) :
    Dn K x st [] f (PySem.W.fnOf x x (defArgs st) (defBody st) (defScope st) .none kV doc pm an cdv ct) := ⟨⟨oc, od, .none, kV, doc, pm, an, cdv, ct, osl, rfl, l, c, .inl ⟨rfl, rfl⟩, .inl rfl⟩, k⟩
/-- .. with one default that is an int -/
theorem dn_mk1 {T : Addr} {oT : Value} {dT : Option Addr} {sT : Array (Option Value)} {i : Int} {t : Tok} {n : Nat} (l : K.lookup f = some ⟨oc, od, .func (PySem.W.fnOf x x (defArgs st) (defBody st) (defScope st) (.ref T) kV doc pm an cdv ct), osl⟩) (c : PySem.W.codeIn K cdv x = true) (k : PySem.W.keepIn K (.ref f) = true)
    (lT : K.lookup T = some ⟨oT, dT, .seq #[.int i t] n, sT⟩) : Dn K x st [.int i] f (PySem.W.fnOf x x (defArgs st) (defBody st) (defScope st) (.ref T) kV doc pm an cdv ct) :=
  ⟨⟨oc, od, .ref T, kV, doc, pm, an, cdv, ct, osl, rfl, l, c, .inr ⟨by simp, T, _, [.int i t], n, rfl, lT, rfl, .cons ⟨t, rfl⟩ .nil⟩, .inl rfl⟩, k⟩
/-- a constant tuple of two ints -/
theorem glob2 {mg : Str → Option Value} {a : Addr} {dT : Option Addr} {sT : Array (Option Value)} {i j : Int} {t u : Tok} {n : Nat} (m : mg x = some (.ref a)) (l : K.lookup a = some ⟨.type "tuple", dT, .seq #[.int i t, .int j u] n, sT⟩) : GlobD K mg x (.tuple [.int i, .int j]) :=
  ⟨.ref a, .ref a, m, rfl, fun _ _ F => .tup (xs := [.int i, .int j]) (.inr ⟨_, #[.int i t, .int j u], n, l, rfl, rfl, (by show 2 ≤ sizeLine; decide), .cons ⟨t, rfl⟩ (.cons ⟨u, rfl⟩ .nil)⟩) (.cons (.int i) (.cons (.int j) .nil))⟩
theorem globI {mg : Str → Option Value} {i : Int} {t : Tok} (m : mg x = some (.int i t)) : GlobD K mg x (.int i) := ⟨.int i, .int i t, m, ⟨t, rfl⟩, fun _ _ F => .int i⟩
end
end Xm

set_option Elab.async false
set_option linter.all false
set_option maxRecDepth 100000
namespace Xm
open PySem PySem.Spec PyProof.Rows L2

/-! ### repr -/
def Rp (d : D) : Prop := d.showable = true ∧ d.canLay0 = true ∧ d.depth ≤ 64 ∧ d.shown.length ≤ sizeLine
instance (d : D) : Decidable (Rp d) := by unfold Rp; infer_instance
def isSeq : D → Bool
  | .list _ => true
  | .tuple _ => true
  | _ => false
def kRepr (d : D) : Option D := match d with
  | .int i => if i.natAbs.log2 < 1920 then some (.str (toString i)) else none
  | d => if isSeq d = true ∧ Rp d then some (.str d.shown) else none
def rReprA (K : Kx) : List V → Hp → VK → Prop := fun xs H Q => (∃ i, xs = [.int i] ∧ i.natAbs.log2 < 1920 ∧ Q (.str (toString i)) H) ∨ ∃ a d, xs = [.ref a] ∧ Dp K H (.ref a) d ∧ Rp d ∧ Q (.str d.shown) H
theorem Room.u200 {k : Nat} {A : Around} (r : Room k A) : A.units + 200 < cLine := by have := r.un; omega
section
variable {X : Cx} {C : Ct} {pos p : Pos} {a : Expr} {f : EF}
theorem call_reprA (hu : X.A.units + 200 < cLine) (gd : X.A.guards = some []) : CallR X (.builtin "repr") (rReprA (kxOf X)) := by
  intro pins s σ H xs us Q I r h
  rcases h with ⟨i, rfl, hz, q⟩ | ⟨ad, d, rfl, hd, hR, q⟩
  · obtain ⟨u, rfl, t, rfl⟩ := vals1 r
    exact PySem.P.repr_of_int hz ⟨.str _, H, I.tok _, ⟨_, rfl⟩, q⟩
  · obtain ⟨u, rfl, rx⟩ := vals1 r
    cases rx
    obtain ⟨as, rd⟩ := Dp.reads I d _ _ (PyData.plain_of_canLay0 d hR.2.1) hd rfl
    obtain ⟨h1, h2, h3, h4⟩ := hR
    refine repr_of_reads' rd h1 (fun z => by rw [PyData.hasDict_of_canLay d h2] at z; cases z) gd (by omega) (fun b o e => e) (fun h' u tk kept => ?_) h4
    exact ⟨.str d.shown, H, I.kept (t' := tk) kept, ⟨_, rfl⟩, q⟩
theorem xd_repr (hu : X.A.units + 200 < cLine) (gd : X.A.guards = some []) (hm : X.mg "repr" = none) (ha : PE X a (dOf (kxOf X) C f)) (hg : Gl X "repr" := by rfl) (he : starEach [a] X.env = (false, eval a X.env) :: starEach [] X.env := by rfl) : PE X (.Call (.Name "repr" p) [a] [] pos) (dOf (kxOf X) C (un1 kRepr f)) :=
  xd_b1 (call_reprA hu gd) (fun F H x d z Q fh hx e q => by
    unfold kRepr at e
    split at e
    · split at e <;> cases e
      rename_i h
      exact .inl ⟨_, by rw [dp_int hx], h, q _ F H (Gr.refl fh) (.str _)⟩
    · split at e <;> cases e
      rename_i h
      have hx2 := Dp_up hx fh
      cases hx2 with
      | lst hs hv => exact .inr ⟨_, _, rfl, .lst hs hv, h.2, q _ F H (Gr.refl fh) (.str _)⟩
      | tup hs hv => exact .inr ⟨_, _, rfl, .tup hs hv, h.2, q _ F H (Gr.refl fh) (.str _)⟩
      | non => exact absurd h.1 (by simp [isSeq])
      | bl b => exact absurd h.1 (by simp [isSeq])
      | int i => exact absurd h.1 (by simp [isSeq])
      | str x => exact absurd h.1 (by simp [isSeq])
      | dtp h1 h2 h3 h4 h5 h6 h7 h8 h9 => exact absurd h.1 (by simp [isSeq])
      | dky h1 h2 h3 h4 h5 => exact absurd h.1 (by simp [isSeq])) hm (by decide +kernel) ha hg (he := he)
end

/-! ### keywords -/
/-- where a parameter's value comes from: a written place, a keyword -/
def arr {α : Type} (z : α) (src : List (Nat ⊕ Nat)) (us ws : List α) : List α := src.map fun x => match x with
  | .inl j => us.getD j z
  | .inr j => ws.getD j z
theorem vals_getD {vs : List V} {us : List Value} (r : Vals vs us) (j : Nat) : RelV (vs.getD j .non) (us.getD j .none) := by
  induction r generalizing j with
  | nil => rfl
  | cons h t ih => cases j with
    | zero => exact h
    | succ j => exact ih j
theorem vals_arr {vs zs : List V} {us ws : List Value} (r : Vals vs us) (s : Vals zs ws) : ∀ src : List (Nat ⊕ Nat), Vals (arr .non src vs zs) (arr .none src us ws)
  | [] => .nil
  | .inl j :: src => .cons (vals_getD r j) (vals_arr r s src)
  | .inr j :: src => .cons (vals_getD s j) (vals_arr r s src)
theorem dpa_getD {K : Kx} {F : Hp} {vs : List V} {ds : List D} (r : DpAll K F vs ds) (j : Nat) : Dp K F (vs.getD j .non) (ds.getD j .none) := by
  cases h : ds[j]? with
  | none =>
    have h1 : ds.length ≤ j := List.getElem?_eq_none_iff.mp h
    have h2 : vs.length ≤ j := by rw [DpAll_len r]; exact h1
    rw [List.getD_eq_getElem?_getD, List.getD_eq_getElem?_getD, h, List.getElem?_eq_none_iff.mpr h2]
    exact .non
  | some d =>
    obtain ⟨v, h1, h2⟩ := DpAll_get r h
    rw [List.getD_eq_getElem?_getD, List.getD_eq_getElem?_getD, h, h1]
    exact h2
theorem dpa_arr {K : Kx} {F : Hp} {vs zs : List V} {ds es : List D} (r : DpAll K F vs ds) (s : DpAll K F zs es) : ∀ src : List (Nat ⊕ Nat), DpAll K F (arr .non src vs zs) (arr .none src ds es)
  | [] => .nil
  | .inl j :: src => .cons (dpa_getD r j) (dpa_arr r s src)
  | .inr j :: src => .cons (dpa_getD s j) (dpa_arr r s src)
structure HasK (P : Program) (w : World) (K : PySem.W.Frag) (mg : Str → Option Value) (base : Heap) (k : Nat) (x : Str) (m : Nat) (n : Nat) (ks : List Str) (src : List (Nat ⊕ Nat)) (mf : List D → Option RV) : Prop where
  ex : ∃ (f : Addr) (fd : FuncData) (ps : List Str), FnG P w K mg base (CXM P w) k f fd ps (spP ⟨K, P, w, mg⟩ m mf) ∧ mg x = some (.ref f) ∧ PySem.W.keepIn K (.ref f) = true ∧ src.length = m ∧
    ∀ (s : Shared) (us ws : List Value), K.In s.heap → us.length = n → ws.length = ks.length → BindsTo s fd ⟨us, ks.zip ws⟩ (ps.zip (arr .none src us ws))
def callK (mf : List D → Option RV) (src : List (Nat ⊕ Nat)) (g h : LF) : AS → Option (RV × AS) := fun st => (g st).bind fun a => (h a.2).bind fun b => (mf (arr .none src a.1 b.1)).map fun r => (r, b.2)
def tCallX (sp : Sp) (src : List (Nat ⊕ Nat)) (n m : Nat) (t tk : TA) : TE := fun σ H Q => t σ H fun vs H1 => tk σ H1 fun zs H2 => vs.length = n ∧ zs.length = m ∧ sp (arr .non src vs zs) H2 Q E0
theorem callK_d {K : Kx} {C : Ct} {mf : List D → Option RV} {src : List (Nat ⊕ Nat)} {g h : LF} {n m : Nat} {σ : L2.St} {H : Hp} {Q : VK} (hn : ArN g n) (hm : ArN h m) (q : dOf K C (rvD (callK mf src g h)) σ H Q) : tCallX (spP K src.length mf) src n m (aOf K C g) (aOf K C h) σ H Q := by
  obtain ⟨F, st, w, R, e, q⟩ := q
  obtain ⟨c, ec, e⟩ := Option.bind_eq_some_iff.mp e
  obtain ⟨a, ea, ec⟩ := Option.bind_eq_some_iff.mp ec
  obtain ⟨b, eb, ec⟩ := Option.bind_eq_some_iff.mp ec
  obtain ⟨r, er, ec⟩ := Option.map_eq_some_iff.mp ec
  cases ec
  refine ⟨F, st, a, R, ea, fun vs H1 F1 s1 R1 d1 => ⟨F1, a.2, b, R1, eb, fun zs H2 F2 s2 R2 d2 => ?_⟩⟩
  have dd := dpa_arr (DpAll_up d1 s2) d2 src
  refine ⟨by rw [DpAll_len d1]; exact hn st a ea, by rw [DpAll_len d2]; exact hm a.2 b eb, by unfold arr; rw [List.length_map], F2, _, r, R2.fh, dd, er, fun v F3 H3 gr ok => ?_, fun x hx => by subst hx; cases e⟩
  have R3 := R2.grow gr
  cases r with
  | val d => cases e; exact q v H3 F3 ((s1.trans s2).trans gr.ff) R3 ok
  | exc x => cases e
  | dct kvs =>
    cases e
    obtain ⟨p, rfl, hp, hF, u, hH, hu⟩ := ok
    obtain ⟨A, _⟩ := R2.aside hp
    obtain ⟨k1, k2⟩ := R3.freezeO A.h0 hF hH (fun j hj => A.ap j hj)
    exact q _ H3 _ (((s1.trans s2).trans gr.ff).trans k1) k2 (hu.dp k1 upd_same)
  | new xs =>
    cases e
    obtain ⟨p, rfl, hp, hF, us, hH, hu⟩ := ok
    obtain ⟨A, _⟩ := R2.aside hp
    obtain ⟨k1, k2, k3⟩ := R3.freezeNew A.h0 hF hH (fun j hj => A.ap j hj) hu
    exact q _ H3 _ (((s1.trans s2).trans gr.ff).trans k1) k2 k3
section
variable {X : Cx} {C : Ct} {j k n m : Nat} {x : Str} {p pos kpos : Pos} {e : Expr} {es : List Expr} {kws : List Keyword} {g h : LF} {f : EF} {mf : List D → Option RV} {ks : List Str} {src : List (Nat ⊕ Nat)} {nm : Option Str}
theorem pk_wk {t t' : TA} (h : PK X kws t) (w : ∀ σ H Q, t' σ H Q → t σ H Q) : PK X kws t' := ⟨fun pos pins s σ H Q I q => h.run pos pins s σ H Q I (w σ H Q q)⟩
theorem xk_nil : PK X [] (aOf (kxOf X) C nilA) := pk_wk pk_nil fun σ H Q q => by
  obtain ⟨F, st, w, R, e, q⟩ := q
  cases e
  exact q [] H F (Same.refl _) R .nil
theorem xk_cons (ha : PE X e (dOf (kxOf X) C f)) (hr : PK X kws (aOf (kxOf X) C g)) : PK X (⟨nm, e, kpos⟩ :: kws) (aOf (kxOf X) C (consA f g)) := pk_wk (pk_cons ha hr) fun σ H Q q => by
  obtain ⟨F, st, w, R, e, q⟩ := q
  obtain ⟨a, ea, e⟩ := Option.bind_eq_some_iff.mp e
  obtain ⟨b, eb, e⟩ := Option.map_eq_some_iff.mp e
  cases e
  refine ⟨F, st, a, R, ea, fun v H1 F1 s1 R1 d1 => ?_⟩
  exact ⟨F1, a.2, b, R1, eb, fun vs H2 F2 s2 R2 d2 => q (v :: vs) H2 F2 (s1.trans s2) R2 (.cons (Dp_up d1 s2) d2)⟩
theorem runGK {f : Addr} {fd : FuncData} {ps : List Str} {sp : Sp} {pins : List (Addr × Obj)} {σ : L2.St} {H : Hp} {s : Shared} {Q : VK} {us ws rs : List Value} {vs : List V} (G : FnG X.prog X.w X.K X.mg X.base (CXM X.prog X.w) k f fd ps sp) (hr : Room k X.A) (gd : X.A.guards = some [])
    (hb : BindsTo s fd ⟨us, ks.zip ws⟩ (ps.zip rs)) (I : Inv X pins σ H s) (r : Vals vs rs) (h : sp vs H Q E0) : wpAny (model X.prog X.w) X.A (call (.ref f) us (ks.zip ws)) (EP X pins σ Q) X.xe s := by
  refine wpAny_call (codeAny_mono (G.go X.A X.stack s H ⟨us, ks.zip ws⟩ rs vs Q E0 hr gd I.env0 hb r h) fun res s' hq => ?_)
  match res, hq with
  | .error e, hq => exact passL pins σ H s e s' I hq
  | .ok (.ret u), hq => exact I.after hq
theorem xd_callK (hh : HasK X.prog X.w X.K X.mg X.base j x m n ks src mf) (hr : Room k X.A) (gd : X.A.guards = some []) (hjk : j ≤ k) (ha : PA X (e :: es) (aOf (kxOf X) C g)) (hn : ArN g n) (hkw : PK X kws (aOf (kxOf X) C h)) (hm : ArN h ks.length) (hg : Gl X x := by rfl)
    (hall : (backToKw pos (keywordEach kws X.env)).all (·.1.isSome) = true := by rfl) (hks : (backToKw pos (keywordEach kws X.env)).filterMap (·.1) = ks := by rfl) (hdb : (x == ("__debug__" : Str)) = false := by decide)
    (he : starEach (e :: es) X.env = (false, eval e X.env) :: starEach es X.env := by rfl) (hpl : ((backTo pos (starEach (e :: es) X.env)).any (·.1) || (backToKw pos (keywordEach kws X.env)).any (·.1.isNone)) = false := by rfl) :
    PE X (.Call (.Name x p) (e :: es) kws pos) (dOf (kxOf X) C (rvD (callK mf src g h))) := by
  obtain ⟨f, fd, ps, G, hmg, hk, hsrc, hb⟩ := hh.ex
  subst hsrc
  refine pe_wk (t := tCallX (spP (kxOf X) src.length mf) src n ks.length (aOf (kxOf X) C g) (aOf (kxOf X) C h)) ⟨fun pins s σ H Q I q => ?_⟩ fun _ _ _ q => callK_d hn hm q
  refine wpAny_Call_Name_kw (ld_glob I hg hmg ?_ hdb)
  refine PySem.W.callWith_KW (h₀ := X.base) I.ok.mod.kin hk hall (thn (ha.run pos pins s σ H _ I q) fun us s1 ⟨vs, H1, I1, r, q1⟩ => ?_) hpl he
  refine thn (hkw.run pos pins s1 σ H1 _ I1 q1) fun ws s2 ⟨zs, H2, I2, rz, l1, l2, q2⟩ => ⟨I2.kIn, ?_⟩
  rw [hks]
  exact runGK G (hr.mono hjk) gd (hb s2 us ws I2.kIn (r.length.symm.trans l1) (rz.length.symm.trans l2)) I2 (vals_arr r rz src) q2
theorem xd_callK0 (hh : HasK X.prog X.w X.K X.mg X.base j x m 0 ks src mf) (hr : Room k X.A) (gd : X.A.guards = some []) (hjk : j ≤ k) (hkw : PK X kws (aOf (kxOf X) C h)) (hm : ArN h ks.length) (hg : Gl X x := by rfl)
    (hall : (backToKw pos (keywordEach kws X.env)).all (·.1.isSome) = true := by rfl) (hks : (backToKw pos (keywordEach kws X.env)).filterMap (·.1) = ks := by rfl) (hdb : (x == ("__debug__" : Str)) = false := by decide)
    (hpl : ((backTo pos (starEach [] X.env)).any (·.1) || (backToKw pos (keywordEach kws X.env)).any (·.1.isNone)) = false := by rfl) :
    PE X (.Call (.Name x p) [] kws pos) (dOf (kxOf X) C (rvD (callK mf src nilA h))) := by
  obtain ⟨f, fd, ps, G, hmg, hk, hsrc, hb⟩ := hh.ex
  subst hsrc
  refine pe_wk (t := tCallX (spP (kxOf X) src.length mf) src 0 ks.length (aOf (kxOf X) C nilA) (aOf (kxOf X) C h)) ⟨fun pins s σ H Q I q => ?_⟩ fun _ _ _ q => callK_d ar_nil hm q
  obtain ⟨F, st, w, R, e, q⟩ := q
  cases e
  have q0 := q [] H F (Same.refl _) R .nil
  refine wpAny_Call_Name_kw (ld_glob I hg hmg ?_ hdb)
  refine PySem.W.callWith_KW0 (h₀ := X.base) I.ok.mod.kin hk hall (thn (hkw.run pos pins s σ H _ I q0) fun ws s2 ⟨zs, H2, I2, rz, l1, l2, q2⟩ => ⟨I2.kIn, ?_⟩) hpl
  rw [hks]
  exact runGK (us := []) G (hr.mono hjk) gd (hb s2 [] ws I2.kIn rfl (rz.length.symm.trans l2)) I2 (vals_arr .nil rz src) q2
end
/-- how keywords bind a def without defaults -/
theorem dn_kw {K : PySem.W.Frag} {x : Str} {st : Stmt} {f : Addr} {fd : FuncData} {ps ks : List Str} {src : List (Nat ⊕ Nat)} {n : Nat} (T : Dn K x st [] f fd)
    (h : ∀ (kV doc pm : Value) (an : Option Addr) (cdv ct : Value) (us ws : List Value), us.length = n → ws.length = ks.length → bindArgs (PySem.W.fnOf x x (defArgs st) (defBody st) (defScope st) .none kV doc pm an cdv ct) ⟨us, ks.zip ws⟩ = pure (ps.zip (arr .none src us ws))) :
    ∀ (s : Shared) (us ws : List Value), K.In s.heap → us.length = n → ws.length = ks.length → BindsTo s fd ⟨us, ks.zip ws⟩ (ps.zip (arr .none src us ws)) := by
  obtain ⟨oc, od, dV, kV, doc, pm, an, cdv, ct, osl, rfl, lk, hcd, hD, hK⟩ := T.ex
  rcases hD with ⟨_, rfl⟩ | ⟨e, _⟩
  · exact fun s us ws _ l1 l2 => .of_eq (h kV doc pm an cdv ct us ws l1 l2)
  · exact absurd rfl e
end Xm

set_option Elab.async false
set_option linter.all false
set_option maxRecDepth 100000
namespace Xm
open PySem PySem.Spec PyProof.Rows L2

/-! ### built-ins with any arguments -/
def bN (k : List D → Option D) (g : LF) : EF := fun st => (g st).bind fun a => (k a.1).map fun z => (z, a.2)
def OkN (K : Kx) (r : List V → Hp → VK → Prop) (k : List D → Option D) : Prop :=
  ∀ (F H : Hp) (vs : List V) (ds : List D) (z : D) (Q : VK), Same F H → DpAll K F vs ds → k ds = some z → (∀ v F' H', Gr F H F' H' → Dp K F' v z → Q v H') → r vs H Q
section
variable {X : Cx} {C : Ct} {pos p : Pos} {e : Expr} {es : List Expr} {g : LF}
theorem xd_bN {id : String} {x : Str} {r : List V → Hp → VK → Prop} {k : List D → Option D} (hc : CallR X (.builtin id) r) (ok : OkN (kxOf X) r k) (hm : X.mg x = none) (hv : bootBuiltins x = some (.builtin id)) (ha : PA X (e :: es) (aOf (kxOf X) C g))
    (hg : Gl X x) (hn : x ≠ "__name__" := by decide) (hdb : (x == ("__debug__" : Str)) = false := by decide)
    (he : starEach (e :: es) X.env = (false, eval e X.env) :: starEach es X.env := by rfl) (hpl : (backTo pos (starEach es X.env)).any (·.1) = false := by rfl) : PE X (.Call (.Name x p) (e :: es) [] pos) (dOf (kxOf X) C (bN k g)) :=
  pe_wk (pe_callB hc hg hm hv ha hn hdb he hpl) fun σ H Q q => by
    obtain ⟨F, st, w, R, e, q⟩ := q
    obtain ⟨a, ea, e⟩ := Option.bind_eq_some_iff.mp e
    obtain ⟨z, ez, e⟩ := Option.map_eq_some_iff.mp e
    cases e
    exact ⟨F, st, a, R, ea, fun vs H1 F1 s1 R1 d1 => ok F1 H1 vs a.1 z Q R1.fh d1 ez fun v F2 H2 gr hv => q v H2 F2 (s1.trans gr.ff) (R1.grow gr) hv⟩
end

/-! ### min, max of two -/
def kMin2 : List D → Option D
  | [.int i, .int j] => some (.int (if j < i then j else i))
  | _ => none
def kMax2 : List D → Option D
  | [.int i, .int j] => some (.int (if j > i then j else i))
  | _ => none
theorem dpa2 {K : Kx} {F : Hp} {vs : List V} {i j : Int} (h : DpAll K F vs [.int i, .int j]) : vs = [.int i, .int j] := by
  cases h with
  | cons h1 h =>
    cases h with
    | cons h2 h =>
      cases h
      rw [dp_int h1, dp_int h2]
section
variable {X : Cx} {C : Ct} {pos p : Pos} {a b : Expr} {f : EF} {g : LF}
theorem xd_min2 (hcl : X.calm = true) (hm : X.mg "min" = none) (ha : PA X [a, b] (aOf (kxOf X) C g)) (hg : Gl X "min" := by rfl) (he : starEach [a, b] X.env = (false, eval a X.env) :: starEach [b] X.env := by rfl) (hpl : (backTo pos (starEach [b] X.env)).any (·.1) = false := by rfl) :
    PE X (.Call (.Name "min" p) [a, b] [] pos) (dOf (kxOf X) C (bN kMin2 g)) := xd_bN (call_min2 hcl) (fun F H vs ds z Q fh hd ez q => by
  unfold kMin2 at ez
  split at ez <;> cases ez
  exact ⟨_, _, dpa2 hd, q _ F H (Gr.refl fh) (.int _)⟩) hm (by decide +kernel) ha hg (he := he) (hpl := hpl)
theorem xd_max2 (hcl : X.calm = true) (hm : X.mg "max" = none) (ha : PA X [a, b] (aOf (kxOf X) C g)) (hg : Gl X "max" := by rfl) (he : starEach [a, b] X.env = (false, eval a X.env) :: starEach [b] X.env := by rfl) (hpl : (backTo pos (starEach [b] X.env)).any (·.1) = false := by rfl) :
    PE X (.Call (.Name "max" p) [a, b] [] pos) (dOf (kxOf X) C (bN kMax2 g)) := xd_bN (call_max2 hcl) (fun F H vs ds z Q fh hd ez q => by
  unfold kMax2 at ez
  split at ez <;> cases ez
  exact ⟨_, _, dpa2 hd, q _ F H (Gr.refl fh) (.int _)⟩) hm (by decide +kernel) ha hg (he := he) (hpl := hpl)
end

/-! ### sorted -/
def allAlikeB (ds : List D) : Bool := ds.all fun d => ds.all fun d' => PySem.W.alike d d'
def neTup : D → Bool
  | .tuple (_ :: _) => true
  | _ => false
def noTup : D → Bool
  | .none => false
  | .tuple _ => false
  | _ => true
def sortableB (ds : List D) : Bool := ds.all neTup || ds.all noTup
theorem allAlike_of {ds : List D} (h : allAlikeB ds = true) : PySem.W.AllAlike ds := fun d hd d' hd' => by
  unfold allAlikeB at h
  rw [List.all_eq_true] at h
  exact List.all_eq_true.mp (h d hd) d' hd'
theorem sortable_of {ds : List D} (h : sortableB ds = true) : PySem.W.Sortable ds := by
  unfold sortableB at h
  rw [Bool.or_eq_true] at h
  rcases h with h | h
  · refine .inl fun d hd => ?_
    have := List.all_eq_true.mp h d hd
    match d, this with
    | .tuple (x :: r), _ => exact ⟨x, r, rfl⟩
  · refine .inr fun d hd => ?_
    have := List.all_eq_true.mp h d hd
    refine ⟨?_, fun xs => ?_⟩
    · rintro rfl
      simp [noTup] at this
    · rintro rfl
      simp [noTup] at this
noncomputable def dSort (ds : List D) : List D := ds.mergeSort (PySem.W.dataLe false id)
noncomputable def kSorted : D → Option D
  | .list ds => if allAlikeB ds = true ∧ sortableB ds = true ∧ ds.length ≤ sizeLine ∧ ds.all (fun d => decide (d.depth ≤ 60) && d.plain) = true then some (.list (dSort ds)) else none
  | _ => none
def rSortedD (K : Kx) : List V → Hp → VK → Prop := fun vs H Q => ∃ a xs ds F, vs = [.ref a] ∧ SqL K.K H a xs ∧ Same F H ∧ DpAll K F xs ds ∧ PySem.W.AllAlike ds ∧ PySem.W.Sortable ds ∧ ds.length ≤ sizeLine ∧ (∀ d ∈ ds, d.depth ≤ 60 ∧ d.plain = true) ∧
  ∀ ys p, DpAll K F ys (dSort ds) → H p = none → Q (.ref p) (upd H p (.lst ys))
theorem each_of {K : Kx} {H : Hp} : ∀ {vs : List V} {us : List Value} {ds : List D}, Vals vs us → DpAll K H vs ds → PySem.W.EachIs (fun u d => ∃ v, RelV v u ∧ Dp K H v d) us ds
  | _, _, _, .nil, .nil => .nil
  | _, _, _, .cons r rs, .cons d ds => .cons ⟨_, r, d⟩ (each_of rs ds)
theorem each_mem {α β : Type} {R R' : α → β → Prop} : ∀ {us : List α} {ds : List β}, PySem.W.EachIs R us ds → (∀ u d, d ∈ ds → R u d → R' u d) → PySem.W.EachIs R' us ds
  | _, _, .nil, _ => .nil
  | _, _, .cons h t, k => .cons (k _ _ (.head _) h) (each_mem t fun u d hd => k u d (.tail _ hd))
theorem each_to {K : Kx} {H : Hp} {us : List Value} {ds : List D} (e : PySem.W.EachIs (fun u d => ∃ v, RelV v u ∧ Dp K H v d) us ds) : ∃ vs, Vals vs us ∧ DpAll K H vs ds := by
  induction e with
  | nil => exact ⟨[], .nil, .nil⟩
  | cons h t ih =>
    obtain ⟨v, r, d⟩ := h
    obtain ⟨vs, rs, dd⟩ := ih
    exact ⟨v :: vs, .cons r rs, .cons d dd⟩
theorem vals_length {vs : List V} {us : List Value} (r : Vals vs us) : vs.length = us.length := r.length
section
variable {X : Cx} {C : Ct} {pos p : Pos} {a : Expr} {f : EF}
theorem cr_sortedData (hu : X.A.units + 65 < cLine) : CallR X (.builtin "sorted") (rSortedD (kxOf X)) := by
  intro pins s σ H vs us Q I r h
  obtain ⟨a, xs, ds, F, rfl, hs, fh, hd, ha, hk, hL, hdep, q⟩ := h
  obtain ⟨its, rv, hl, _⟩ := I.list hs
  rw [Vals.ref1 r]
  have e := each_of rv hd
  have er : PySem.W.EachIs (fun u d => ∃ as, Reads s.heap u (id d) as) its ds := each_mem e fun u d hm ⟨v, r1, r2⟩ => Dp.reads I d v u (hdep d hm).2 (Dp_up r2 fh) r1
  refine PySem.W.sorted_data (enc := id) hl.isList e er (by rw [List.map_id]; exact ha) (by rw [List.map_id]; exact hk) hL (fun b hb => by have := (hdep b hb).1; simp only [id]; omega) fun out ho eo => ?_
  obtain ⟨ys, k1, k2⟩ := each_to eo
  obtain ⟨ep, he'⟩ := PyProof.Rows.sortedAll_at s.heap its out.toArray
  have hlen : ys.length ≤ sizeLine := by rw [k1.length, ho]; exact hL
  exact ⟨.ref _, upd H (s.heap.objs.size + 1) (.lst ys), I.laid (t' := s.toks) (fun _ _ => PyProof.Rows.sortedAll_old) (Nat.le_succ _) ⟨hlen, out, ep, k1, he'⟩, rfl, q ys _ k2 (I.hok.fresh (Nat.le_succ _))⟩
theorem xd_sorted (hu : X.A.units + 65 < cLine) (hm : X.mg "sorted" = none) (ha : PE X a (dOf (kxOf X) C f)) (hg : Gl X "sorted" := by rfl) (he : starEach [a] X.env = (false, eval a X.env) :: starEach [] X.env := by rfl) : PE X (.Call (.Name "sorted" p) [a] [] pos) (dOf (kxOf X) C (un1 kSorted f)) :=
  xd_b1 (cr_sortedData hu) (fun F H x a z Q fh ha e q => by
    unfold kSorted at e; split at e
    · split at e <;> cases e
      rename_i h
      obtain ⟨h1, h2, h3, h4⟩ := h
      cases ha with
      | lst hs hv => exact ⟨_, _, _, F, rfl, sql_up fh hs, fh, hv, allAlike_of h1, sortable_of h2, h3, fun d hd => ⟨of_decide_eq_true (Bool.and_eq_true_iff.mp (List.all_eq_true.mp h4 d hd)).1, (Bool.and_eq_true_iff.mp (List.all_eq_true.mp h4 d hd)).2⟩, fun ys l hy hl => q _ _ _ (Gr.new fh hl) (.lst (.inl (.inl upd_same)) (DpAll_up hy (same_upd (fh.free hl))))⟩
    · cases e) hm (by decide +kernel) ha hg (he := he)
end
theorem alike_ints (ns : List Int) : allAlikeB (ns.map PyData.int) = true := by
  unfold allAlikeB
  rw [List.all_eq_true]
  intro d hd
  rw [List.all_eq_true]
  intro d' hd'
  obtain ⟨i, _, rfl⟩ := List.mem_map.mp hd
  obtain ⟨j, _, rfl⟩ := List.mem_map.mp hd'
  simp [PySem.W.alike]
theorem dSort_ints (ns : List Int) : dSort (ns.map PyData.int) = (ns.mergeSort fun a b => decide (a ≤ b)).map PyData.int := by
  unfold dSort
  rw [List.map_mergeSort (r := fun a b => decide (a ≤ b)) (s := PySem.W.dataLe false id) (f := PyData.int)]
  intro a _ b _
  exact (congrFun (congrFun (PySem.W.dataLe_int id) a) b).symm
theorem k_sortedInts {ns : List Int} (h : ns.length ≤ sizeLine) : kSorted (.list (ns.map PyData.int)) = some (.list ((ns.mergeSort fun a b => decide (a ≤ b)).map PyData.int)) := by
  show (if allAlikeB (ns.map PyData.int) = true ∧ sortableB (ns.map PyData.int) = true ∧ (ns.map PyData.int).length ≤ sizeLine ∧ (ns.map PyData.int).all (fun d => decide (d.depth ≤ 60) && d.plain) = true then some (PyData.list (dSort (ns.map PyData.int))) else none) = _
  rw [if_pos, dSort_ints]
  refine ⟨alike_ints ns, ?_, by rw [List.length_map]; exact h, ?_⟩
  · unfold sortableB
    rw [Bool.or_eq_true]
    refine .inr (List.all_eq_true.mpr fun d hd => ?_)
    obtain ⟨i, _, rfl⟩ := List.mem_map.mp hd
    rfl
  · refine List.all_eq_true.mpr fun d hd => ?_
    obtain ⟨i, _, rfl⟩ := List.mem_map.mp hd
    rfl
theorem k_sorted2 (a b : Int) : kSorted (.list [.int a, .int b]) = some (.list [.int (min a b), .int (max a b)]) := by
  rw [show ([.int a, .int b] : List D) = [a, b].map PyData.int from rfl, k_sortedInts (ns := [a, b]) (show 2 ≤ sizeLine by rw [sizeLine_eq]; omega)]
  have : ([a, b].mergeSort fun x y => decide (x ≤ y)) = [min a b, max a b] := by
    simp [List.mergeSort, List.MergeSort.Internal.splitInTwo]
    unfold List.merge
    by_cases h : a ≤ b
    · simp [h, Int.min_eq_left h, Int.max_eq_right h]
    · simp [h, Int.min_eq_right (by omega : b ≤ a), Int.max_eq_left (by omega : b ≤ a)]
  rw [this]
  rfl

/-! ### a list or a tuple into names -/
def unpT (n : Nat) (w : List D → AS → Option AS) : D → AS → Option AS := fun d st => match d with
  | .tuple ds => if ds.length = n then w ds st else none
  | .list ds => if ds.length = n then w ds st else none
  | _ => none
section
variable {X : Cx} {C : Ct} {pos : Pos} {es : List Expr}
theorem xg_unp {k n : Nat} {ts : List Nat} {w : List D → AS → Option AS} (h : PGs X es (gsOf (kxOf X) C w ts)) (hc : X.calm = true := by rfl)
    (hn : (assignEach es X.env).length = n := by rfl) (hst : (assignEach es X.env).findIdx? (·.1) = none := by rfl) : PG X (.Tuple es k pos) (gOf (kxOf X) C (unpT n w) ts) := by
  refine ⟨fun pins s σ H v u Q I r q => ?_⟩
  obtain ⟨F, st, d, st', R, hd, e, q⟩ := q
  unfold unpT at e
  split at e
  · split at e
    · rename_i ds hl
      cases hd with
      | tup hs hv => exact (pg_tup hc h hn hst).run pins s σ H _ u Q I r ⟨_, _, rfl, sqt_up R.fh hs, by rw [DpAll_len hv]; exact hl, F, st, ds, st', R, hv, e, q⟩
    · cases e
  · split at e
    · rename_i ds hl
      cases hd with
      | lst hs hv => exact (pg_unl hc h hn hst).run pins s σ H _ u Q I r ⟨_, _, rfl, sql_up R.fh hs, by rw [DpAll_len hv]; exact hl, F, st, ds, st', R, hv, e, q⟩
    · cases e
  · cases e
end

/-! ### a tuple told so often -/
section
variable {X : Cx}
theorem tuple_mul1 (l : Addr) (items : Array Value) (n : Nat) (dd : Option Addr) (sl : Array (Option Value)) (u : Tok) :
    Meets (Builtin.«tuple.__mul__» ⟨[.ref l, .int 1 u], []⟩) (fun _ R s => s.heap.get? l = some { cls := .type "tuple", dict := dd, data := .seq items n, slots := sl } ∧
      R (.ok (.ret (Value.ref l))) s) :=
  .of_wp fun prog w A R s h => by
    obtain ⟨hp, g, d, tk, os⟩ := s
    obtain ⟨hl, h⟩ := h
    have f1 := AutoSeq1.idx_int
    have c0 : (decide ((1 : Int) < -(2 ^ 63)) || decide ((1 : Int) ≥ 2 ^ 63)) = false := by decide
    have c1 : (items.isEmpty || (1 : Int) == 1) = true := by simp
    wp_walk using wpAny_loadPart' hl
    repeat (first
      | (refine wpAny_ite_false (decide_eq_false (by rw [c0]; exact Bool.false_ne_true)) ?_; wp_walk using wpAny_loadPart' hl)
      | (refine wpAny_ite_true (decide_eq_true c1) ?_; wp_walk using wpAny_loadPart' hl))
    exact ⟨_, rfl, h⟩
def rRepT1 (K : Kx) : R2 := fun x y H Q => ∃ l xs, x = .ref l ∧ y = .int 1 ∧ SqT K.K H l xs ∧ Q (.ref l) H
theorem op_repT1 : OpR X (binaryOp .Mult) (rRepT1 (kxOf X)) := by
  intro pins s σ H x y v u Q I rx ry h
  obtain ⟨l, xs, rfl, rfl, hT, q⟩ := h
  cases rx
  obtain ⟨t, rfl⟩ := ry
  obtain ⟨its, r, ⟨⟨cls, dd, data, sl⟩, ho, hc, n, hd⟩, hs⟩ := I.tuple hT
  simp only at hc hd
  subst hc hd
  refine wpAny_binaryOp_repeat_ref (T := "tuple") (U := "int") (by decide) ⟨_, ho, rfl⟩ (fun s' => typeIs_int s' 1 t) noFill_tuple_mul F.fills_int_mul F.slot_int_rmul repeat_tuple F.slot_int_index.lookup
    (call_meets F.slot_int_rmul (typeIs_int s 1 t) F.entry_int_rmul (F.args_int_rmul_2 _ _) (int_rmul_tuple 1 t l its.toArray n dd sl)
      ⟨ho, rfl, ⟨_, ho, rfl⟩, call_meets F.slot_tuple_mul ⟨_, ho, rfl⟩ F.entry_tuple_mul (F.args_tuple_mul_2 _ _) (tuple_mul1 l its.toArray n dd sl t) ⟨ho, ?_⟩⟩)
  exact ⟨.ref l, H, I, rfl, q⟩
end
def kMulR : D → D → Option D
  | .int i, .int j => kMul (.int i) (.int j)
  | .tuple xs, .int k => if k = 1 then some (.tuple xs) else if xs ≠ [] ∧ 2 ≤ k ∧ k ≤ 1000 ∧ xs.length ≤ 1000 then some (.tuple (List.replicate k.toNat xs).flatten) else none
  | _, _ => none
theorem dpa_rep {K : Kx} {F : Hp} {vs : List V} {ds : List D} (h : DpAll K F vs ds) : ∀ n : Nat, DpAll K F (List.replicate n vs).flatten (List.replicate n ds).flatten
  | 0 => .nil
  | n + 1 => by
    rw [List.replicate_succ, List.replicate_succ, List.flatten_cons, List.flatten_cons]
    exact DpAll_app h (dpa_rep h n)
theorem ok_mulR {K : Kx} : Ok2 K (fun x y H Q => rI CMulW (fun i j => .int (i * j)) x y H Q ∨ rRepT1 K x y H Q ∨ rRepT K.K x y H Q) kMulR := by
  intro F H x y a b z Q fh ha hb e q
  unfold kMulR at e
  split at e
  · exact .inl (ok_mul F H x y _ _ z Q fh ha hb e q)
  · rename_i xs k
    cases ha with
    | tup hs hv =>
      split at e
      · rename_i h1
        cases e
        subst h1
        exact .inr (.inl ⟨_, _, rfl, dp_int hb, sqt_up fh hs, q _ F H (Gr.refl fh) (.tup hs hv)⟩)
      · split at e <;> cases e
        rename_i h
        obtain ⟨h1, h2, h3, h4⟩ := h
        refine .inr (.inr ⟨_, _, _, rfl, dp_int hb, sqt_up fh hs, fun z => h1 ?_, h2, h3, by rw [DpAll_len hv]; exact h4, fun p hp => ?_⟩)
        · subst z
          cases hv
          rfl
        · exact q _ _ _ (Gr.new fh hp) (.tup (.inl (.inl upd_same)) (DpAll_up (dpa_rep hv _) (same_upd (fh.free hp))))
  · cases e
section
variable {X : Cx} {C : Ct} {pos : Pos} {a b : Expr} {f g : EF}
theorem xd_mulR (ha : PE X a (dOf (kxOf X) C f)) (hb : PE X b (dOf (kxOf X) C g)) : PE X (.BinOp a .Mult b pos) (dOf (kxOf X) C (bin2 kMulR f g)) := xd_op (op_mulW.or (op_repT1.or op_repT)) ok_mulR ha hb
end
end Xm

set_option Elab.async false
set_option linter.all false
set_option maxRecDepth 100000
namespace Xm
open PySem PySem.Spec PyProof.Rows L2

/-! ### what the functions do, for simp -/
/-- a slot that may be stored into -/
def npB : Slot → Bool
  | .pen _ => false
  | _ => true
def npO : Option Slot → Bool
  | some s => npB s
  | none => false
section
variable {f g : EF} {u v c : BF} {a b : LF} {s t : SF} {st : AS} {i j l : Nat} {k : D → D → Option D} {h : D → Option D} {d : D}
@[simp] theorem e_cst : cst d st = some (d, st) := rfl
@[simp] theorem e_rd : rd i st = (match st[i]? with
  | some (.dat d) => some (d, st)
  | some (.own xs) => some (.list xs, st.set i (.dat (.list xs)))
  | _ => none) := rfl
@[simp] theorem e_bin2 : bin2 k f g st = (f st).bind fun a => (g a.2).bind fun b => (k a.1 b.1).map fun z => (z, b.2) := rfl
@[simp] theorem e_un1 : un1 h f st = (f st).bind fun a => (h a.1).map fun z => (z, a.2) := rfl
@[simp] theorem e_nilA : nilA st = some ([], st) := rfl
@[simp] theorem e_consA : consA f a st = (f st).bind fun x => (a x.2).map fun y => (x.1 :: y.1, y.2) := rfl
@[simp] theorem e_tupF : tupF a st = (a st).bind fun b => if b.1.length ≤ sizeLine then some (.tuple b.1, b.2) else none := rfl
@[simp] theorem e_lstF : lstF a st = (a st).bind fun b => if b.1.length ≤ sizeLine then some (.list b.1, b.2) else none := rfl
@[simp] theorem e_newF : newF a st = (a st).bind fun b => if b.1.length ≤ sizeLine then some b else none := rfl
@[simp] theorem e_muC : muC st i = (match st[i]? with
  | some (.own xs) => some xs
  | some (.pen xs) => some xs
  | _ => none) := rfl
@[simp] theorem e_putM {xs : List D} : putM st i xs = (match st[i]? with
  | some (.own _) => st.set i (.own xs)
  | some (.pen _) => st.set i (.pen xs)
  | _ => st) := rfl
@[simp] theorem e_ixM : ixM i g st = (muC st i).bind fun _ => (g st).bind fun b => (muC b.2 i).bind fun xs => (kIx (.list xs) b.1).map fun z => (z, b.2) := rfl
@[simp] theorem e_lenM : lenM i st = (muC st i).map fun xs => (.int xs.length, st) := rfl
@[simp] theorem e_valB : valB f st = (f st).bind fun a => (match a.1 with
  | .bool b => some (b, a.2)
  | _ => none) := rfl
@[simp] theorem e_andB : andB u v st = (u st).bind fun a => if a.1 = true then v a.2 else some (false, a.2) := rfl
@[simp] theorem e_orB : orB u v st = (u st).bind fun a => if a.1 = true then some (true, a.2) else v a.2 := rfl
@[simp] theorem e_notB : notB u st = (u st).map fun a => (!a.1, a.2) := rfl
@[simp] theorem e_boolE : boolE u st = (u st).map fun a => (.bool a.1, a.2) := rfl
@[simp] theorem e_ifE : ifE c f g st = (c st).bind fun a => if a.1 = true then f a.2 else g a.2 := rfl
@[simp] theorem e_seqS : seqS s t st = (s st).bind fun w => (match w.1 with
  | .nx => t w.2
  | _ => some w) := rfl
@[simp] theorem e_skipS : skipS st = some (.nx, st) := rfl
@[simp] theorem e_retS : retS f st = (f st).map fun a => (.ret (.val a.1), a.2) := rfl
@[simp] theorem e_retN : retN a st = (a st).map fun a => (.ret (.new a.1), a.2) := rfl
@[simp] theorem e_dropS : dropS f st = (f st).map fun a => (.nx, a.2) := rfl
@[simp] theorem e_ifS : ifS c s t st = (c st).bind fun a => if a.1 = true then s a.2 else t a.2 := rfl
@[simp] theorem npO_some {s : Slot} : npO (some s) = npB s := rfl
@[simp] theorem npB_no : npB .no = true := rfl
@[simp] theorem npB_dat : npB (.dat d) = true := rfl
@[simp] theorem npB_own {xs : List D} : npB (.own xs) = true := rfl
@[simp] theorem e_setD : setD i d st = if npO st[i]? = true then some (st.set i (.dat d)) else none := by
  unfold setD
  cases h : st[i]? with
  | none => rfl
  | some s => cases s <;> rfl
@[simp] theorem e_setO {xs : List D} : setO i xs st = if npO st[i]? = true then some (st.set i (.own xs)) else none := by
  unfold setO
  cases h : st[i]? with
  | none => rfl
  | some s => cases s <;> rfl
@[simp] theorem e_asgS : asgS i f st = (f st).bind fun a => (setD i a.1 a.2).map fun st' => (.nx, st') := rfl
@[simp] theorem e_asgN : asgN i a st = (a st).bind fun b => (setO i b.1 b.2).map fun st' => (.nx, st') := rfl
@[simp] theorem e_setM : setM i f g st = (muC st i).bind fun _ => (f st).bind fun a => (muC a.2 i).bind fun _ => (g a.2).bind fun b => (muC b.2 i).bind fun xs => (match b.1 with
  | .int k => (ixN xs.length k).map fun j => (.nx, putM b.2 i (xs.set j a.1))
  | _ => none) := rfl
@[simp] theorem e_par2 : par2 i j a st = (a st).bind fun a => (match a.1 with
  | [x, y] => (setD i x a.2).bind fun s1 => (setD j y s1).map fun s2 => (.nx, s2)
  | _ => none) := rfl
@[simp] theorem e_par3 : par3 i j l a st = (a st).bind fun a => (match a.1 with
  | [x, y, z] => (setD i x a.2).bind fun s1 => (setD j y s1).bind fun s2 => (setD l z s2).map fun s3 => (.nx, s3)
  | _ => none) := rfl
@[simp] theorem e_callP {mf : List D → Option RV} {dvs : List D} : callP mf dvs a st = (a st).bind fun a => (mf (a.1 ++ dvs)).map fun r => (r, a.2) := rfl
@[simp] theorem e_callQ {mf : List D → List D → Option (RV × List D)} : callQ mf i a st = (muC st i).bind fun _ => (a st).bind fun a => (muC a.2 i).bind fun xs => (mf xs a.1).map fun r => (r.1, putM a.2 i r.2) := rfl
@[simp] theorem e_rvD {c : AS → Option (RV × AS)} : rvD c st = (c st).bind fun r => (match r.1 with
  | .val d => some (d, r.2)
  | .new xs => some (.list xs, r.2)
  | .dct kvs => some (.dict kvs, r.2)
  | .exc _ => none) := rfl
@[simp] theorem e_rvN {c : AS → Option (RV × AS)} : rvN c st = (c st).bind fun r => (match r.1 with
  | .new xs => some (xs, r.2)
  | _ => none) := rfl
@[simp] theorem e_yesB : yesB st = some (true, st) := rfl
@[simp] theorem e_listE : listE a st = (a st).map fun a => (.list a.1, a.2) := rfl
@[simp] theorem e_st0 {n : Nat} {ds : List D} : st0 n ds = ds.map Slot.dat ++ List.replicate (n - ds.length) Slot.no := rfl
@[simp] theorem e_st1 {n : Nat} {xs ds : List D} : st1 n xs ds = Slot.pen xs :: (ds.map Slot.dat ++ List.replicate (n - ds.length - 1) Slot.no) := rfl
@[simp] theorem e_itD : itD f st = (f st).bind fun a => (match a.1 with
  | .list xs => some (xs, a.2)
  | .tuple xs => some (xs, a.2)
  | _ => none) := rfl
@[simp] theorem e_noO : noO st = some (none, st) := rfl
@[simp] theorem e_someO : someO f st = (f st).bind fun a => (match a.1 with
  | .int i => some (some i, a.2)
  | _ => none) := rfl
@[simp] theorem e_cutF {x y : OF} : cutF f x y st = (f st).bind fun a => (x a.2).bind fun l => (y l.2).bind fun h => (match a.1 with
  | .list xs => some (.list (cutX xs l.1 h.1), h.2)
  | .tuple xs => some (.tuple (cutX xs l.1 h.1), h.2)
  | _ => none) := rfl
@[simp] theorem e_itR1 : itR1 f st = (f st).bind fun a => (match a.1 with
  | .int j => if -(2 ^ 62) ≤ j ∧ j < 2 ^ 62 then some (rngD 0 j, a.2) else none
  | _ => none) := rfl
@[simp] theorem e_revF : revF f st = (f st).bind fun a => (match a.1 with
  | .list xs => some (.list xs.reverse, a.2)
  | _ => none) := rfl
end
section
variable {i j : Int} {a b : D} {xs ys : List D}
@[simp] theorem k_add : kAdd (.int i) (.int j) = some (.int (i + j)) := rfl
@[simp] theorem k_cat : kCat (.int i) (.int j) = some (.int (i + j)) := rfl
@[simp] theorem k_sub : kSub (.int i) (.int j) = some (.int (i - j)) := rfl
@[simp] theorem k_lt : kLt (.int i) (.int j) = some (.bool (decide (i < j))) := rfl
@[simp] theorem k_le : kLe (.int i) (.int j) = some (.bool (decide (i ≤ j))) := rfl
@[simp] theorem k_gt : kGt (.int i) (.int j) = some (.bool (decide (j < i))) := rfl
@[simp] theorem k_ge : kGe (.int i) (.int j) = some (.bool (decide (j ≤ i))) := rfl
@[simp] theorem k_neg : kNeg (.int i) = some (.int (-i)) := rfl
@[simp] theorem k_abs : kAbs (.int i) = some (.int (i.natAbs : Int)) := by
  show some (PyData.int (if i < 0 then -i else i)) = _
  congr 2
  split <;> omega
@[simp] theorem k_lenL : kLen (.list xs) = some (.int xs.length) := rfl
@[simp] theorem k_lenT : kLen (.tuple xs) = some (.int xs.length) := rfl
@[simp] theorem k_list : kList (.list xs) = some (.list xs) := rfl
@[simp] theorem k_listT : kList (.tuple xs) = some (.list xs) := rfl
@[simp] theorem k_tupL : kTuple (.list xs) = some (.tuple xs) := rfl
@[simp] theorem k_tupT : kTuple (.tuple xs) = some (.tuple xs) := rfl
@[simp] theorem k_intB {x : Bool} : kInt (.bool x) = some (.int (if x then 1 else 0)) := rfl
@[simp] theorem k_eqStr {x y : Str} : kEq (.str x) (.str y) = some (.bool (decide (x = y))) := rfl
@[simp] theorem k_neStr {x y : Str} : kNe (.str x) (.str y) = some (.bool (!decide (x = y))) := rfl
@[simp] theorem k_eqI : kEq (.int i) (.int j) = some (.bool (i == j)) := by
  show kEqD _ _ = _
  unfold kEqD
  rw [if_pos ⟨rfl, rfl⟩]
  simp only [PyData.eqv]
@[simp] theorem k_neI : kNe (.int i) (.int j) = some (.bool (!(i == j))) := by
  show kNeD _ _ = _
  unfold kNeD
  rw [if_pos ⟨rfl, rfl⟩]
  simp only [PyData.eqv]
theorem k_mod (h : j ≠ 0) : kMod (.int i) (.int j) = some (.int (i.fmod j)) := if_pos h
theorem k_ixL (h : atI xs i = some a) : kIx (.list xs) (.int i) = some a := h
theorem k_ixT (h : atI xs i = some a) : kIx (.tuple xs) (.int i) = some a := h
@[simp] theorem ix_L : kIx (.list xs) (.int i) = atI xs i := rfl
@[simp] theorem ix_T : kIx (.tuple xs) (.int i) = atI xs i := rfl
end
section
variable {α : Type} {x y z : α} {l : List α}
@[simp] theorem at_0 : atI (x :: l) 0 = some x := atI_nat (j := 0) rfl
@[simp] theorem at_1 : atI (x :: y :: l) 1 = some y := atI_nat (j := 1) rfl
@[simp] theorem at_2 : atI (x :: y :: z :: l) 2 = some z := atI_nat (j := 2) rfl
theorem at_n {n : Nat} {xs : List α} (h : xs[n]? = some x) : atI xs (n : Int) = some x := atI_nat h
@[simp] theorem ixN_0 {n : Nat} : ixN (n + 1) 0 = some 0 := by unfold ixN; rw [if_pos (by omega), if_pos (by omega)]; rfl
@[simp] theorem ixN_1 {n : Nat} : ixN (n + 1 + 1) 1 = some 1 := by unfold ixN; rw [if_pos (by omega), if_pos (by omega)]; rfl
@[simp] theorem ixN_2 {n : Nat} : ixN (n + 1 + 1 + 1) 2 = some 2 := by unfold ixN; rw [if_pos (by omega), if_pos (by omega)]; rfl
end
theorem sl_le {n : Nat} (h : n ≤ 1000000) : n ≤ sizeLine := by rw [sizeLine_eq]; omega
@[simp] theorem sl_iff : sizeLine = 16777216 := sizeLine_eq

/-! ### sizes -/
/-- a whole number that may be multiplied -/
def Sm (i : Int) : Prop := i.natAbs < 2 ^ 4000
instance (i : Int) : Decidable (Sm i) := by unfold Sm; infer_instance
theorem log2_sm {i : Int} (h : Sm i) : i.natAbs.log2 < 4000 := PySem.Flt.log2_lt_of (by omega) h
theorem k_mul {i j : Int} (hi : Sm i) (hj : Sm j) : kMul (.int i) (.int j) = some (.int (i * j)) := by
  have h1 := log2_sm hi
  have h2 := log2_sm hj
  exact if_pos (show i.natAbs.log2 + j.natAbs.log2 < 1000000 by omega)
def Sd (j : Int) : Prop := j.natAbs.log2 < 9000
instance (i : Int) : Decidable (Sd i) := by unfold Sd; infer_instance
theorem k_div {i j : Int} (h0 : j ≠ 0) (hj : Sd j) : kDiv (.int i) (.int j) = some (.int (i.fdiv j)) := if_pos ⟨h0, hj⟩
theorem sd_mul {i j : Int} (hi : Sm i) (hj : Sm j) : Sd (i * j) := by
  have h := wide_lt (i := i) (j := j) hi hj
  exact Nat.lt_of_lt_of_le (PySem.Flt.log2_lt_of (by omega) h) (by omega)
theorem sd_le {i j : Int} (h : i.natAbs ≤ j.natAbs) (hj : Sd j) : Sd i := by
  unfold Sd at *
  by_cases h0 : i.natAbs = 0
  · rw [h0]; decide
  · have h1 : 2 ^ i.natAbs.log2 ≤ j.natAbs := Nat.le_trans (Nat.log2_self_le h0) h
    have h2 := (Nat.le_log2 (n := j.natAbs) (by omega)).mpr h1
    omega
theorem sm_le {i j : Int} (h : i.natAbs ≤ j.natAbs) (hj : Sm j) : Sm i := Nat.lt_of_le_of_lt h hj
theorem sm_of {i : Int} {k : Nat} (h : i.natAbs < 2 ^ k) (hk : k ≤ 4000) : Sm i := Nat.lt_of_lt_of_le h (Nat.pow_le_pow_right (by omega) hk)
theorem sd_of {i : Int} (h : Sm i) : Sd i := by
  have := log2_sm h
  unfold Sd
  omega
theorem sd_neg {i : Int} (h : Sd i) : Sd (-i) := by
  unfold Sd at *
  rw [Int.natAbs_neg]
  exact h

/-! ### shares: rational numbers -/
def sh (q : Rat) : D := .tuple [.int q.num, .int q.den]
def toQ : D → Option Rat
  | .tuple [.int a, .int b] => if 0 < b ∧ Int.gcd a b = 1 then some (Rat.divInt a b) else none
  | _ => none
theorem q_num_den (q : Rat) : Rat.divInt q.num q.den = q := by
  exact Rat.num_divInt_den q
@[simp] theorem toQ_sh (q : Rat) : toQ (sh q) = some q := by
  unfold toQ sh
  have h1 : (0 : Int) < q.den := by have := q.den_pos; omega
  have h2 : Int.gcd q.num q.den = 1 := q.reduced
  simp only
  rw [if_pos ⟨h1, h2⟩, q_num_den]

/-! ### slices by natural numbers -/
theorem cut_take {α : Type} (l : List α) (k : Nat) : cutX l none (some (k : Int)) = l.take k := by
  unfold cutX
  rw [HT.sIx_none, HT.sIx_nat, List.drop_zero, Nat.sub_zero]
  by_cases h : k ≤ l.length
  · rw [Nat.min_eq_left h]
  · rw [Nat.min_eq_right (by omega), List.take_of_length_le (Nat.le_refl _), List.take_of_length_le (by omega)]
theorem cut_drop {α : Type} (l : List α) (k : Nat) : cutX l (some (k : Int)) none = l.drop k := by
  unfold cutX
  rw [HT.sIx_none, HT.sIx_nat]
  by_cases h : k ≤ l.length
  · rw [Nat.min_eq_left h, List.take_of_length_le (by simp)]
  · rw [Nat.min_eq_right (by omega), List.drop_of_length_le (Nat.le_refl _), List.drop_of_length_le (by omega), List.take_nil]
/-! ### loops, one turn -/
theorem loopS_cons {u : D → AS → Option AS} {b : SF} {d : D} {ds : List D} {s s1 s2 : AS} (h1 : u d s = some s1) (h2 : b s1 = some (.nx, s2)) : loopS u b (d :: ds) s = loopS u b ds s2 := by
  simp only [loopS, h1, Option.bind_some, h2]
theorem forS_of {it : LF} {u : D → AS → Option AS} {b : SF} {s : AS} {a : List D × AS} (h : it s = some a) : forS it u b s = loopS u b a.1 a.2 := by
  unfold forS
  rw [h]
  rfl
theorem compL_cons {u : D → AS → Option AS} {te : EF} {vs : List Nat} {d x : D} {ds : List D} {s s1 s2 : AS} (h1 : u d s = some s1) (h2 : te s1 = some (x, s2)) : compL u yesB te vs (d :: ds) s = (compL u yesB te vs ds (clr s2 vs)).map fun r => (x :: r.1, r.2) := by
  simp only [compL, h1, Option.bind_some, yesB, if_true, h2]
theorem compF_of {it : LF} {u : D → AS → Option AS} {tt : BF} {te : EF} {vs : List Nat} {s : AS} {a : List D × AS} (h : it s = some a) (hn : allNo a.2 vs = true) (hl : a.1.length ≤ sizeLine) : compF it u tt te vs s = compL u tt te vs a.1 a.2 := by
  unfold compF
  rw [h]
  simp only [Option.bind_some]
  rw [if_pos ⟨hn, hl⟩]
end Xm

set_option Elab.async false
set_option linter.all false
set_option maxRecDepth 100000
namespace Xm
open PySem PySem.Spec PyProof.Rows L2

theorem leave {g : SF} {st : AS} {r : RV} (h : (g st).map (·.1) = some (Fl.ret r)) : Leaves g st r fun _ => True := by
  obtain ⟨w, hw, e⟩ := Option.map_eq_some_iff.mp h
  obtain ⟨fl, st'⟩ := w
  cases e
  exact ⟨st', .inl hw, trivial⟩
/-! ### crossmarks/shares.py -/
def SmQ (q : Rat) : Prop := Sm q.num ∧ Sm q.den
instance (q : Rat) : Decidable (SmQ q) := by unfold SmQ; infer_instance
def mf_common : List D → Option RV
  | [.int a, .int b] => some (.val (.int (Int.gcd a b)))
  | _ => none
def mf_share_of : List D → Option RV
  | [.int t, .int b] => if b ≠ 0 ∧ Sd b then some (.val (sh (Rat.divInt t b))) else none
  | _ => none
def two (k : Rat → Rat → Option D) : List D → Option RV
  | [x, y] => (toQ x).bind fun p => (toQ y).bind fun q => if SmQ p ∧ SmQ q then (k p q).map RV.val else none
  | _ => none
def mf_plus := two fun p q => some (sh (p + q))
def mf_less := two fun p q => some (sh (p - q))
def mf_times := two fun p q => some (sh (p * q))
def mf_over := two fun p q => if q ≠ 0 then some (sh (p / q)) else none
def mf_is_less := two fun p q => some (.bool (decide (p < q)))
theorem toQ_eq {d : D} {q : Rat} (h : toQ d = some q) : d = sh q := by
  unfold toQ at h
  split at h
  · split at h <;> cases h
    rename_i a b hab
    obtain ⟨hb, hg⟩ := hab
    unfold sh
    have h1 : (Rat.divInt a b).num = a := by
      rw [Rat.num_divInt, Int.gcd_comm, hg]
      rw [Int.sign_eq_one_of_pos hb]
      simp
    have h2 : ((Rat.divInt a b).den : Int) = b := by
      rw [Rat.den_divInt, if_neg (by omega), Int.gcd_comm, hg, Nat.div_one]
      omega
    rw [h1, h2]
  · cases h
theorem two_eq {k : Rat → Rat → Option D} {ds : List D} {r : RV} (h : two k ds = some r) : ∃ p q d, ds = [sh p, sh q] ∧ SmQ p ∧ SmQ q ∧ k p q = some d ∧ r = .val d := by
  unfold two at h
  split at h
  · obtain ⟨p, hp, h⟩ := Option.bind_eq_some_iff.mp h
    obtain ⟨q, hq, h⟩ := Option.bind_eq_some_iff.mp h
    split at h
    · rename_i hs
      obtain ⟨d, hd, rfl⟩ := Option.map_eq_some_iff.mp h
      exact ⟨p, q, d, by rw [toQ_eq hp, toQ_eq hq], hs.1, hs.2, hd, rfl⟩
    · cases h
  · cases h
theorem two_sh {k : Rat → Rat → Option D} {p q : Rat} {d : D} (hp : SmQ p) (hq : SmQ q) (h : k p q = some d) : two k [sh p, sh q] = some (.val d) := by
  unfold two
  simp only [toQ_sh, Option.bind_some]
  rw [if_pos ⟨hp, hq⟩, h]
  rfl
theorem m_plus {p q : Rat} (hp : SmQ p) (hq : SmQ q) : mf_plus [sh p, sh q] = some (.val (sh (p + q))) := two_sh hp hq rfl
theorem m_less {p q : Rat} (hp : SmQ p) (hq : SmQ q) : mf_less [sh p, sh q] = some (.val (sh (p - q))) := two_sh hp hq rfl
theorem m_times {p q : Rat} (hp : SmQ p) (hq : SmQ q) : mf_times [sh p, sh q] = some (.val (sh (p * q))) := two_sh hp hq rfl
theorem m_over {p q : Rat} (hp : SmQ p) (hq : SmQ q) (h : q ≠ 0) : mf_over [sh p, sh q] = some (.val (sh (p / q))) := two_sh hp hq (if_pos h)
theorem m_is_less {p q : Rat} (hp : SmQ p) (hq : SmQ q) : mf_is_less [sh p, sh q] = some (.val (.bool (decide (p < q)))) := two_sh hp hq rfl
theorem m_share_of {t b : Int} (h0 : b ≠ 0) (hb : Sd b) : mf_share_of [.int t, .int b] = some (.val (sh (Rat.divInt t b))) := if_pos ⟨h0, hb⟩

def ms_common : AS → Nat := fun st => match st[1]? with
  | some (Slot.dat (.int b)) => b.natAbs + 1
  | _ => 0
def g_common : SF := (seqS (par2 0 1 (consA (un1 kAbs (rd 0)) (consA (un1 kAbs (rd 1)) nilA))) (seqS (whileS (valB (bin2 kNe (rd 1) (cst (.int 0)))) (par2 0 1 (consA (rd 1) (consA (bin2 kMod (rd 0) (rd 1)) nilA))) ms_common) (retS (rd 0))))
def g_share_of : SF := (seqS (ifS (valB (bin2 kEq (rd 1) (cst (.int 0)))) neverS skipS) (seqS (asgS 2 (rvD (callP mf_common [] (consA (rd 0) (consA (rd 1) nilA))))) (seqS (ifS (valB (bin2 kLt (rd 1) (cst (.int 0)))) (asgS 2 (un1 kNeg (rd 2))) skipS) (retS (tupF (consA (bin2 kDiv (rd 0) (rd 2)) (consA (bin2 kDiv (rd 1) (rd 2)) nilA)))))))
def g_plus : SF := (retS (rvD (callP mf_share_of [] (consA (bin2 kCat (bin2 kMul (bin2 kIx (rd 0) (cst (.int 0))) (bin2 kIx (rd 1) (cst (.int 1)))) (bin2 kMul (bin2 kIx (rd 1) (cst (.int 0))) (bin2 kIx (rd 0) (cst (.int 1))))) (consA (bin2 kMul (bin2 kIx (rd 0) (cst (.int 1))) (bin2 kIx (rd 1) (cst (.int 1)))) nilA)))))
def g_less : SF := (retS (rvD (callP mf_share_of [] (consA (bin2 kSub (bin2 kMul (bin2 kIx (rd 0) (cst (.int 0))) (bin2 kIx (rd 1) (cst (.int 1)))) (bin2 kMul (bin2 kIx (rd 1) (cst (.int 0))) (bin2 kIx (rd 0) (cst (.int 1))))) (consA (bin2 kMul (bin2 kIx (rd 0) (cst (.int 1))) (bin2 kIx (rd 1) (cst (.int 1)))) nilA)))))
def g_times : SF := (retS (rvD (callP mf_share_of [] (consA (bin2 kMul (bin2 kIx (rd 0) (cst (.int 0))) (bin2 kIx (rd 1) (cst (.int 0)))) (consA (bin2 kMul (bin2 kIx (rd 0) (cst (.int 1))) (bin2 kIx (rd 1) (cst (.int 1)))) nilA)))))
def g_over : SF := (retS (rvD (callP mf_share_of [] (consA (bin2 kMul (bin2 kIx (rd 0) (cst (.int 0))) (bin2 kIx (rd 1) (cst (.int 1)))) (consA (bin2 kMul (bin2 kIx (rd 0) (cst (.int 1))) (bin2 kIx (rd 1) (cst (.int 0)))) nilA)))))
def g_is_less : SF := (retS (bin2 kLt (bin2 kMul (bin2 kIx (rd 0) (cst (.int 0))) (bin2 kIx (rd 1) (cst (.int 1)))) (bin2 kMul (bin2 kIx (rd 1) (cst (.int 0))) (bin2 kIx (rd 0) (cst (.int 1))))))

theorem fmod_nat (a b : Nat) : Int.fmod (a : Int) (b : Int) = ((a % b : Nat) : Int) := by
  rw [Int.fmod_eq_emod_of_nonneg _ (by omega)]
  rfl
theorem common_loop : ∀ (n a b : Nat), b < n → ∃ c : Nat, whileN (valB (bin2 kNe (rd 1) (cst (.int 0)))) (par2 0 1 (consA (rd 1) (consA (bin2 kMod (rd 0) (rd 1)) nilA))) n [Slot.dat (.int a), Slot.dat (.int b)] = some (.nx, [Slot.dat (.int (Nat.gcd a b)), Slot.dat (.int c)])
  | 0, a, b, h => by omega
  | n + 1, a, b, h => by
    by_cases hb : b = 0
    · subst hb
      exact ⟨0, by simp [whileN]⟩
    · obtain ⟨c, hc⟩ := common_loop n b (a % b) (by have := Nat.mod_lt a (by omega : b > 0); omega)
      refine ⟨c, ?_⟩
      have hb' : ((b : Int) = 0) = False := by simp; omega
      have hm : kMod (.int (a : Int)) (.int (b : Int)) = some (.int ((a % b : Nat) : Int)) := by rw [k_mod (by omega), fmod_nat]
      have hg : Nat.gcd a b = Nat.gcd b (a % b) := by rw [Nat.gcd_comm a b, Nat.gcd_rec b a, Nat.gcd_comm]
      rw [hg, ← hc]
      simp [whileN, hb', hm, hb]
theorem e_common : ∀ ds r, ds.length = 2 → mf_common ds = some r → Leaves g_common (st0 2 ds) r fun _ => True := by
  intro ds r hlen h
  clear hlen
  unfold mf_common at h
  split at h <;> cases h
  rename_i a b
  obtain ⟨c, hc⟩ := common_loop (b.natAbs + 1) a.natAbs b.natAbs (by omega)
  refine ⟨[Slot.dat (.int (Int.gcd a b)), Slot.dat (.int c)], .inl ?_, trivial⟩
  simp [g_common, whileS, ms_common, hc, Int.gcd]
theorem fdiv_neg' (a b : Int) : a.fdiv (-b) = (-a).fdiv b := by
  rw [show a.fdiv (-b) = (-(-a)).fdiv (-b) by rw [Int.neg_neg], Int.neg_fdiv_neg]
theorem sh_divInt {t b : Int} (hb : b ≠ 0) : sh (Rat.divInt t b) = .tuple [.int (t.fdiv (if b < 0 then -(Int.gcd t b : Int) else Int.gcd t b)), .int (b.fdiv (if b < 0 then -(Int.gcd t b : Int) else Int.gcd t b))] := by
  have hg : (0 : Int) < Int.gcd t b := by
    have := Int.gcd_pos_of_ne_zero_right t hb
    omega
  have d1 : (Int.gcd t b : Int) ∣ t := Int.gcd_dvd_left ..
  have d2 : (Int.gcd t b : Int) ∣ b := Int.gcd_dvd_right ..
  unfold sh
  rw [Rat.num_divInt, Rat.den_divInt, if_neg hb, Int.gcd_comm b t]
  have e2 : ((b.natAbs / Int.gcd t b : Nat) : Int) = (b.natAbs : Int) / (Int.gcd t b : Int) := rfl
  rw [e2]
  split
  · rename_i hneg
    rw [fdiv_neg', fdiv_neg', Int.fdiv_eq_ediv_of_nonneg _ (by omega), Int.fdiv_eq_ediv_of_nonneg _ (by omega), Int.sign_eq_neg_one_of_neg hneg]
    have : (b.natAbs : Int) = -b := by omega
    rw [this]
    simp
  · rename_i hpos
    rw [Int.fdiv_eq_ediv_of_nonneg _ (by omega), Int.fdiv_eq_ediv_of_nonneg _ (by omega), Int.sign_eq_one_of_pos (by omega)]
    have : (b.natAbs : Int) = b := by omega
    rw [this]
    simp
theorem sd_gcd {t b : Int} (hb : b ≠ 0) (h : Sd b) : Sd (Int.gcd t b : Int) := by
  refine sd_le ?_ h
  have : Int.gcd t b ∣ b.natAbs := Int.natAbs_dvd_natAbs.mpr (Int.gcd_dvd_right ..) |> fun z => by simpa using z
  have := Nat.le_of_dvd (by omega) this
  simpa using this
theorem e_share_of : ∀ ds r, ds.length = 2 → mf_share_of ds = some r → Leaves g_share_of (st0 3 ds) r fun _ => True := by
  intro ds r hlen h
  clear hlen
  unfold mf_share_of at h
  split at h
  · rename_i t b
    split at h <;> cases h
    rename_i hb
    obtain ⟨h0, hs⟩ := hb
    have hg : (0 : Int) < Int.gcd t b := by
      have := Int.gcd_pos_of_ne_zero_right t h0
      omega
    have sg := sd_gcd (t := t) h0 hs
    have d1 : ∀ i : Int, kDiv (.int i) (.int (Int.gcd t b : Int)) = some (.int (i.fdiv (Int.gcd t b : Int))) := fun i => k_div (by omega) sg
    have d2 : ∀ i : Int, kDiv (.int i) (.int (-(Int.gcd t b : Int))) = some (.int (i.fdiv (-(Int.gcd t b : Int)))) := fun i => k_div (by omega) (sd_neg sg)
    rw [sh_divInt h0]
    by_cases hn : b < 0
    · exact leave (by simp [g_share_of, h0, mf_common, hn, d2])
    · exact leave (by simp [g_share_of, h0, mf_common, hn, d1])
  · cases h
theorem den_ne (q : Rat) : (q.den : Int) ≠ 0 := by have := q.den_pos; omega
theorem den2_ne (p q : Rat) : (p.den : Int) * q.den ≠ 0 := Int.mul_ne_zero (den_ne p) (den_ne q)
theorem add_divInt (p q : Rat) : Rat.divInt (p.num * q.den + q.num * p.den) (p.den * q.den) = p + q := by
  rw [Rat.add_def', ← Rat.divInt_ofNat]
  rfl
theorem sub_divInt (p q : Rat) : Rat.divInt (p.num * q.den - q.num * p.den) (p.den * q.den) = p - q := by
  rw [Rat.sub_def', ← Rat.divInt_ofNat]
  rfl
theorem mul_divInt (p q : Rat) : Rat.divInt (p.num * q.num) (p.den * q.den) = p * q := by
  rw [Rat.mul_def', ← Rat.divInt_ofNat]
  rfl
theorem div_divInt (p q : Rat) (h : q ≠ 0) : Rat.divInt (p.num * q.den) (p.den * q.num) = p / q := by
  have hq : (q.num : Rat) ≠ 0 := by
    intro z
    exact h (Rat.num_eq_zero.mp (by exact_mod_cast z))
  have hp : ((p.den : Int) : Rat) ≠ 0 := by
    have := p.den_pos
    intro z
    have : (p.den : Int) = 0 := by exact_mod_cast z
    omega
  have hqd : ((q.den : Int) : Rat) ≠ 0 := by
    have := q.den_pos
    intro z
    have : (q.den : Int) = 0 := by exact_mod_cast z
    omega
  have e1 : p = (p.num : Rat) / ((p.den : Int) : Rat) := by rw [← Rat.divInt_eq_div, Rat.num_divInt_den]
  have e2 : q = (q.num : Rat) / ((q.den : Int) : Rat) := by rw [← Rat.divInt_eq_div, Rat.num_divInt_den]
  rw [Rat.divInt_eq_div, Rat.intCast_mul, Rat.intCast_mul]
  generalize (p.num : Rat) = a at *
  generalize ((p.den : Int) : Rat) = b at *
  generalize (q.num : Rat) = c at *
  generalize ((q.den : Int) : Rat) = d at *
  subst e1 e2
  grind
theorem e_plus : ∀ ds r, ds.length = 2 → mf_plus ds = some r → Leaves g_plus (st0 2 ds) r fun _ => True := by
  intro ds r hlen h
  clear hlen
  obtain ⟨p, q, d, rfl, hp, hq, hk, rfl⟩ := two_eq h
  cases hk
  refine leave ?_
  simp [g_plus, sh, k_mul hp.1 hq.2, k_mul hq.1 hp.2, k_mul hp.2 hq.2, m_share_of (den2_ne p q) (sd_mul hp.2 hq.2), add_divInt]
theorem e_less : ∀ ds r, ds.length = 2 → mf_less ds = some r → Leaves g_less (st0 2 ds) r fun _ => True := by
  intro ds r hlen h
  clear hlen
  obtain ⟨p, q, d, rfl, hp, hq, hk, rfl⟩ := two_eq h
  cases hk
  refine leave ?_
  simp [g_less, sh, k_mul hp.1 hq.2, k_mul hq.1 hp.2, k_mul hp.2 hq.2, m_share_of (den2_ne p q) (sd_mul hp.2 hq.2), sub_divInt]
theorem e_times : ∀ ds r, ds.length = 2 → mf_times ds = some r → Leaves g_times (st0 2 ds) r fun _ => True := by
  intro ds r hlen h
  clear hlen
  obtain ⟨p, q, d, rfl, hp, hq, hk, rfl⟩ := two_eq h
  cases hk
  refine leave ?_
  simp [g_times, sh, k_mul hp.1 hq.1, k_mul hp.2 hq.2, m_share_of (den2_ne p q) (sd_mul hp.2 hq.2), mul_divInt]
theorem e_over : ∀ ds r, ds.length = 2 → mf_over ds = some r → Leaves g_over (st0 2 ds) r fun _ => True := by
  intro ds r hlen h
  clear hlen
  obtain ⟨p, q, d, rfl, hp, hq, hk, rfl⟩ := two_eq h
  split at hk <;> cases hk
  rename_i h0
  have hn : q.num ≠ 0 := fun z => h0 (Rat.num_eq_zero.mp z)
  refine leave ?_
  simp [g_over, sh, k_mul hp.1 hq.2, k_mul hp.2 hq.1, m_share_of (Int.mul_ne_zero (den_ne p) hn) (sd_mul hp.2 hq.1), div_divInt p q h0]
theorem e_is_less : ∀ ds r, ds.length = 2 → mf_is_less ds = some r → Leaves g_is_less (st0 2 ds) r fun _ => True := by
  intro ds r hlen h
  clear hlen
  obtain ⟨p, q, d, rfl, hp, hq, hk, rfl⟩ := two_eq h
  cases hk
  refine leave ?_
  simp [g_is_less, sh, k_mul hp.1 hq.2, k_mul hq.1 hp.2, Rat.lt_iff]
end Xm

set_option Elab.async false
set_option linter.all false
set_option maxRecDepth 100000
namespace Xm
open PySem PySem.Spec PyProof.Rows L2

theorem ite_eq {α : Type} {c : Prop} [Decidable c] {a b : α} (h : (if c then some a else none) = some b) : c ∧ a = b := by
  by_cases hc : c
  · rw [if_pos hc] at h
    exact ⟨hc, Option.some.inj h⟩
  · rw [if_neg hc] at h
    cases h
/-! ### sizes of rational numbers -/
def Bq (k : Nat) (q : Rat) : Prop := q.num.natAbs < 2 ^ k ∧ q.den < 2 ^ k
theorem Bq.mono {j k : Nat} {q : Rat} (h : Bq j q) (l : j ≤ k) : Bq k q :=
  ⟨Nat.lt_of_lt_of_le h.1 (Nat.pow_le_pow_right (by omega) l), Nat.lt_of_lt_of_le h.2 (Nat.pow_le_pow_right (by omega) l)⟩
theorem Bq.sm {k : Nat} {q : Rat} (h : Bq k q) (l : k ≤ 4000) : SmQ q := ⟨sm_of h.1 l, sm_of (k := k) (by have := h.2; omega) l⟩
theorem num_le (a b : Int) : (Rat.divInt a b).num.natAbs ≤ a.natAbs := by
  rw [Rat.num_divInt]
  rw [Int.natAbs_ediv_of_dvd (by
    rw [Int.gcd_comm]
    exact Int.dvd_trans (Int.gcd_dvd_left ..) (Int.dvd_mul_left ..)), Int.natAbs_mul]
  have : b.sign.natAbs ≤ 1 := by
    rcases Int.lt_trichotomy b 0 with h | h | h
    · rw [Int.sign_eq_neg_one_of_neg h]; decide
    · subst h; decide
    · rw [Int.sign_eq_one_of_pos h]; decide
  calc b.sign.natAbs * a.natAbs / (b.gcd a : Int).natAbs ≤ b.sign.natAbs * a.natAbs := Nat.div_le_self ..
    _ ≤ 1 * a.natAbs := Nat.mul_le_mul_right _ this
    _ = a.natAbs := Nat.one_mul _
theorem den_le (a : Int) {b : Int} (hb : b ≠ 0) : (Rat.divInt a b).den ≤ b.natAbs := by
  rw [Rat.den_divInt, if_neg hb]
  exact Nat.div_le_self ..
theorem bq_divInt {k : Nat} {a b : Int} (hb : b ≠ 0) (h1 : a.natAbs < 2 ^ k) (h2 : b.natAbs < 2 ^ k) : Bq k (Rat.divInt a b) := ⟨Nat.lt_of_le_of_lt (num_le a b) h1, Nat.lt_of_le_of_lt (den_le a hb) h2⟩
theorem mul_lt {a b : Int} {j k : Nat} (h1 : a.natAbs < 2 ^ j) (h2 : b.natAbs < 2 ^ k) : (a * b).natAbs < 2 ^ (j + k) := wide_lt h1 h2
theorem den_lt {k : Nat} {q : Rat} (h : Bq k q) : (q.den : Int).natAbs < 2 ^ k := by simpa using h.2
theorem Bq.mul {j k : Nat} {p q : Rat} (hp : Bq j p) (hq : Bq k q) : Bq (j + k) (p * q) := by
  rw [← mul_divInt]
  exact bq_divInt (den2_ne p q) (mul_lt hp.1 hq.1) (mul_lt (den_lt hp) (den_lt hq))
theorem Bq.add {j k : Nat} {p q : Rat} (hp : Bq j p) (hq : Bq k q) : Bq (j + k + 1) (p + q) := by
  rw [← add_divInt]
  have h1 := mul_lt hp.1 (den_lt hq)
  have h2 := mul_lt hq.1 (den_lt hp)
  have h3 := mul_lt (den_lt hp) (den_lt hq)
  rw [Nat.add_comm k j] at h2
  refine bq_divInt (den2_ne p q) ?_ ?_ <;> rw [Nat.pow_succ] <;> omega
theorem Bq.sub {j k : Nat} {p q : Rat} (hp : Bq j p) (hq : Bq k q) : Bq (j + k + 1) (p - q) := by
  rw [← sub_divInt]
  have h1 := mul_lt hp.1 (den_lt hq)
  have h2 := mul_lt hq.1 (den_lt hp)
  have h3 := mul_lt (den_lt hp) (den_lt hq)
  rw [Nat.add_comm k j] at h2
  refine bq_divInt (den2_ne p q) ?_ ?_ <;> rw [Nat.pow_succ] <;> omega
theorem Bq.div {j k : Nat} {p q : Rat} (hp : Bq j p) (hq : Bq k q) (h0 : q ≠ 0) : Bq (j + k) (p / q) := by
  rw [← div_divInt p q h0]
  exact bq_divInt (Int.mul_ne_zero (den_ne p) fun z => h0 (Rat.num_eq_zero.mp z)) (mul_lt hp.1 (den_lt hq)) (mul_lt (den_lt hp) hq.1)
theorem bq_0 : Bq 1 0 := ⟨by decide, by decide⟩
theorem bq_1 : Bq 1 1 := ⟨by decide, by decide⟩
theorem bq_2 : Bq 2 2 := ⟨by decide, by decide⟩
theorem bq_h : Bq 2 (1 / 2) := ⟨by decide +kernel, by decide +kernel⟩

/-! ### shares compared, named -/
theorem c_01 : (PyData.tuple [.int 0, .int 1]) = sh 0 := rfl
theorem c_11 : (PyData.tuple [.int 1, .int 1]) = sh 1 := rfl
theorem c_21 : (PyData.tuple [.int 2, .int 1]) = sh 2 := rfl
theorem c_12 : (PyData.tuple [.int 1, .int 2]) = sh (1 / 2) := by
  show _ = PyData.tuple [.int (1 / 2 : Rat).num, .int (1 / 2 : Rat).den]
  rw [show (1 / 2 : Rat).num = 1 by decide +kernel, show (1 / 2 : Rat).den = 2 by decide +kernel]
  rfl
theorem shaped_sh (q : Rat) : SeqAt.shaped (sh q) = true := rfl
theorem eqv_sh (p q : Rat) : PyData.eqv (sh p) (sh q) = decide (p = q) := by
  unfold sh
  simp only [PyData.eqv, PyData.eqvAll, Bool.and_true]
  rw [Bool.eq_iff_iff]
  simp only [Bool.and_eq_true, beq_iff_eq, decide_eq_true_eq]
  constructor
  · rintro ⟨h1, h2⟩
    exact Rat.ext h1 (by omega)
  · rintro rfl
    exact ⟨rfl, rfl⟩
theorem k_eqS (p q : Rat) : kEq (sh p) (sh q) = some (.bool (decide (p = q))) := by
  show kEqD _ _ = _
  unfold kEqD
  rw [if_pos ⟨rfl, rfl⟩, eqv_sh]
theorem k_neS (p q : Rat) : kNe (sh p) (sh q) = some (.bool (!decide (p = q))) := by
  show kNeD _ _ = _
  unfold kNeD
  rw [if_pos ⟨rfl, rfl⟩, eqv_sh]
theorem k_neB (a b : Bool) : kNe (.bool a) (.bool b) = some (.bool (a != b)) := by
  show kNeD _ _ = _
  unfold kNeD
  rw [if_pos ⟨rfl, rfl⟩]
  simp only [PyData.eqv]
  rfl
theorem k_eqB (a b : Bool) : kEq (.bool a) (.bool b) = some (.bool (a == b)) := by
  show kEqD _ _ = _
  unfold kEqD
  rw [if_pos ⟨rfl, rfl⟩]
  simp only [PyData.eqv]
theorem k_inS2 (p a b : Rat) : kIn (sh p) (.tuple [sh a, sh b]) = some (.bool (decide (a = p) || decide (b = p))) := by
  show (if SeqAt.shaped (sh p) = true ∧ SeqAt.shaped (.tuple [sh a, sh b]) = true then some (PyData.bool ([sh a, sh b].any fun z => PyData.eqv z (sh p))) else none) = _
  rw [if_pos ⟨rfl, rfl⟩]
  simp [eqv_sh]

/-! ### crossmarks/far.py -/
/-- a share of crossing -/
def GQ (k : Nat) (q : Rat) : Prop := 0 ≤ q ∧ q ≤ 1 / 2 ∧ q.den < 2 ^ k
instance (k : Nat) (q : Rat) : Decidable (GQ k q) := by unfold GQ; infer_instance
def farQ (p q : Rat) : Rat := p + q - 2 * (p * q)
theorem GQ.mono {j k : Nat} {q : Rat} (h : GQ j q) (l : j ≤ k) : GQ k q := ⟨h.1, h.2.1, Nat.lt_of_lt_of_le h.2.2 (Nat.pow_le_pow_right (by omega) l)⟩
theorem GQ.bq {k : Nat} {q : Rat} (h : GQ k q) : Bq k q := by
  refine ⟨?_, h.2.2⟩
  have h1 : 0 ≤ q.num := Rat.num_nonneg.mpr h.1
  have h2 := (Rat.le_iff _ _).mp h.2.1
  rw [show (1 / 2 : Rat).num = 1 by decide +kernel, show (1 / 2 : Rat).den = 2 by decide +kernel] at h2
  have := h.2.2
  omega
theorem far_divInt (p q : Rat) : farQ p q = Rat.divInt (p.num * q.den + q.num * p.den - 2 * (p.num * q.num)) (p.den * q.den) := by
  have hp : ((p.den : Int) : Rat) ≠ 0 := by
    have := p.den_pos
    intro z
    have : (p.den : Int) = 0 := by exact_mod_cast z
    omega
  have hq : ((q.den : Int) : Rat) ≠ 0 := by
    have := q.den_pos
    intro z
    have : (q.den : Int) = 0 := by exact_mod_cast z
    omega
  have e1 : p = (p.num : Rat) / ((p.den : Int) : Rat) := by rw [← Rat.divInt_eq_div, Rat.num_divInt_den]
  have e2 : q = (q.num : Rat) / ((q.den : Int) : Rat) := by rw [← Rat.divInt_eq_div, Rat.num_divInt_den]
  unfold farQ
  rw [Rat.divInt_eq_div, Rat.intCast_sub, Rat.intCast_add, Rat.intCast_mul, Rat.intCast_mul, Rat.intCast_mul, Rat.intCast_mul, Rat.intCast_mul]
  generalize (p.num : Rat) = a at *
  generalize ((p.den : Int) : Rat) = b at *
  generalize (q.num : Rat) = c at *
  generalize ((q.den : Int) : Rat) = d at *
  subst e1 e2
  show _ = (a * d + c * b - 2 * (a * c)) / (b * d)
  grind
theorem far_rng {p q : Rat} (h1 : 0 ≤ p) (h2 : p ≤ 1 / 2) (h3 : 0 ≤ q) (h4 : q ≤ 1 / 2) : 0 ≤ farQ p q ∧ farQ p q ≤ 1 / 2 ∧ p ≤ farQ p q ∧ q ≤ farQ p q ∧ farQ p q ≤ p + q := by
  have a1 : 0 ≤ q * (1 - 2 * p) := Rat.mul_nonneg h3 (by grind)
  have a2 : 0 ≤ p * (1 - 2 * q) := Rat.mul_nonneg h1 (by grind)
  have a3 : 0 ≤ (1 - 2 * p) * (1 - 2 * q) := Rat.mul_nonneg (by grind) (by grind)
  have a4 : 0 ≤ p * q := Rat.mul_nonneg h1 h3
  unfold farQ
  refine ⟨?_, ?_, ?_, ?_, ?_⟩ <;> grind
theorem GQ.far {j k : Nat} {p q : Rat} (hp : GQ j p) (hq : GQ k q) : GQ (j + k) (farQ p q) := by
  obtain ⟨r1, r2, _⟩ := far_rng hp.1 hp.2.1 hq.1 hq.2.1
  refine ⟨r1, r2, ?_⟩
  rw [far_divInt]
  refine Nat.lt_of_le_of_lt (den_le _ (den2_ne p q)) ?_
  exact mul_lt (den_lt hp.bq) (den_lt hq.bq)
theorem farQ_0 (q : Rat) : farQ 0 q = q := by unfold farQ; grind
theorem farQ_r0 (q : Rat) : farQ q 0 = q := by unfold farQ; grind
theorem farQ_comm (p q : Rat) : farQ p q = farQ q p := by unfold farQ; grind
theorem farQ_assoc (p q r : Rat) : farQ (farQ p q) r = farQ p (farQ q r) := by unfold farQ; grind
def mf_far : List D → Option RV
  | [x, y] => (toQ x).bind fun p => (toQ y).bind fun q => if GQ 1000 p ∧ GQ 1000 q then some (.val (sh (farQ p q))) else none
  | _ => none
theorem m_far {p q : Rat} (hp : GQ 1000 p) (hq : GQ 1000 q) : mf_far [sh p, sh q] = some (.val (sh (farQ p q))) := by
  unfold mf_far
  simp only [toQ_sh, Option.bind_some]
  rw [if_pos ⟨hp, hq⟩]
def g_far : SF := (retS (rvD (callP mf_less [] (consA (rvD (callP mf_plus [] (consA (rd 0) (consA (rd 1) nilA)))) (consA (rvD (callP mf_times [] (consA (cst (.tuple [(.int 2), (.int 1)])) (consA (rvD (callP mf_times [] (consA (rd 0) (consA (rd 1) nilA)))) nilA)))) nilA)))))
theorem e_far : ∀ ds r, ds.length = 2 → mf_far ds = some r → Leaves g_far (st0 2 ds) r fun _ => True := by
  intro ds r hlen h
  clear hlen
  unfold mf_far at h
  split at h
  · obtain ⟨p, hp, h⟩ := Option.bind_eq_some_iff.mp h
    obtain ⟨q, hq, h⟩ := Option.bind_eq_some_iff.mp h
    obtain ⟨⟨gp, gq⟩, rfl⟩ := ite_eq h
    rw [toQ_eq hp, toQ_eq hq]
    have bp := gp.bq
    have bq := gq.bq
    have s1 := bp.sm (by omega)
    have s2 := bq.sm (by omega)
    have s3 := (bp.add bq).sm (by omega)
    have s4 := (bp.mul bq).sm (by omega)
    have s5 := (bq_2.mul (bp.mul bq)).sm (by omega)
    have s6 := bq_2.sm (by omega)
    refine leave ?_
    simp [g_far, m_plus s1 s2, m_times s1 s2, c_21, m_times s6 s4, m_less s3 s5, farQ]
  · cases h
/-- some shares, a list or a tuple of them -/
def qs : List D → Option (List Rat)
  | [] => some []
  | d :: ds => (toQ d).bind fun q => (qs ds).map fun r => q :: r
theorem qs_eq : ∀ {ds : List D} {r : List Rat}, qs ds = some r → ds = r.map sh
  | [], r, h => by cases h; rfl
  | d :: ds, r, h => by
    obtain ⟨q, hq, h⟩ := Option.bind_eq_some_iff.mp h
    obtain ⟨l, hl, rfl⟩ := Option.map_eq_some_iff.mp h
    rw [toQ_eq hq, qs_eq hl]
    rfl
theorem qs_sh : ∀ l : List Rat, qs (l.map sh) = some l
  | [] => rfl
  | q :: l => by
    show (toQ (sh q)).bind (fun q => (qs (l.map sh)).map fun r => q :: r) = _
    rw [toQ_sh, qs_sh l]
    rfl
def seqD : D → Option (List D)
  | .list xs => some xs
  | .tuple xs => some xs
  | _ => none
def farL (l : List Rat) : Rat := l.foldl farQ 0
def mf_far_along : List D → Option RV
  | [x] => (seqD x).bind fun xs => (qs xs).bind fun l => if (∀ q ∈ l, GQ 14 q) ∧ l.length ≤ 60 then some (.val (sh (farL l))) else none
  | _ => none
theorem m_far_alongL {l : List Rat} (h : ∀ q ∈ l, GQ 14 q) (hl : l.length ≤ 60) : mf_far_along [.list (l.map sh)] = some (.val (sh (farL l))) := by
  unfold mf_far_along
  simp only [seqD, Option.bind_some, qs_sh]
  rw [if_pos ⟨h, hl⟩]
theorem m_far_alongT {l : List Rat} (h : ∀ q ∈ l, GQ 14 q) (hl : l.length ≤ 60) : mf_far_along [.tuple (l.map sh)] = some (.val (sh (farL l))) := by
  unfold mf_far_along
  simp only [seqD, Option.bind_some, qs_sh]
  rw [if_pos ⟨h, hl⟩]
def g_far_along : SF := (seqS (asgS 1 (cst (.tuple [(.int 0), (.int 1)]))) (seqS (forS (itD (rd 0)) (setD 2) (asgS 1 (rvD (callP mf_far [] (consA (rd 1) (consA (rd 2) nilA)))))) (retS (rd 1))))
theorem gq_foldl : ∀ (l : List Rat) (k : Nat) (q : Rat), GQ k q → (∀ x ∈ l, GQ 14 x) → GQ (k + 14 * l.length) (l.foldl farQ q)
  | [], k, q, h, _ => h
  | x :: l, k, q, h, hl => by
    have := gq_foldl l (k + 14) (farQ q x) (h.far (hl x List.mem_cons_self)) fun y hy => hl y (List.mem_cons_of_mem _ hy)
    refine this.mono ?_
    rw [List.length_cons]
    omega
theorem along_loop : ∀ (l : List Rat) (k : Nat) (q : Rat) (x y : Slot), GQ k q → (∀ x ∈ l, GQ 14 x) → k + 14 * l.length ≤ 986 → (∀ xs, y ≠ .pen xs) →
    ∃ y', loopS (setD 2) (asgS 1 (rvD (callP mf_far [] (consA (rd 1) (consA (rd 2) nilA))))) (l.map sh) [x, .dat (sh q), y] = some (.nx, [x, .dat (sh (l.foldl farQ q)), y'])
  | [], k, q, x, y, h, _, _, _ => ⟨y, rfl⟩
  | p :: l, k, q, x, y, h, hl, hk, hy => by
    rw [List.length_cons] at hk
    have hp := hl p List.mem_cons_self
    obtain ⟨y', e⟩ := along_loop l (k + 14) (farQ q p) x (.dat (sh p)) (h.far hp) (fun y hy => hl y (List.mem_cons_of_mem _ hy)) (by omega) (fun xs z => nomatch z)
    refine ⟨y', ?_⟩
    rw [List.foldl_cons, ← e]
    have hs : setD 2 (sh p) [x, .dat (sh q), y] = some [x, .dat (sh q), .dat (sh p)] := by
      cases y with
      | pen xs => exact absurd rfl (hy xs)
      | no => rfl
      | dat d => rfl
      | own xs => rfl
      | dct xs => rfl
    simp only [List.map_cons, loopS, hs, Option.bind_some]
    simp [m_far (h.mono (by omega)) (hp.mono (by omega))]
theorem gq_0 (k : Nat) : GQ (k + 1) 0 := ⟨by decide +kernel, by decide +kernel, by
  show 1 < 2 ^ (k + 1)
  have := Nat.one_lt_two_pow (n := k + 1) (by omega)
  exact this⟩
theorem e_far_along : ∀ ds r, ds.length = 1 → mf_far_along ds = some r → Leaves g_far_along (st0 3 ds) r fun _ => True := by
  intro ds r hlen h
  clear hlen
  unfold mf_far_along at h
  split at h
  · rename_i x
    obtain ⟨xs, hx, h⟩ := Option.bind_eq_some_iff.mp h
    obtain ⟨l, hl, h⟩ := Option.bind_eq_some_iff.mp h
    obtain ⟨hs, rfl⟩ := ite_eq h
    have e := qs_eq hl
    subst e
    obtain ⟨y', e⟩ := along_loop l 1 0 (.dat x) .no (gq_0 0) hs.1 (by omega) (fun xs z => nomatch z)
    have hit : itD (rd 0) [Slot.dat x, Slot.dat (sh 0), Slot.no] = some (l.map sh, [Slot.dat x, Slot.dat (sh 0), Slot.no]) := by
      unfold seqD at hx
      split at hx <;> cases hx <;> simp
    refine leave ?_
    have hfor : forS (itD (rd 0)) (setD 2) (asgS 1 (rvD (callP mf_far [] (consA (rd 1) (consA (rd 2) nilA))))) [Slot.dat x, Slot.dat (sh 0), Slot.no] = some (.nx, [Slot.dat x, .dat (sh (l.foldl farQ 0)), y']) := by
      unfold forS
      rw [hit]
      exact e
    simp only [g_far_along, e_seqS, e_asgS, e_cst, e_st0, c_01]
    simp [hfor, farL]
  · cases h
def mf_near : List D → Option RV
  | [x, y] => (toQ x).bind fun c => (toQ y).bind fun a => if GQ 1000 c ∧ GQ 1000 a ∧ a ≠ 1 / 2 ∧ 0 ≤ (c - a) / (1 - 2 * a) ∧ (c - a) / (1 - 2 * a) ≤ 1 / 2 then some (.val (sh ((c - a) / (1 - 2 * a)))) else none
  | _ => none
theorem m_near {c a : Rat} (hc : GQ 1000 c) (ha : GQ 1000 a) (h : a ≠ 1 / 2) (h0 : 0 ≤ (c - a) / (1 - 2 * a)) (h1 : (c - a) / (1 - 2 * a) ≤ 1 / 2) : mf_near [sh c, sh a] = some (.val (sh ((c - a) / (1 - 2 * a)))) := by
  unfold mf_near
  simp only [toQ_sh, Option.bind_some]
  rw [if_pos ⟨hc, ha, h, h0, h1⟩]
def g_near : SF := (seqS (asgS 2 (rvD (callP mf_over [] (consA (rvD (callP mf_less [] (consA (rd 0) (consA (rd 1) nilA)))) (consA (rvD (callP mf_less [] (consA (cst (.tuple [(.int 1), (.int 1)])) (consA (rvD (callP mf_times [] (consA (cst (.tuple [(.int 2), (.int 1)])) (consA (rd 1) nilA)))) nilA)))) nilA))))) (seqS (ifS (orB (valB (rvD (callP mf_is_less [] (consA (rd 2) (consA (cst (.tuple [(.int 0), (.int 1)])) nilA))))) (valB (rvD (callP mf_is_less [] (consA (cst (.tuple [(.int 1), (.int 2)])) (consA (rd 2) nilA)))))) neverS skipS) (retS (rd 2))))
theorem e_near : ∀ ds r, ds.length = 2 → mf_near ds = some r → Leaves g_near (st0 3 ds) r fun _ => True := by
  intro ds r hlen h
  clear hlen
  unfold mf_near at h
  split at h
  · obtain ⟨c, hc, h⟩ := Option.bind_eq_some_iff.mp h
    obtain ⟨a, ha, h⟩ := Option.bind_eq_some_iff.mp h
    obtain ⟨⟨gc, ga, hne, h0, h1⟩, rfl⟩ := ite_eq h
    rw [toQ_eq hc, toQ_eq ha]
    have bc := gc.bq
    have ba := ga.bq
    have b1 := bc.sub ba
    have b2 := bq_2.mul ba
    have b3 := bq_1.sub b2
    have hz : 1 - 2 * a ≠ 0 := by grind
    have b4 := b1.div b3 hz
    have s0 := bc.sm (by omega)
    have s1 := ba.sm (by omega)
    have s2 := bq_2.sm (by omega)
    have s3 := b2.sm (by omega)
    have s4 := b1.sm (by omega)
    have s5 := b3.sm (by omega)
    have s6 := b4.sm (by omega)
    have s7 := bq_0.sm (by omega)
    have s8 := bq_h.sm (by omega)
    have s9 := bq_1.sm (by omega)
    have n1 : ¬ (c - a) / (1 - 2 * a) < 0 := by grind
    have n2 : ¬ 1 / 2 < (c - a) / (1 - 2 * a) := by grind
    refine leave ?_
    simp only [g_near, c_01, c_11, c_12, c_21, e_seqS, e_asgS, e_rvD, e_callP, e_consA, e_nilA, e_rd, e_cst, e_st0, e_ifS, e_orB, e_valB]
    simp [m_less s0 s1, m_times s2 s1, m_less s9 s3, m_over s4 s5 hz, m_is_less s6 s7, m_is_less s8 s6, n1, n2]
  · cases h
end Xm

set_option Elab.async false
set_option linter.all false
set_option maxRecDepth 100000
namespace Xm
open PySem PySem.Spec PyProof.Rows L2

/-! ### a def's function, as its body runs -/
def runP (g : SF) (N : Nat) : List D → Option RV := fun ds => (g (st0 N ds)).bind fun w => match w.1 with
  | .ret r => some r
  | .nx => some (.val .none)
  | _ => none
def runQ (g : SF) (N : Nat) : List D → List D → Option (RV × List D) := fun xs ds => (g (st1 N xs ds)).bind fun w => match w.2[0]? with
  | some (Slot.pen ys) => (match w.1 with
    | .ret r => some (r, ys)
    | .nx => some (.val .none, ys)
    | _ => none)
  | _ => none
theorem runP_ok {g : SF} {N n : Nat} : ∀ ds r, ds.length = n → runP g N ds = some r → Leaves g (st0 N ds) r fun _ => True := by
  intro ds r _ h
  obtain ⟨w, hw, h⟩ := Option.bind_eq_some_iff.mp h
  obtain ⟨fl, st'⟩ := w
  cases fl with
  | ret r' => cases h; exact ⟨st', .inl hw, trivial⟩
  | nx => cases h; exact ⟨st', .inr ⟨hw, rfl⟩, trivial⟩
  | brk => cases h
  | cont => cases h
theorem runQ_ok {g : SF} {N n : Nat} : ∀ xs ds r, ds.length + 1 = n → runQ g N xs ds = some r → Leaves g (st1 N xs ds) r.1 fun st' => st'[0]? = some (.pen r.2) := by
  intro xs ds r _ h
  obtain ⟨w, hw, h⟩ := Option.bind_eq_some_iff.mp h
  obtain ⟨fl, st'⟩ := w
  dsimp only at h
  split at h
  · rename_i ys hy
    cases fl with
    | ret r' => cases h; exact ⟨st', .inl hw, hy⟩
    | nx => cases h; exact ⟨st', .inr ⟨hw, rfl⟩, hy⟩
    | brk => cases h
    | cont => cases h
  · cases h
theorem runP_of {g : SF} {N : Nat} {ds : List D} {r : RV} {st' : AS} (h : g (st0 N ds) = some (.ret r, st')) : runP g N ds = some r := by
  unfold runP
  rw [h]
  rfl
theorem runP_map {g : SF} {N : Nat} {ds : List D} {r : RV} (h : (g (st0 N ds)).map (·.1) = some (.ret r)) : runP g N ds = some r := by
  obtain ⟨w, hw, e⟩ := Option.map_eq_some_iff.mp h
  obtain ⟨fl, st'⟩ := w
  cases e
  exact runP_of hw
theorem runQ_of {g : SF} {N : Nat} {xs ds ys : List D} {r : RV} {st' : AS} (h : g (st1 N xs ds) = some (.ret r, st')) (hy : st'[0]? = some (.pen ys)) : runQ g N xs ds = some (r, ys) := by
  unfold runQ
  rw [h]
  simp only [Option.bind_some, hy]
/-- what is left of a state: its first slot -/
theorem runQ_map {g : SF} {N : Nat} {xs ds ys : List D} {r : RV} (h : (g (st1 N xs ds)).map (fun w => (w.1, w.2[0]?)) = some (.ret r, some (.pen ys))) : runQ g N xs ds = some (r, ys) := by
  obtain ⟨w, hw, e⟩ := Option.map_eq_some_iff.mp h
  obtain ⟨fl, st'⟩ := w
  obtain ⟨e1, e2⟩ := Prod.mk.inj e
  dsimp only at e1 e2
  subst e1
  exact runQ_of hw e2
/-- turns enough -/
def wt : Slot → Nat
  | .dat (.int i) => i.natAbs
  | .own xs => xs.length
  | .pen xs => xs.length
  | _ => 0
def msAll (st : AS) : Nat := 1 + (st.map wt).sum
theorem whileN_mono {c : BF} {b : SF} : ∀ {n m : Nat} {st : AS} {w : Fl × AS}, whileN c b n st = some w → n ≤ m → whileN c b m st = some w
  | 0, _, _, _, h, _ => by cases h
  | n + 1, 0, _, _, _, l => by omega
  | n + 1, m + 1, st, w, h, l => by
    unfold whileN at h ⊢
    obtain ⟨a, ea, h⟩ := Option.bind_eq_some_iff.mp h
    rw [ea]
    simp only [Option.bind_some]
    split at h
    · rename_i ht
      rw [if_pos ht]
      obtain ⟨v, ev, h⟩ := Option.bind_eq_some_iff.mp h
      rw [ev]
      simp only [Option.bind_some]
      obtain ⟨fl, s⟩ := v
      cases fl with
      | nx => exact whileN_mono h (by omega)
      | cont => exact whileN_mono h (by omega)
      | brk => exact h
      | ret r => exact h
    · rename_i ht
      rw [if_neg ht]
      exact h
theorem whileS_all {c : BF} {b : SF} {n : Nat} {st : AS} {w : Fl × AS} (h : whileN c b n st = some w) (l : n ≤ msAll st) : whileS c b msAll st = some w := whileN_mono h l
end Xm

set_option Elab.async false
set_option linter.all false
set_option maxRecDepth 100000
namespace Xm
open PySem PySem.Spec PyProof.Rows L2

/-! ### the pen: cells, how many are gone, what is left of a great one -/
def pen (cs : List Int) (u r : Int) : List D := [.list (cs.map PyData.int), .int u, .int r]
def PenOk (n : Nat) (xs : List D) : Prop := ∃ cs u r, xs = pen cs u r ∧ 0 ≤ u ∧ u ≤ n ∧ 0 ≤ r
theorem PenOk.mono {j k : Nat} {xs : List D} (h : PenOk j xs) (l : j ≤ k) : PenOk k xs := by
  obtain ⟨cs, u, r, e, h1, h2, h3⟩ := h
  exact ⟨cs, u, r, e, h1, by omega, h3⟩
theorem fm {a b : Int} (h : 0 < b) : a.fmod b = a % b := Int.fmod_eq_emod_of_nonneg _ (by omega)
theorem fd {a b : Int} (h : 0 < b) : a.fdiv b = a / b := Int.fdiv_eq_ediv_of_nonneg _ (by omega)
theorem k_modP {i j : Int} (h : 0 < j) : kMod (.int i) (.int j) = some (.int (i % j)) := by rw [k_mod (by omega), fm h]
theorem k_divP {i j : Int} (h : 0 < j) (hs : Sd j) : kDiv (.int i) (.int j) = some (.int (i / j)) := by rw [k_div (by omega) hs, fd h]
theorem k_powS {i : Int} {n : Nat} (hi : i.natAbs < 2 ^ 64) (hn : n ≤ 1000000) : kPow (.int i) (.int n) = some (.int (i ^ n)) := by
  show (if 0 ≤ (n : Int) ∧ (n : Int) ≤ 1000000 ∧ i.natAbs < 2 ^ 64 then some (PyData.int (i ^ (n : Int).toNat)) else none) = _
  rw [if_pos ⟨by omega, by omega, hi⟩]
  rfl
theorem sm64 {i : Int} (h : i.natAbs < 2 ^ 64) : Sm i := sm_of h (by omega)
theorem sd64 {i : Int} (h : i.natAbs < 2 ^ 64) : Sd i := sd_of (sm64 h)
theorem k_mulS {i j : Int} (hi : i.natAbs < 2 ^ 64) (hj : j.natAbs < 2 ^ 64) : kMul (.int i) (.int j) = some (.int (i * j)) := k_mul (sm64 hi) (sm64 hj)
/-- whether the list of cells is empty -/
theorem k_neCells' (cs : List Int) : kNe (.list (cs.map PyData.int)) (.list []) = some (.bool (decide (cs ≠ []))) := by
  have dp : ∀ l : List Int, PyData.depthAll (l.map PyData.int) ≤ 1 ∧ PyData.canLayAll0 (l.map PyData.int) = true := by
    intro l
    induction l with
    | nil => exact ⟨by simp [PyData.depthAll], rfl⟩
    | cons x l ih => exact ⟨by simp only [List.map_cons, PyData.depthAll, PyData.depth]; omega, by simp only [List.map_cons, PyData.canLayAll0, PyData.canLay0, ih.2, Bool.and_self]⟩
  have sp : SeqAt.shaped (.list (cs.map PyData.int)) = true := by
    unfold SeqAt.shaped
    rw [Bool.and_eq_true]
    refine ⟨by simp only [PyData.canLay0]; exact (dp cs).2, decide_eq_true ?_⟩
    simp only [PyData.depth]
    have := (dp cs).1
    omega
  show kNeD _ _ = _
  unfold kNeD
  rw [if_pos ⟨sp, rfl⟩]
  cases cs with
  | nil => simp [PyData.eqv, PyData.eqvAll]
  | cons x l => simp [PyData.eqv, PyData.eqvAll]
end Xm

set_option Elab.async false
set_option linter.all false
set_option maxRecDepth 100000
namespace Xm
open PySem PySem.Spec PyProof.Rows L2

/-! ### what may be told by repr -/
structure Rk (k n : Nat) (d : D) : Prop where
  sh : d.showable = true
  cl : d.canLay0 = true
  dp : d.depth ≤ k
  sz : d.shown.length ≤ n
theorem Rk.mono {j k m n : Nat} {d : D} (h : Rk j m d) (l : j ≤ k) (l2 : m ≤ n) : Rk k n d := ⟨h.sh, h.cl, Nat.le_trans h.dp l, Nat.le_trans h.sz l2⟩
theorem Rk.rp {k n : Nat} {d : D} (h : Rk k n d) (hk : k ≤ 64) (hn : n ≤ 16777216) : Rp d := ⟨h.sh, h.cl, Nat.le_trans h.dp hk, by rw [sizeLine_eq]; exact Nat.le_trans h.sz hn⟩
theorem Rk.int {i : Int} (h : i.natAbs < 2 ^ 1900) : Rk 0 600 (.int i) := by
  refine ⟨?_, rfl, Nat.le_refl 0, ?_⟩
  · show decide (i.natAbs.log2 < 1920) = true
    by_cases h0 : i.natAbs = 0
    · rw [h0]
      decide
    · exact decide_eq_true (Nat.lt_of_lt_of_le ((Nat.log2_lt h0).mpr h) (by omega))
  · simp only [PyData.shown]
    have e : (2 : Nat) ^ 1900 ≤ 10 ^ 599 := by decide +kernel
    rw [PySem.ofString_length]
    exact int_text_length_le10 (k := 599) (by omega) (Nat.lt_of_lt_of_le h e)
theorem Rk.bool (b : Bool) : Rk 0 600 (.bool b) := ⟨rfl, rfl, Nat.le_refl 0, by cases b <;> decide⟩
theorem Rk.none : Rk 0 600 .none := ⟨rfl, rfl, Nat.le_refl 0, by decide⟩
theorem rk_all {k n : Nat} : ∀ {ds : List D}, (∀ d ∈ ds, Rk k n d) → PyData.showableAll ds = true ∧ PyData.canLayAll0 ds = true ∧ PyData.depthAll ds ≤ k ∧ ((PyData.shownAll ds).map (·.length)).sum ≤ ds.length * n ∧ (PyData.shownAll ds).length = ds.length
  | [], _ => ⟨rfl, rfl, Nat.zero_le k, by simp [PyData.shownAll], rfl⟩
  | d :: ds, h => by
    have h1 := h d (.head _)
    obtain ⟨a1, a2, a3, a4, a5⟩ := rk_all (fun x hx => h x (.tail _ hx))
    refine ⟨by simp [PyData.showableAll, h1.sh, a1], by simp [PyData.canLayAll0, h1.cl, a2], by simpa [PyData.depthAll] using Nat.max_le.mpr ⟨h1.dp, a3⟩, ?_, by simp [PyData.shownAll, a5]⟩
    have := h1.sz
    simp only [PyData.shownAll, List.map_cons, List.sum_cons, List.length_cons, Nat.add_mul, Nat.one_mul]
    omega
theorem Rk.tuple {k n : Nat} {ds : List D} (h : ∀ d ∈ ds, Rk k n d) : Rk (k + 1) (ds.length * n + 2 * ds.length + 3) (.tuple ds) := by
  obtain ⟨a1, a2, a3, a4, a5⟩ := rk_all h
  refine ⟨by simpa [PyData.showable] using a1, by simpa [PyData.canLay0] using a2, by simp [PyData.depth, a3], ?_⟩
  have := tupleText_len_le (PyData.shownAll ds)
  simp only [PyData.shown]
  omega
theorem Rk.list {k n : Nat} {ds : List D} (h : ∀ d ∈ ds, Rk k n d) : Rk (k + 1) (ds.length * n + 2 * ds.length + 3) (.list ds) := by
  obtain ⟨a1, a2, a3, a4, a5⟩ := rk_all h
  refine ⟨by simpa [PyData.showable] using a1, by simpa [PyData.canLay0] using a2, by simp [PyData.depth, a3], ?_⟩
  have := listText_len_le (PyData.shownAll ds)
  simp only [PyData.shown]
  omega
theorem Rk.sh' {q : Rat} (h : Bq 1900 q) : Rk 1 1300 (Xm.sh q) := by
  refine (Rk.tuple (k := 0) (n := 600) (ds := [.int q.num, .int q.den]) fun d hd => ?_).mono (Nat.le_refl _) (by simp)
  rcases List.mem_cons.mp hd with rfl | hd
  · exact Rk.int (i := q.num) h.1
  · rcases List.mem_cons.mp hd with rfl | hd
    · exact Rk.int (i := (q.den : Int)) (by rw [Int.natAbs_natCast]; exact h.2)
    · cases hd
theorem k_reprT {k n : Nat} {ds : List D} (h : Rk k n (.tuple ds)) (hk : k ≤ 64) (hn : n ≤ 16777216) : kRepr (.tuple ds) = some (.str (PyData.shown (.tuple ds))) := if_pos ⟨rfl, h.rp hk hn⟩
theorem k_reprL {k n : Nat} {ds : List D} (h : Rk k n (.list ds)) (hk : k ≤ 64) (hn : n ≤ 16777216) : kRepr (.list ds) = some (.str (PyData.shown (.list ds))) := if_pos ⟨rfl, h.rp hk hn⟩
theorem k_reprS {q : Rat} (h : Bq 1900 q) : kRepr (sh q) = some (.str (PyData.shown (sh q))) := k_reprT (Rk.sh' h) (by omega) (by omega)

/-! ### simp lemmas for the rules of XmA -/
section
variable {f : EF} {a b : LF} {st : AS} {n : Nat} {w : List D → AS → Option AS} {d : D} {ds : List D} {i j : Int} {k : List D → Option D}
@[simp] theorem e_bN : bN k a st = (a st).bind fun x => (k x.1).map fun z => (z, x.2) := rfl
@[simp] theorem k_min2 : kMin2 [.int i, .int j] = some (.int (min i j)) := by
  rw [show min i j = if j < i then j else i by split <;> omega]
  rfl
@[simp] theorem k_max2 : kMax2 [.int i, .int j] = some (.int (max i j)) := by
  rw [show max i j = if j > i then j else i by split <;> omega]
  rfl
@[simp] theorem e_unpT_l : unpT n w (.list ds) st = if ds.length = n then w ds st else none := rfl
@[simp] theorem e_unpT_t : unpT n w (.tuple ds) st = if ds.length = n then w ds st else none := rfl
@[simp] theorem e_callK {mf : List D → Option RV} {src : List (Nat ⊕ Nat)} : callK mf src a b st = (a st).bind fun x => (b x.2).bind fun y => (mf (arr .none src x.1 y.1)).map fun r => (r, y.2) := rfl
@[simp] theorem arr_nil {us ws : List D} : arr .none [] us ws = ([] : List D) := rfl
@[simp] theorem arr_inl {us ws : List D} {m : Nat} {src : List (Nat ⊕ Nat)} : arr .none (.inl m :: src) us ws = us.getD m .none :: arr .none src us ws := rfl
@[simp] theorem arr_inr {us ws : List D} {m : Nat} {src : List (Nat ⊕ Nat)} : arr .none (.inr m :: src) us ws = ws.getD m .none :: arr .none src us ws := rfl
end
theorem cut_mid {α : Type} (l : List α) (a b : Nat) (h : a ≤ b) (hb : b ≤ l.length) : cutX l (some (a : Int)) (some (b : Int)) = (l.drop a).take (b - a) := by
  have e : ∀ (n d m : Nat), m ≤ n → HT.sIx n d (some (m : Int)) = m := fun n d m hm => by
    unfold HT.sIx
    have h0 : ¬ ((m : Int) < 0) := by omega
    simp [h0]
    omega
  unfold cutX
  rw [e _ _ a (by omega), e _ _ b hb]

/-! ### loops by an invariant; lists drawn -/
theorem loop_inv {u : D → AS → Option AS} {b : SF} {c N : Nat} {I : Nat → AS → Prop} {R : D → Prop} (h : ∀ n st d, R d → I n st → n + c ≤ N → ∃ s1 s2, u d st = some s1 ∧ b s1 = some (.nx, s2) ∧ I (n + c) s2) :
    ∀ (ds : List D) (n : Nat) (st : AS), (∀ d ∈ ds, R d) → I n st → n + c * ds.length ≤ N → ∃ st', loopS u b ds st = some (.nx, st') ∧ I (n + c * ds.length) st'
  | [], n, st, _, hi, _ => ⟨st, rfl, hi⟩
  | d :: ds, n, st, hr, hi, hn => by
    rw [List.length_cons, Nat.mul_add, Nat.mul_one] at hn
    obtain ⟨s1, s2, e1, e2, h2⟩ := h n st d (hr d (.head _)) hi (by omega)
    obtain ⟨st', e3, h3⟩ := loop_inv h ds (n + c) s2 (fun x hx => hr x (.tail _ hx)) h2 (by omega)
    refine ⟨st', (loopS_cons e1 e2).trans e3, ?_⟩
    rw [List.length_cons, Nat.mul_add, Nat.mul_one]
    have : n + (c * ds.length + c) = n + c + c * ds.length := by omega
    rw [this]
    exact h3
theorem rng_mem {k : Nat} {d : D} (h : d ∈ rngD 0 (k : Int)) : ∃ j : Nat, d = .int j ∧ j < k := by
  unfold rngD at h
  obtain ⟨j, hj, rfl⟩ := List.mem_map.mp h
  exact ⟨j, by rw [Int.zero_add], by have := List.mem_range.mp hj; omega⟩
theorem comp_inv {u : D → AS → Option AS} {te : EF} {vs : List Nat} {c N : Nat} {P : Nat → List D → Prop} {α : Type} {R : α → Prop} {en : α → D} {S : List D → AS} (h : ∀ n xs d, P n xs → n + c ≤ N → ∃ s1 x ys s2, u d (S xs) = some s1 ∧ te s1 = some (en x, s2) ∧ clr s2 vs = S ys ∧ R x ∧ P (n + c) ys) :
    ∀ (ds : List D) (n : Nat) (xs : List D), P n xs → n + c * ds.length ≤ N → ∃ (l : List α) (ys : List D), l.length = ds.length ∧ (∀ x ∈ l, R x) ∧ P (n + c * ds.length) ys ∧ compL u yesB te vs ds (S xs) = some (l.map en, S ys)
  | [], n, xs, hi, _ => ⟨[], xs, rfl, by simp, hi, rfl⟩
  | d :: ds, n, xs, hi, hn => by
    rw [List.length_cons, Nat.mul_add, Nat.mul_one] at hn
    obtain ⟨s1, x, ys, s2, e1, e2, e3, hr, h2⟩ := h n xs d hi (by omega)
    obtain ⟨l, zs, hl, hg, h3, e4⟩ := comp_inv (S := S) (R := R) (en := en) h ds (n + c) ys h2 (by omega)
    refine ⟨x :: l, zs, by rw [List.length_cons, List.length_cons, hl], ?_, ?_, ?_⟩
    · intro y hy
      rcases List.mem_cons.mp hy with rfl | hy
      · exact hr
      · exact hg y hy
    · rw [List.length_cons, Nat.mul_add, Nat.mul_one]
      have : n + (c * ds.length + c) = n + c + c * ds.length := by omega
      rw [this]
      exact h3
    · rw [compL_cons e1 e2, e3, e4]
      rfl
theorem itR1_nat {f : EF} {st st' : AS} {k : Nat} (h : f st = some (.int (k : Int), st')) (hk : k ≤ 1000000) : itR1 f st = some (rngD 0 k, st') := by
  have key : ∀ j : Int, j < 1000001 → 0 ≤ j → itR1 f st = (f st).bind fun a => (match a.1 with
    | .int j => if -(2 ^ 62) ≤ j ∧ j < 2 ^ 62 then some (rngD 0 j, a.2) else none
    | _ => none) := fun _ _ _ => rfl
  have gen : ∀ j : Int, f st = some (.int j, st') → j < 1000001 → 0 ≤ j → itR1 f st = some (rngD 0 j, st') := fun j h h1 h2 => by
    rw [key j h1 h2, h]
    simp only [Option.bind_some]
    rw [if_pos (by omega)]
  exact gen k h (by omega) (by omega)
theorem seqS_nx {f g : SF} {st st' : AS} (h : f st = some (.nx, st')) : seqS f g st = g st' := by simp only [e_seqS, h, Option.bind_some]
theorem rng_len (a b : Int) : (rngD a b).length = (b - a).toNat := by unfold rngD; simp
end Xm

set_option Elab.async false
set_option linter.all false
set_option maxRecDepth 100000
namespace Xm
open PySem PySem.Spec PyProof.Rows L2

/-! ### xs.count(x) -/
def kCount : D → D → Option D
  | .list xs, d => if PyData.plainAll xs = true ∧ d.plain = true ∧ d.depth ≤ 60 then some (.int (xs.countP fun y => PyData.eqv y d)) else none
  | _, _ => none
def rCountD (K : Kx) : V → List V → Hp → VK → Prop := fun x ys H Q => ∃ p xs d y, x = .ref p ∧ ys = [y] ∧ Dp K H (.ref p) (.list xs) ∧ Dp K H y d ∧ PyData.plainAll xs = true ∧ d.plain = true ∧ d.depth ≤ 60 ∧ Q (.int (xs.countP fun y => PyData.eqv y d)) H
section
variable {X : Cx} {C : Ct} {pos p apos cpos : Pos} {o e : Expr} {f g : EF}
theorem mt_countD (hu : X.A.units + 65 < cLine) : MtR X "list.count" (rCountD (kxOf X)) := by
  intro pins s σ H x ys v us Q I rx rxs h
  obtain ⟨p, xs, d, y, rfl, rfl, hx, hy, h1, h2, h3, q⟩ := h
  obtain ⟨u, rfl, ry⟩ := vals1 rxs
  cases rx
  obtain ⟨as, rl⟩ := Dp.reads I _ _ _ (by simpa [PyData.plain] using h1) hx rfl
  obtain ⟨bs, rd⟩ := Dp.reads I _ _ _ h2 hy ry
  cases rl with
  | @list b ob vs n _ _ k1 k2 k3 k4 =>
    refine SeqAt.count_list_data  ⟨_, k1, k2, n, k3⟩ (by simpa using k4) rd h1 h2 (by omega) ⟨.int _, H, I.tok _, ⟨_, rfl⟩, q⟩
theorem xd_count (hu : X.A.units + 65 < cLine) (ho : PE X o (dOf (kxOf X) C f)) (he : PE X e (dOf (kxOf X) C g)) (hs : starEach [e] X.env = (false, eval e X.env) :: starEach [] X.env := by rfl) (hbase : attributeBase o "count" X.env (eval o X.env) = eval o X.env := by rfl)
    (hfew : ((backTo cpos (starEach [e] X.env)).all (fun x => !x.1) && (backToKw cpos (keywordEach [] X.env)).all (fun x => x.1.isSome) && decide ([e].length + ([] : List Keyword).length + (if ([] : List Keyword).isEmpty then 0 else 1) < 30)) = true := by rfl)
    (hline : (apos.endLine == cpos.line) = true := by rfl) (hplain : (backTo cpos (starEach [] X.env)).any (·.1) = false := by rfl) :
    PE X (.Call (.Attribute o "count" apos) [e] [] cpos) (dOf (kxOf X) C (bin2 kCount f g)) :=
  pe_wk (pe_bm PySem.F.plainAttrs_list PySem.F.slot_list_count PySem.F.type_list_count (mt_countD hu) ho (pa_cons he pa_nil hs) hbase hfew hline hs hplain) fun σ H Q q => by
    obtain ⟨F, st, w, R, e, q⟩ := q
    obtain ⟨a, ea, e⟩ := Option.bind_eq_some_iff.mp e
    obtain ⟨b, eb, e⟩ := Option.bind_eq_some_iff.mp e
    obtain ⟨z, ez, e⟩ := Option.map_eq_some_iff.mp e
    cases e
    unfold kCount at ez
    split at ez
    · rename_i xs heq
      obtain ⟨h, rfl⟩ := ite_eq ez
      refine ⟨F, st, a, R, ea, fun v H1 F1 s1 R1 d1 => ?_⟩
      rw [heq] at d1
      cases d1 with
      | @lst a0 vs0 _ hs hv =>
        refine ⟨.inl ⟨rfl, _, sql_up R1.fh hs⟩, F1, a.2, b, R1, eb, fun y H2 F2 s2 R2 d2 => ?_⟩
        exact ⟨_, xs, _, y, rfl, rfl, Dp_up (.lst hs hv) (s2.trans R2.fh), Dp_up d2 R2.fh, h.1, h.2.1, h.2.2, q _ H2 F2 (s1.trans s2) R2 (.int _)⟩
    · cases ez
end

/-! ### all, any, sum -/
def boolsD : List D → Option (List Bool)
  | [] => some []
  | .bool b :: r => (boolsD r).map (b :: ·)
  | _ => none
def intsD : List D → Option (List Int)
  | [] => some []
  | .int b :: r => (intsD r).map (b :: ·)
  | _ => none
def kAll : D → Option D
  | .list xs => (boolsD xs).map fun bs => .bool (bs.all id)
  | _ => none
def kAny : D → Option D
  | .list xs => (boolsD xs).map fun bs => .bool (bs.any id)
  | _ => none
def kSum : D → Option D
  | .list xs => (intsD xs).map fun bs => .int bs.sum
  | _ => none
theorem bools_dp {K : Kx} {F : Hp} : ∀ {ds : List D} {bs : List Bool} {vs : List V}, boolsD ds = some bs → DpAll K F vs ds → vs = bs.map V.bl
  | [], bs, vs, e, h => by
    cases e
    cases h
    rfl
  | d :: ds, bs, vs, e, h => by
    cases h with
    | cons h1 h2 =>
      cases d with
      | bool b =>
        obtain ⟨r, hr, rfl⟩ := Option.map_eq_some_iff.mp (show (boolsD ds).map (b :: ·) = some bs from e)
        rw [dp_bl h1, bools_dp hr h2]
        rfl
      | _ => cases e
theorem ints_dp {K : Kx} {F : Hp} : ∀ {ds : List D} {bs : List Int} {vs : List V}, intsD ds = some bs → DpAll K F vs ds → vs = bs.map V.int
  | [], bs, vs, e, h => by
    cases e
    cases h
    rfl
  | d :: ds, bs, vs, e, h => by
    cases h with
    | cons h1 h2 =>
      cases d with
      | int b =>
        obtain ⟨r, hr, rfl⟩ := Option.map_eq_some_iff.mp (show (intsD ds).map (b :: ·) = some bs from e)
        rw [dp_int h1, ints_dp hr h2]
        rfl
      | _ => cases e
section
variable {X : Cx} {C : Ct} {pos p : Pos} {a : Expr} {f : EF}
theorem xd_all (hc : X.calm = true) (hm : X.mg "all" = none) (ha : PE X a (dOf (kxOf X) C f)) (hg : Gl X "all" := by rfl) (he : starEach [a] X.env = (false, eval a X.env) :: starEach [] X.env := by rfl) : PE X (.Call (.Name "all" p) [a] [] pos) (dOf (kxOf X) C (un1 kAll f)) :=
  xd_b1 (cr_all hc) (fun F H x a z Q fh ha e q => by
    unfold kAll at e; split at e
    · obtain ⟨bs, hb, rfl⟩ := Option.map_eq_some_iff.mp e
      cases ha with
      | lst hs hv =>
        cases bools_dp hb hv
        exact ⟨_, bs, rfl, sql_up fh hs, q _ F H (Gr.refl fh) (.bl _)⟩
    · cases e) hm (by decide +kernel) ha hg (he := he)
theorem xd_any (hc : X.calm = true) (hm : X.mg "any" = none) (ha : PE X a (dOf (kxOf X) C f)) (hg : Gl X "any" := by rfl) (he : starEach [a] X.env = (false, eval a X.env) :: starEach [] X.env := by rfl) : PE X (.Call (.Name "any" p) [a] [] pos) (dOf (kxOf X) C (un1 kAny f)) :=
  xd_b1 (cr_any hc) (fun F H x a z Q fh ha e q => by
    unfold kAny at e; split at e
    · obtain ⟨bs, hb, rfl⟩ := Option.map_eq_some_iff.mp e
      cases ha with
      | lst hs hv =>
        cases bools_dp hb hv
        exact ⟨_, bs, rfl, sql_up fh hs, q _ F H (Gr.refl fh) (.bl _)⟩
    · cases e) hm (by decide +kernel) ha hg (he := he)
theorem xd_sum (hc : X.calm = true) (hm : X.mg "sum" = none) (ha : PE X a (dOf (kxOf X) C f)) (hg : Gl X "sum" := by rfl) (he : starEach [a] X.env = (false, eval a X.env) :: starEach [] X.env := by rfl) : PE X (.Call (.Name "sum" p) [a] [] pos) (dOf (kxOf X) C (un1 kSum f)) :=
  xd_b1 (cr_sum hc) (fun F H x a z Q fh ha e q => by
    unfold kSum at e; split at e
    · obtain ⟨bs, hb, rfl⟩ := Option.map_eq_some_iff.mp e
      cases ha with
      | lst hs hv =>
        cases ints_dp hb hv
        exact ⟨_, bs, rfl, sql_up fh hs, q _ F H (Gr.refl fh) (.int _)⟩
    · cases e) hm (by decide +kernel) ha hg (he := he)
end

/-! ### isinstance of data -/
def tyD : D → String
  | .none => "NoneType"
  | .bool _ => "bool"
  | .int _ => "int"
  | .str _ => "str"
  | .list _ => "list"
  | .tuple _ => "tuple"
  | .dict _ => "dict"
def isaT (t T : String) : Bool := t == T || (t == "bool" && T == "int")
def kIsa (T : String) (d : D) : Option D := some (.bool (isaT (tyD d) T))
def tys : List String := ["NoneType", "bool", "int", "str", "list", "tuple", "dict"]
/-- the type of data, for isinstance -/
def rIsaD (K : Kx) : List V → Hp → VK → Prop := fun xs H Q => ∃ (x c : V) (d : D) (u : Value) (b : Bool), xs = [x, c] ∧ ClsV c u ∧ Dp K H x d ∧ PySem.W.kitOne K.K (.type (tyD d)) u = some b ∧ Q (.bl b) H
theorem tyD_mem (d : D) : tyD d ∈ tys := by cases d <;> simp [tyD, tys]
theorem kit_dp {X : Cx} {pins : List (Addr × Obj)} {σ : L2.St} {H : Hp} {s : Shared} {x : V} {d : D} {u : Value} (I : Inv X pins σ H s) (h : Dp (kxOf X) H x d) (rx : RelV x u) : ∃ P : Heap → Prop, PySem.W.KitX X.K u (.type (tyD d)) P ∧ P s.heap ∧ u ≠ .builtin "__main__.__loader__#opaque" := by
  cases h with
  | non => exact kit_of I rx (.base .non)
  | bl b => exact kit_of I rx (.base (.bl b))
  | int i => exact kit_of I rx (.base (.int i))
  | str x => exact kit_of I rx (.base (.str x))
  | lst hs hv =>
    refine kit_of I rx ?_
    rcases hs with (h | ⟨o, h⟩) | ⟨o, its, n, h1, h2, _⟩
    · exact .base (.lst h)
    · exact .base (.frz h)
    · exact .kList h1 h2
  | tup hs hv =>
    refine kit_of I rx ?_
    rcases hs with (h | ⟨o, h⟩) | ⟨o, its, n, h1, h2, _⟩
    · exact .base (.tup h)
    · exact .fTuple h
    · exact .kTuple h1 h2
  | dky h1 h2 h3 h4 h5 => exact kit_of I rx (.base (.dK h1))
  | @dtp a rows kvs ks vs ws h1 _ _ _ _ _ _ _ _ =>
    cases (show u = Value.ref a from rx)
    obtain ⟨⟨_, _, o, es, ep, xs, g1, g2, _⟩, _⟩ := I.hok a _ h1
    exact ⟨_, PySem.W.kitx_dict, ⟨o, g1, g2.1⟩, fun z => nomatch z⟩
theorem call_isaD {X : Cx} : CallR X (.builtin "isinstance") (rIsaD (kxOf X)) := by
  intro pins s σ H xs us Q I r h
  obtain ⟨x, c, d, u, b, rfl, k, hd, e, q⟩ := h
  obtain ⟨u1, u2, rfl, r1, r2⟩ := vals2 r
  have e2 := k.eq r2
  subst e2
  obtain ⟨P, Z, p, hx⟩ := kit_dp I hd r1
  exact PySem.W.kia_one Z I.kIn p e hx fun tk => ⟨.bl b, H, I.tok tk, rfl, q⟩
def IsaOk (K : Kx) (T : String) : Prop := ∀ t ∈ tys, PySem.W.kitOne K.K (.type t) (.type T) = some (isaT t T)
section
variable {X : Cx} {C : Ct} {pos p p2 : Pos} {a : Expr} {f : EF}
theorem xd_isa {x : Str} {T : String} (hT : IsaOk (kxOf X) T) (hv : bootBuiltins x = some (.type T)) (hm : X.mg "isinstance" = none) (hx : X.mg x = none) (ha : PE X a (dOf (kxOf X) C f)) (hg : Gl X "isinstance" := by rfl) (hg2 : Gl X x := by rfl) (hn : x ≠ "__name__" := by decide) (hd : (x == ("__debug__" : Str)) = false := by decide)
    (he : starEach [a, .Name x p2] X.env = (false, eval a X.env) :: starEach [.Name x p2] X.env := by rfl) (he2 : starEach [.Name x p2] X.env = (false, eval (.Name x p2) X.env) :: starEach [] X.env := by rfl) (hpl : (backTo pos (starEach [.Name x p2] X.env)).any (·.1) = false := by rfl) :
    PE X (.Call (.Name "isinstance" p) [a, .Name x p2] [] pos) (dOf (kxOf X) C (un1 (kIsa T) f)) :=
  pe_wk (pe_callB call_isaD hg hm (by decide +kernel) (pa_cons ha (pa_cons (pe_bltn (v := .ty T) hg2 hx hv rfl hn hd) pa_nil he2) he) (he := he) (hpl := hpl)) fun σ H Q q => by
    obtain ⟨F, st, w, R, e, q⟩ := q
    obtain ⟨a, ea, e⟩ := Option.bind_eq_some_iff.mp e
    obtain ⟨z, ez, e⟩ := Option.map_eq_some_iff.mp e
    cases e
    cases ez
    refine ⟨F, st, a, R, ea, fun v H1 F1 s1 R1 d1 => ?_⟩
    exact ⟨v, .ty T, _, _, _, rfl, .ty T, Dp_up d1 R1.fh, hT _ (tyD_mem _), q _ H1 F1 s1 R1 (.bl _)⟩
end
theorem isa_int {K : Kx} : IsaOk K "int" := by
  intro t ht
  simp only [tys, List.mem_cons, List.not_mem_nil, or_false] at ht
  rcases ht with rfl | rfl | rfl | rfl | rfl | rfl | rfl <;> rfl
theorem isa_bool {K : Kx} : IsaOk K "bool" := by
  intro t ht
  simp only [tys, List.mem_cons, List.not_mem_nil, or_false] at ht
  rcases ht with rfl | rfl | rfl | rfl | rfl | rfl | rfl <;> rfl
theorem isa_tuple {K : Kx} : IsaOk K "tuple" := by
  intro t ht
  simp only [tys, List.mem_cons, List.not_mem_nil, or_false] at ht
  rcases ht with rfl | rfl | rfl | rfl | rfl | rfl | rfl <;> rfl
theorem isa_list {K : Kx} : IsaOk K "list" := by
  intro t ht
  simp only [tys, List.mem_cons, List.not_mem_nil, or_false] at ht
  rcases ht with rfl | rfl | rfl | rfl | rfl | rfl | rfl <;> rfl
theorem isa_str {K : Kx} : IsaOk K "str" := by
  intro t ht
  simp only [tys, List.mem_cons, List.not_mem_nil, or_false] at ht
  rcases ht with rfl | rfl | rfl | rfl | rfl | rfl | rfl <;> rfl

/-! ### a chain of two comparisons -/
def chE (k k' : D → D → Option D) (f g h : EF) : EF := fun st => (f st).bind fun a => (g a.2).bind fun b => (k a.1 b.1).bind fun z => match z with
  | .bool true => (h b.2).bind fun c => (k' b.1 c.1).map fun y => (y, c.2)
  | .bool false => some (.bool false, b.2)
  | _ => none
section
variable {X : Cx} {C : Ct} {pos : Pos} {a b c : Expr} {f g h : EF} {r r' : R2} {k k' : D → D → Option D}
theorem chE_ok {K : Kx} (ok : Ok2 K r k) (ok' : Ok2 K r' k') {σ : L2.St} {H : Hp} {Q : VK} (q : dOf K C (chE k k' f g h) σ H Q) : tChain r r' (dOf K C f) (dOf K C g) (dOf K C h) σ H Q := by
  obtain ⟨F, st, w, R, e, q⟩ := q
  obtain ⟨a, ea, e⟩ := Option.bind_eq_some_iff.mp e
  obtain ⟨b, eb, e⟩ := Option.bind_eq_some_iff.mp e
  obtain ⟨z, ez, e⟩ := Option.bind_eq_some_iff.mp e
  refine ⟨F, st, a, R, ea, fun x H1 F1 s1 R1 d1 => ⟨F1, a.2, b, R1, eb, fun y H2 F2 s2 R2 d2 => ?_⟩⟩
  refine ok F2 H2 x y a.1 b.1 z _ R2.fh (Dp_up d1 s2) d2 ez fun v F3 H3 gr hv => ?_
  have R3 := R2.grow gr
  split at e
  · obtain ⟨c, ec, e⟩ := Option.bind_eq_some_iff.mp e
    obtain ⟨u, eu, e⟩ := Option.map_eq_some_iff.mp e
    cases e
    refine ⟨true, dp_bl hv, ?_⟩
    rw [if_pos rfl]
    exact ⟨F3, b.2, c, R3, ec, fun w H4 F4 s4 R4 d4 => ok' F4 H4 y w b.1 c.1 u _ R4.fh (Dp_up d2 (gr.ff.trans s4)) d4 eu fun v5 F5 H5 gr5 hv5 => q v5 H5 F5 ((((s1.trans s2).trans gr.ff).trans s4).trans gr5.ff) (R4.grow gr5) hv5⟩
  · cases e
    refine ⟨false, dp_bl hv, ?_⟩
    rw [if_neg (by decide)]
    exact q _ H3 F3 ((s1.trans s2).trans gr.ff) R3 (.bl _)
  · cases e
theorem xd_chain {op op' : CmpOp} (ho : OpR X (compareOp op) r) (ok : Ok2 (kxOf X) r k) (ho' : OpR X (compareOp op') r') (ok' : Ok2 (kxOf X) r' k') (ha : PE X a (dOf (kxOf X) C f)) (hb : PE X b (dOf (kxOf X) C g)) (hc : PE X c (dOf (kxOf X) C h))
    (hm : lastMarks [op, op'] [b, c] = false := by with_unfolding_all rfl) : PE X (.Compare a [op, op'] [b, c] pos) (dOf (kxOf X) C (chE k k' f g h)) := pe_wk (pe_chain ho ho' ha hb hc hm) fun _ _ _ q => chE_ok ok ok' q
theorem xd_lele (ha : PE X a (dOf (kxOf X) C f)) (hb : PE X b (dOf (kxOf X) C g)) (hc : PE X c (dOf (kxOf X) C h)) (hm : lastMarks [.LtE, .LtE] [b, c] = false := by with_unfolding_all rfl) : PE X (.Compare a [.LtE, .LtE] [b, c] pos) (dOf (kxOf X) C (chE kLe kLe f g h)) := xd_chain op_le ok_le op_le ok_le ha hb hc hm
theorem xd_lelt (ha : PE X a (dOf (kxOf X) C f)) (hb : PE X b (dOf (kxOf X) C g)) (hc : PE X c (dOf (kxOf X) C h)) (hm : lastMarks [.LtE, .Lt] [b, c] = false := by with_unfolding_all rfl) : PE X (.Compare a [.LtE, .Lt] [b, c] pos) (dOf (kxOf X) C (chE kLe kLt f g h)) := xd_chain op_le ok_le op_lt ok_lt ha hb hc hm
theorem xd_ltle (ha : PE X a (dOf (kxOf X) C f)) (hb : PE X b (dOf (kxOf X) C g)) (hc : PE X c (dOf (kxOf X) C h)) (hm : lastMarks [.Lt, .LtE] [b, c] = false := by with_unfolding_all rfl) : PE X (.Compare a [.Lt, .LtE] [b, c] pos) (dOf (kxOf X) C (chE kLt kLe f g h)) := xd_chain op_lt ok_lt op_le ok_le ha hb hc hm
theorem xd_ltlt (ha : PE X a (dOf (kxOf X) C f)) (hb : PE X b (dOf (kxOf X) C g)) (hc : PE X c (dOf (kxOf X) C h)) (hm : lastMarks [.Lt, .Lt] [b, c] = false := by with_unfolding_all rfl) : PE X (.Compare a [.Lt, .Lt] [b, c] pos) (dOf (kxOf X) C (chE kLt kLt f g h)) := xd_chain op_lt ok_lt op_lt ok_lt ha hb hc hm
end
@[simp] theorem e_chE {k k' : D → D → Option D} {f g h : EF} {st : AS} : chE k k' f g h st = (f st).bind fun a => (g a.2).bind fun b => (k a.1 b.1).bind fun z => (match z with
  | .bool true => (h b.2).bind fun c => (k' b.1 c.1).map fun y => (y, c.2)
  | .bool false => some (.bool false, b.2)
  | _ => none) := rfl
@[simp] theorem k_isa {T : String} {d : D} : kIsa T d = some (.bool (isaT (tyD d) T)) := rfl
end Xm

set_option Elab.async false
set_option linter.all false
set_option maxRecDepth 100000
namespace Xm
open PySem PySem.Spec PyProof.Rows L2

/-! ### comprehensions whose names are names of the def, too -/
def savS : Option Slot → Bool
  | some .no => true
  | some (.dat _) => true
  | _ => false
def savB (st : AS) (vs : List Nat) : Bool := vs.all fun i => savS st[i]?
def rest (old : AS) : List Nat → AS → AS
  | [], st => st
  | v :: vs, st => (rest old vs st).set v (old[v]?.getD .no)
theorem rest_len (old st : AS) : ∀ vs, (rest old vs st).length = st.length
  | [] => rfl
  | v :: vs => by unfold rest; rw [List.length_set, rest_len]
theorem rest_get {old st : AS} {vs : List Nat} {i : Nat} : (rest old vs st)[i]? = if i ∈ vs ∧ i < st.length then some (old[i]?.getD .no) else st[i]? := by
  induction vs with
  | nil => simp [rest]
  | cons v vs ih =>
    unfold rest
    by_cases e : v = i
    · subst e
      by_cases hv : v < st.length
      · rw [List.getElem?_set_self (by rw [rest_len]; exact hv), if_pos ⟨by simp, hv⟩]
      · rw [if_neg (fun z => hv z.2), List.getElem?_eq_none_iff.mpr (by rw [List.length_set, rest_len]; omega), List.getElem?_eq_none_iff.mpr (by omega)]
    · rw [List.getElem?_set_ne e, ih]
      by_cases hm : i ∈ vs
      · by_cases hi : i < st.length
        · rw [if_pos ⟨hm, hi⟩, if_pos ⟨by simp [hm], hi⟩]
        · rw [if_neg (fun z => hi z.2), if_neg (fun z => hi z.2)]
      · rw [if_neg (fun z => hm z.1), if_neg (fun z => (List.mem_cons.mp z.1).elim (fun q => e q.symm) hm)]
theorem sav_of {st : AS} {vs : List Nat} (h : savB st vs = true) : ∀ i ∈ vs, st[i]? = some .no ∨ ∃ d, st[i]? = some (.dat d) := fun i hi => by
  have q := List.all_eq_true.mp h i hi
  unfold savS at q
  split at q
  · rename_i e; exact .inl e
  · rename_i d e; exact .inr ⟨d, e⟩
  · cases q
theorem sav_clr {st : AS} {vs : List Nat} (h : savB st vs = true) : ∀ i ∈ vs, (Xm.clr st vs)[i]? = some Slot.no := fun i hi => by
  have hl : i < st.length := by
    rcases sav_of h i hi with e | ⟨d, e⟩ <;> exact (List.getElem?_eq_some_iff.mp e).1
  rw [clr_get, if_pos ⟨hi, hl⟩]
theorem mu_clr {st : AS} {vs : List Nat} {j : Nat} (h : Mu (Xm.clr st vs) j) : Mu st j ∧ ¬(j ∈ vs ∧ j < st.length) := by
  unfold Mu at h ⊢
  rw [clr_get] at h
  split at h
  · obtain ⟨s0, e, hm⟩ := h
    cases e
    cases hm
  · rename_i hn
    exact ⟨h, hn⟩
theorem mu_rest {old st : AS} {vs : List Nat} {j : Nat} (h : savB old vs = true) (hno : ∀ i ∈ vs, st[i]? = some Slot.no) (hj : Mu (rest old vs st) j) : Mu st j ∧ j ∉ vs := by
  by_cases hm : j ∈ vs
  · exfalso
    have hl : j < st.length := (List.getElem?_eq_some_iff.mp (hno j hm)).1
    unfold Mu at hj
    rw [rest_get, if_pos ⟨hm, hl⟩] at hj
    rcases sav_of h j hm with e | ⟨d, e⟩ <;> (rw [e] at hj; obtain ⟨s0, e2, hm2⟩ := hj; cases e2; cases hm2)
  · refine ⟨?_, hm⟩
    unfold Mu at hj ⊢
    rw [rest_get, if_neg fun q => hm q.1] at hj
    exact hj
theorem Rel.restore {K : Kx} {C : Ct} {F1 F2 H1 H2 : Hp} {old st : AS} {σ : L2.St} {vs : List Nat} (R1 : Rel K C F1 old σ H1) (s : Same F1 F2) (R2 : Rel K C F2 st (wipe σ vs) H2) (h : savB old vs = true) (hno : ∀ i ∈ vs, st[i]? = some Slot.no) : Rel K C F2 (rest old vs st) σ H2 where
  len := by rw [rest_len, R2.len, wipe_length]
  f0 := R2.f0
  fh := R2.fh
  old := R2.old
  new := R2.new
  slot := fun i sl e => by
    rw [rest_get] at e
    split at e
    · rename_i hi
      rcases sav_of h i hi.1 with z | ⟨d, z⟩
      · rw [z] at e
        cases e
        trivial
      · rw [z] at e
        cases e
        obtain ⟨v, h1, h2⟩ := R1.slot i _ z
        exact ⟨v, h1, Dp_up h2 s⟩
    · rename_i hi
      have q := R2.slot i sl e
      rw [wipe_get, if_neg] at q
      · exact q
      · rintro ⟨z1, z2⟩
        exact hi ⟨z1, by rw [R2.len, wipe_length]; exact z2⟩
  apart := fun i j a hi hj e1 e2 => by
    obtain ⟨m1, n1⟩ := mu_rest h hno hi
    obtain ⟨m2, n2⟩ := mu_rest h hno hj
    refine R2.apart i j a m1 m2 ?_ ?_
    · rw [wipe_get, if_neg fun q => n1 q.1]
      exact e1
    · rw [wipe_get, if_neg fun q => n2 q.1]
      exact e2
  penh := R2.penh
  pent := R2.pent
def compR (it : LF) (u : D → AS → Option AS) (tt : BF) (te : EF) (vs : List Nat) : LF := fun st => (it st).bind fun a => if savB a.2 vs = true ∧ a.1.length ≤ sizeLine then (compL u tt te vs a.1 (Xm.clr a.2 vs)).map fun r => (r.1, rest a.2 vs r.2) else none
theorem lc_okR {K : Kx} {it : LF} {u : D → AS → Option AS} {ts : List Nat} {tt : BF} {te : EF} {vs : List Nat} {σ : L2.St} {H : Hp} {Q : VK} (hts : ∀ j ∈ ts, j ∈ vs)
    (hg : TG) (ht : TT) (he : TE) (kg : ∀ C v σ H Q, gOf K C u ts v σ H Q → hg v σ H Q) (kt : ∀ C σ H Q, bOf K C tt σ H Q → ht σ H Q) (ke : ∀ C σ H Q, dOf K C te σ H Q → he σ H Q)
    (q : nOf K C (compR it u tt te vs) σ H Q) : tLc (iOf K C it) hg ht he vs σ H Q := by
  obtain ⟨F, st, w, R, e, q⟩ := q
  obtain ⟨a, ea, e⟩ := Option.bind_eq_some_iff.mp e
  split at e
  · rename_i hno
    obtain ⟨hno, hlen⟩ := hno
    obtain ⟨r0, e0, ew⟩ := Option.map_eq_some_iff.mp e
    subst ew
    clear e
    have e := e0
    have hno' := sav_clr hno
    refine ⟨F, st, a, R, ea, fun J H1 F1 s1 R1 J1 => fun Dd hD => ?_⟩
    obtain ⟨A1, hF0⟩ := R1.aside hD
    have Rw : ∀ {F2 st2 H2}, Rel K C F2 st2 σ H2 → (∀ i ∈ vs, st2[i]? = some Slot.no) → Rel K C F2 st2 (wipe σ vs) H2 := fun R2 hn => R2.slots (wipe_length σ vs) fun i hi => by
      rw [wipe_get, if_neg]
      rintro ⟨z1, z2⟩
      exact hi (hn i z1)
    have apW : ∀ {st2 : AS}, (∀ j, Mu st2 j → σ[j]? ≠ some (some (.ref Dd))) → ∀ j, Mu st2 j → (wipe σ vs)[j]? ≠ some (some (.ref Dd)) := fun h j hj z => by
      rw [wipe_get] at z
      split at z
      · cases z
      · exact h j hj z
    refine ⟨fun i m H => m = a.1.length - i ∧ i ≤ a.1.length ∧ ∃ F2 st2 vsa dsa rest, Same F1 F2 ∧ Rel K C F2 st2 (wipe σ vs) H ∧ H Dd = some (.lst vsa) ∧ Aside C F2 st2 (wipe σ vs) Dd ∧ DpAll K F2 vsa dsa ∧ dsa.length ≤ i ∧
      (∀ i ∈ vs, st2[i]? = some Slot.no) ∧ compL u tt te vs (a.1.drop i) st2 = some (rest, r0.2) ∧ dsa ++ rest = r0.1,
      ⟨a.1.length, by simp, Nat.zero_le _, F1, Xm.clr a.2 vs, [], [], r0.1, Same.refl _, (R1.write A1).clr, upd_same, ⟨A1.h0, A1.f, A1.pn, apW fun j hj => A1.ap j (mu_clr hj).1⟩, .nil, Nat.le_refl _, hno', e, rfl⟩, ?_⟩
    rintro i m H2 ⟨rfl, hi, F2, st2, vsa, dsa, rest, s2, R2, h2, A2, d2, hl2, n2, e2, w2⟩
    by_cases hlt : i < a.1.length
    · refine .inr ⟨J1.go i H2 hlt (s2.trans R2.fh), ?_⟩
      have hd : a.1[i]? = some a.1[i] := List.getElem?_eq_getElem hlt
      rw [List.drop_eq_getElem_cons hlt] at e2
      obtain ⟨st3, e3, e4⟩ := Option.bind_eq_some_iff.mp e2
      obtain ⟨c, ec, e5⟩ := Option.bind_eq_some_iff.mp e4
      refine ⟨fun H' => ∃ F4 st4 vsb dsb rest, Same F1 F4 ∧ Rel K C F4 st4 (wipe σ vs) H' ∧ H' Dd = some (.lst vsb) ∧ Aside C F4 st4 (wipe σ vs) Dd ∧ DpAll K F4 vsb dsb ∧ dsb.length ≤ i + 1 ∧
        (∀ i ∈ vs, st4[i]? = some Slot.no) ∧ compL u tt te vs (a.1.drop (i + 1)) st4 = some (rest, r0.2) ∧ dsb ++ rest = r0.1, fun H' ⟨F4, st4, vsb, dsb, rest, k⟩ => ⟨a.1.length - (i + 1), by omega, rfl, hlt, F4, st4, vsb, dsb, rest, k⟩, fun x H3 hy => ?_⟩
      obtain ⟨G, hG, hh, hx⟩ := J1.yld i H2 x H3 _ hd (s2.trans R2.fh) hy
      obtain ⟨gr, sg⟩ := over_gr R2.fh hG hh
      have R3 := (R2.into A2 h2).grow gr
      refine kg (C.at Dd vsa) x (wipe σ vs) H3 _ ⟨over G F2, st2, _, st3, R3, hx _ (s2.trans gr.ff) sg, e3, fun σ4 H4 F4 s4 R4 l4 k4 => ⟨wipe_eq l4 k4 hts, ?_⟩⟩
      have up4 : Same F1 F4 := (s2.trans gr.ff).trans s4
      have w4 : wipe σ4 vs = wipe σ vs := wipe_eq l4 k4 hts
      have no_of : ∀ (stx : AS), stx.length = σ4.length → ∀ j ∈ vs, (Xm.clr stx vs)[j]? = some Slot.no := fun stx hlx j hj => by
        rw [clr_get, if_pos]
        refine ⟨hj, ?_⟩
        have z := (List.getElem?_eq_some_iff.mp (n2 j hj)).1
        have z2 := R2.len
        rw [hlx, l4]
        omega
      refine kt (C.at Dd vsa) σ4 H4 _ ⟨F4, st3, c, R4, ec, fun H5 F5 s5 R5 => ?_⟩
      have up5 : Same F1 F5 := up4.trans s5
      have u25 : Same F2 F5 := (gr.ff.trans s4).trans s5
      dsimp only
      split
      · rename_i hc
        rw [if_pos hc] at e5
        obtain ⟨y, ey, e6⟩ := Option.bind_eq_some_iff.mp e5
        obtain ⟨r, er, e7⟩ := Option.map_eq_some_iff.mp e6
        obtain ⟨e8, e9⟩ := Prod.mk.inj e7
        subst e8
        have er : compL u tt te vs (a.1.drop (i + 1)) (Xm.clr y.2 vs) = some (r.1, r0.2) := by rw [er, ← e9]
        refine ke (C.at Dd vsa) σ4 H5 _ ⟨F5, c.2, y, R5, ey, fun yv H6 F6 s6 R6 dy => ?_⟩
        obtain ⟨R7, A7, h7⟩ := R6.outof A1.h0 hF0 A1.pn
        refine ⟨vsa, h7, by rw [DpAll_len d2]; exact Nat.lt_of_le_of_lt hl2 (Nat.lt_of_lt_of_le hlt hlen), ?_⟩
        have R8 := (R7.write (o := .lst (vsa ++ [yv])) A7).clr (vs := vs)
        rw [w4] at R8
        refine ⟨F6, Xm.clr y.2 vs, vsa ++ [yv], dsa ++ [y.1], r.1, up5.trans s6, R8, upd_same, ⟨A7.h0, A7.f, A7.pn, fun j hj z => ?_⟩, DpAll_app (DpAll_up d2 (u25.trans s6)) (.cons dy .nil), by rw [List.length_append, List.length_singleton]; omega, no_of _ R6.len, er, by rw [List.append_assoc]; exact w2⟩
        rw [← w4, wipe_get] at z
        split at z
        · cases z
        · rename_i hz
          refine A7.ap j ?_ z
          unfold Mu at hj ⊢
          have hlx := R6.len
          rw [clr_get, if_neg (fun q => hz ⟨q.1, by omega⟩)] at hj
          exact hj
      · rename_i hc
        rw [if_neg hc] at e5
        obtain ⟨R7, A7, h7⟩ := R5.outof A1.h0 hF0 A1.pn
        have R8 := R7.clr (vs := vs)
        rw [w4] at R8
        refine ⟨F5, Xm.clr c.2 vs, vsa, dsa, rest, up5, R8, h7, ⟨A7.h0, A7.f, A7.pn, fun j hj z => ?_⟩, DpAll_up d2 u25, by omega, no_of _ R5.len, e5, w2⟩
        rw [← w4, wipe_get] at z
        split at z
        · cases z
        · rename_i hz
          refine A7.ap j ?_ z
          unfold Mu at hj ⊢
          have hlx := R5.len
          rw [clr_get, if_neg (fun q => hz ⟨q.1, by omega⟩)] at hj
          exact hj
    · have e3 : i = a.1.length := by omega
      subst e3
      rw [List.drop_length] at e2
      cases e2
      have w3 : dsa = r0.1 := by rw [List.append_nil] at w2; exact w2
      have Rb : Rel K C F2 (rest a.2 vs r0.2) σ H2 := R1.restore s2 R2 hno n2
      refine .inl ⟨J1.stop H2 (s2.trans R2.fh), q Dd vsa H2 F2 (s1.trans s2) Rb A2.h0 A2.f h2 (fun j hj z => ?_) (w3 ▸ d2)⟩
      obtain ⟨m1, m2⟩ := mu_rest hno n2 hj
      refine A2.ap j m1 ?_
      rw [wipe_get, if_neg fun q => m2 q.1]
      exact z
  · cases e

section
variable {X : Cx} {C : Ct} {pos : Pos} {elt tg iter : Expr} {ifs : List Expr} {scope : Scope} {own : List (Str × Nat)} {it : LF} {u : D → AS → Option AS} {ts : List Nat} {tt : BF} {te : EF} {vs : List Nat}
theorem xn_lcR (hN : X.N.Nodup) (hi : PI X tg iter (iOf (kxOf X) C it)) (ok : BlkOk X.N X.env.scope scope own)
    (hg : ∀ (C : Ct) (s : Shared) (H : Hp) (c : Addr) (cl : List (Str × Addr)) (fp : List Addr), PG (X.blk s H scope (compEnvC scope cl c X.env) fp) tg (gOf (kxOf X) C u ts))
    (ht : ∀ (C : Ct) (s : Shared) (H : Hp) (c : Addr) (cl : List (Str × Addr)) (fp : List Addr), PTs (X.blk s H scope (compEnvC scope cl c X.env) fp) ifs (bOf (kxOf X) C tt))
    (he : ∀ (C : Ct) (s : Shared) (H : Hp) (c : Addr) (cl : List (Str × Addr)) (fp : List Addr), PE (X.blk s H scope (compEnvC scope cl c X.env) fp) elt (dOf (kxOf X) C te))
    (hvs : own.map (·.2) = vs := by rfl) (hts : ∀ j ∈ ts, j ∈ vs := by decide) (hc : X.calm = true := by rfl) (hs : ∀ x, foldedSetIterable iter X.env x = pure x := by intro _; rfl) :
    PE X (.ListComp elt [⟨tg, iter, ifs, 0⟩] scope pos) (nOf (kxOf X) C (compR it u tt te vs)) := by
  subst hvs
  exact pe_wk (pe_lc (g := fun v σ H Q => ∃ C, gOf (kxOf X) C u ts v σ H Q) (tt := fun σ H Q => ∃ C, bOf (kxOf X) C tt σ H Q) (te := fun σ H Q => ∃ C, dOf (kxOf X) C te σ H Q) hc hN hi ok
    (fun s H c cl fp => ⟨fun pins s1 σ H1 v uu Q I r ⟨C1, q⟩ => (hg C1 s H c cl fp).run pins s1 σ H1 v uu Q I r q⟩)
    (fun s H c cl fp => ⟨fun pins s1 σ H1 Q I ⟨C1, q⟩ => (ht C1 s H c cl fp).run pins s1 σ H1 Q I q⟩)
    (fun s H c cl fp => ⟨fun pins s1 σ H1 Q I ⟨C1, q⟩ => (he C1 s H c cl fp).run pins s1 σ H1 Q I q⟩) hs)
    fun σ H Q q => lc_okR hts _ _ _ (fun C _ _ _ _ k => ⟨C, k⟩) (fun C _ _ _ k => ⟨C, k⟩) (fun C _ _ _ k => ⟨C, k⟩) q
end
section
variable {X : Cx} {C : Ct} {pos spos py : Pos} {elt tg iter : Expr} {ifs : List Expr} {scope : Scope} {own : List (Str × Nat)} {it : LF} {u : D → AS → Option AS} {ts : List Nat} {tt : BF} {te : EF} {i : Nat} {y : Str} {vs : List Nat}
theorem xs_setLcNR (hN : X.N.Nodup) (hi : PI X tg iter (iOf (kxOf X) C it)) (ok : BlkOk X.N X.env.scope scope own)
    (hg : ∀ (C : Ct) (s : Shared) (H : Hp) (c : Addr) (cl : List (Str × Addr)) (fp : List Addr), PG (X.blk s H scope (compEnvC scope cl c X.env) fp) tg (gOf (kxOf X) C u ts))
    (ht : ∀ (C : Ct) (s : Shared) (H : Hp) (c : Addr) (cl : List (Str × Addr)) (fp : List Addr), PTs (X.blk s H scope (compEnvC scope cl c X.env) fp) ifs (bOf (kxOf X) C tt))
    (he : ∀ (C : Ct) (s : Shared) (H : Hp) (c : Addr) (cl : List (Str × Addr)) (fp : List Addr), PE (X.blk s H scope (compEnvC scope cl c X.env) fp) elt (dOf (kxOf X) C te))
    (hy : X.N[i]? = some y) (hyl : X.env.scope.names.lookup y = some .local) (hsw : swapsWith (.ListComp elt [⟨tg, iter, ifs, 0⟩] scope pos) (some (.Name y py)) spos.line X.env = pure true)
    (hvs : own.map (·.2) = vs := by rfl) (hts : ∀ j ∈ ts, j ∈ vs := by decide) (hc : X.calm = true := by rfl) (hs : ∀ x, foldedSetIterable iter X.env x = pure x := by intro _; rfl) :
    PS X (.Assign [.Name y py] (.ListComp elt [⟨tg, iter, ifs, 0⟩] scope pos) spos) (sOf (kxOf X) C (asgN i (compR it u tt te vs))) := by
  subst hvs
  exact ps_wk (ps_setLc (g := fun v σ H Q => ∃ C, gOf (kxOf X) C u ts v σ H Q) (tt := fun σ H Q => ∃ C, bOf (kxOf X) C tt σ H Q) (te := fun σ H Q => ∃ C, dOf (kxOf X) C te σ H Q) hc hN hy hyl hsw hi ok
    (fun s H c cl fp => ⟨fun pins s1 σ H1 v uu Q I r ⟨C1, q⟩ => (hg C1 s H c cl fp).run pins s1 σ H1 v uu Q I r q⟩)
    (fun s H c cl fp => ⟨fun pins s1 σ H1 Q I ⟨C1, q⟩ => (ht C1 s H c cl fp).run pins s1 σ H1 Q I q⟩)
    (fun s H c cl fp => ⟨fun pins s1 σ H1 Q I ⟨C1, q⟩ => (he C1 s H c cl fp).run pins s1 σ H1 Q I q⟩) hs)
    fun Z σ H q => by
      obtain ⟨F, st, w, R, e, q⟩ := q
      obtain ⟨a, ea, e⟩ := Option.bind_eq_some_iff.mp e
      obtain ⟨st', es, e⟩ := Option.map_eq_some_iff.mp e
      cases e
      exact lc_okR hts _ _ _ (fun C _ _ _ _ k => ⟨C, k⟩) (fun C _ _ _ k => ⟨C, k⟩) (fun C _ _ _ k => ⟨C, k⟩) ⟨F, st, a, R, ea, fun p vs H1 F1 s1 R1 h0 h1 h2 h3 d1 => q _ H1 F1 s1 (R1.setO es h0 ⟨h1, vs, h2, d1⟩ h3)⟩
theorem xs_setLcDR (hN : X.N.Nodup) (hi : PI X tg iter (iOf (kxOf X) C it)) (ok : BlkOk X.N X.env.scope scope own)
    (hg : ∀ (C : Ct) (s : Shared) (H : Hp) (c : Addr) (cl : List (Str × Addr)) (fp : List Addr), PG (X.blk s H scope (compEnvC scope cl c X.env) fp) tg (gOf (kxOf X) C u ts))
    (ht : ∀ (C : Ct) (s : Shared) (H : Hp) (c : Addr) (cl : List (Str × Addr)) (fp : List Addr), PTs (X.blk s H scope (compEnvC scope cl c X.env) fp) ifs (bOf (kxOf X) C tt))
    (he : ∀ (C : Ct) (s : Shared) (H : Hp) (c : Addr) (cl : List (Str × Addr)) (fp : List Addr), PE (X.blk s H scope (compEnvC scope cl c X.env) fp) elt (dOf (kxOf X) C te))
    (hy : X.N[i]? = some y) (hyl : X.env.scope.names.lookup y = some .local) (hsw : swapsWith (.ListComp elt [⟨tg, iter, ifs, 0⟩] scope pos) (some (.Name y py)) spos.line X.env = pure true)
    (hvs : own.map (·.2) = vs := by rfl) (hts : ∀ j ∈ ts, j ∈ vs := by decide) (hc : X.calm = true := by rfl) (hs : ∀ x, foldedSetIterable iter X.env x = pure x := by intro _; rfl) :
    PS X (.Assign [.Name y py] (.ListComp elt [⟨tg, iter, ifs, 0⟩] scope pos) spos) (sOf (kxOf X) C (asgS i (listE (compR it u tt te vs)))) := by
  subst hvs
  exact ps_wk (ps_setLc (g := fun v σ H Q => ∃ C, gOf (kxOf X) C u ts v σ H Q) (tt := fun σ H Q => ∃ C, bOf (kxOf X) C tt σ H Q) (te := fun σ H Q => ∃ C, dOf (kxOf X) C te σ H Q) hc hN hy hyl hsw hi ok
    (fun s H c cl fp => ⟨fun pins s1 σ H1 v uu Q I r ⟨C1, q⟩ => (hg C1 s H c cl fp).run pins s1 σ H1 v uu Q I r q⟩)
    (fun s H c cl fp => ⟨fun pins s1 σ H1 Q I ⟨C1, q⟩ => (ht C1 s H c cl fp).run pins s1 σ H1 Q I q⟩)
    (fun s H c cl fp => ⟨fun pins s1 σ H1 Q I ⟨C1, q⟩ => (he C1 s H c cl fp).run pins s1 σ H1 Q I q⟩) hs)
    fun Z σ H q => by
      obtain ⟨F, st, w, R, e, q⟩ := q
      obtain ⟨b, eb, e⟩ := Option.bind_eq_some_iff.mp e
      obtain ⟨st', es, e⟩ := Option.map_eq_some_iff.mp e
      obtain ⟨a, ea, eb⟩ := Option.map_eq_some_iff.mp eb
      cases e
      cases eb
      exact lc_okR hts _ _ _ (fun C _ _ _ _ k => ⟨C, k⟩) (fun C _ _ _ k => ⟨C, k⟩) (fun C _ _ _ k => ⟨C, k⟩) ⟨F, st, a, R, ea, fun p vs H1 F1 s1 R1 h0 h1 h2 h3 d1 => by
        obtain ⟨k1, k2, k3⟩ := R1.freezeNew h0 h1 h2 h3 d1
        exact q _ H1 _ (s1.trans k1) (k2.setD es k3)⟩
end
theorem compR_of {it : LF} {u : D → AS → Option AS} {tt : BF} {te : EF} {vs : List Nat} {s : AS} {a : List D × AS} (h : it s = some a) (hn : savB a.2 vs = true) (hl : a.1.length ≤ sizeLine) : compR it u tt te vs s = (compL u tt te vs a.1 (Xm.clr a.2 vs)).map fun r => (r.1, rest a.2 vs r.2) := by
  unfold compR
  rw [h]
  exact if_pos ⟨hn, hl⟩
end Xm

set_option Elab.async false
set_option linter.all false
set_option maxRecDepth 100000
/-! ### a tuple turned about -/
namespace HT
open PySem PySem.Spec PyProof.Rows
section
variable {prog : Program} {w : World} {A : Around} {E : Value → Shared → Prop} {s : Shared}
theorem sliceApplied_rev {sl : Addr} {t : Tok} {n : Nat} {Q : Int × Int × Nat → Shared → Prop} (hs : s.heap.IsSliceOf sl .none .none (.int (-1) t))
    (h : Q ((n : Int) - 1, -1, n) s) : wpAny (model prog w) A (Builtin.Slice.sliceApplied (.ref sl) (pure (n : Int))) Q E s := by
  obtain ⟨os, hos, hcs, hds⟩ := id hs
  unfold Builtin.Slice.sliceApplied Builtin.Slice.sliceFields
  refine wpAny_bind (wpAny_bind (wpAny_field hos hds (x := .none) rfl (wpAny_bind (wpAny_field hos hds (x := .none) rfl (wpAny_bind (wpAny_field hos hds (x := .int (-1) t) rfl (wpAny_pure ?_)))))))
  refine wpAny_bind (slicePart_int ?_)
  show wpAny _ _ (if ((-1 : Int) == 0) = true then _ else _) _ _ s
  rw [if_neg (by decide)]
  refine wpAny_bind (slicePart_none (wpAny_bind (slicePart_none (wpAny_bind (wpAny_pure ?_)))))
  show wpAny _ _ (pure ((n : Int) - 1, (-1 : Int), Builtin.Slice.slicePlaces ((n : Int) - 1) (-1) (-1))) _ _ s
  have e : Builtin.Slice.slicePlaces ((n : Int) - 1) (-1) (-1) = n := by
    unfold Builtin.Slice.slicePlaces
    rw [if_neg (by decide)]
    split
    · rename_i h0
      have : ((n : Int) - 1 - -1 - 1) / - -1 + 1 = n := by
        rw [show (- -1 : Int) = 1 by decide, Int.ediv_one]
        omega
      rw [this]
      exact Int.toNat_natCast n
    · omega
  rw [e]
  exact wpAny_pure h
theorem fm_congr {f g : Nat → Option Value} : ∀ {l : List Nat}, (∀ m ∈ l, f m = g m) → l.filterMap f = l.filterMap g
  | [], _ => rfl
  | x :: l, h => by rw [List.filterMap_cons, List.filterMap_cons, h x (.head _), fm_congr fun m hm => h m (.tail _ hm)]
theorem pick_rev (xs : Array Value) : ((List.range xs.size).filterMap fun (m : Nat) => xs[((xs.size : Int) - 1 + (m : Int) * -1).toNat]?).toArray = xs.toList.reverse.toArray := by
  congr 1
  have e : ∀ m ∈ List.range xs.size, xs[((xs.size : Int) - 1 + (m : Int) * -1).toNat]? = xs.toList.reverse[m]? := fun m hm => by
    have hm := List.mem_range.mp hm
    rw [List.getElem?_reverse (by rw [Array.length_toList]; exact hm), Array.length_toList, Array.getElem?_toList]
    congr 1
    omega
  rw [fm_congr e]
  have gen : ∀ ys : List Value, (List.range ys.length).filterMap (fun m => ys[m]?) = ys := fun ys => by
    induction ys with
    | nil => rfl
    | cons y ys ih =>
      rw [List.length_cons, List.range_succ_eq_map, List.filterMap_cons, List.filterMap_map]
      show y :: _ = _
      congr 1
  have := gen xs.toList.reverse
  rw [List.length_reverse, Array.length_toList] at this
  exact this
theorem getItem_tuple_rev {t sl : Addr} {items : Array Value} {u : Tok} {Q : Value → Shared → Prop} (ht : IsTup s.heap t items) (hs : s.heap.IsSliceOf sl .none .none (.int (-1) u))
    (h : Q (.ref s.heap.objs.size) { s with heap := s.heap.push { cls := .type "tuple", data := .seq items.toList.reverse.toArray } })
    (hsz : items.size ≤ sizeLine) : wpAny (model prog w) A (getItem (.ref t) (.ref sl)) Q E s := by
  have htake : sizeOk (.seq items.toList.reverse.toArray) := by
    show items.toList.reverse.toArray.size ≤ sizeLine
    rw [List.size_toArray, List.length_reverse, Array.length_toList]
    exact hsz
  obtain ⟨os, hos, hcs, hds⟩ := id hs
  have hTs : s.TypeIs (.ref sl) "slice" := ⟨os, hos, hcs⟩
  unfold getItem
  try with_reducible refine wpAny_holding ?_
  first | refine wpAny_bind (wpAny_pure ?_) | skip
  refine wpAny_bind (wpAny_sequenceKey ht.typeIs (by decide) ?_)
  refine wpAny_bind (wpAny_callSpecial?_slot (name := Str.ofString "__getitem__") ht.typeIs PyProof.Rows.slot_tuple_getitem
    (wpAny_call_entry PyProof.Rows.slot_tuple_getitem ht.typeIs entry_tuple_getitem ?_ (args_tuple_getitem _ _)))
  show wpAny _ _ (Builtin.Tuple.tupleItemsOf (.ref t) >>= _) _ _ s
  refine wpAny_bind (tupleItemsOf_ ht ?_)
  refine wpAny_bind (wpAny_typeOf hTs ?_)
  rw [if_pos (by decide)]
  refine wpAny_bind (sliceApplied_rev hs ?_)
  have hno : ¬ ((((items.size : Int) - 1 == 0 && (-1 : Int) == 1 && items.size == items.size)) = true) := by simp
  show wpAny _ _ (if ((items.size : Int) - 1 == 0 && (-1 : Int) == 1 && items.size == items.size) = true then _ else _) _ _ s
  rw [if_neg hno, pick_rev]
  first
    | exact wpAny_bind (m := Builtin.Tuple.tupleExact _) (wpAny_newObj_type (wpAny_pure ⟨_, rfl, wpAny_pure h⟩) htake)
    | exact wpAny_bind (m := Builtin.Tuple.tupleExact _) (wpAny_newObj_type (wpAny_bind (wpAny_pure (wpAny_pure ⟨_, rfl, wpAny_pure h⟩))) htake)
    | exact wpAny_bind (wpAny_bind (m := Builtin.Tuple.tupleExact _) (wpAny_newObj_type (wpAny_pure (wpAny_pure ⟨_, rfl, wpAny_pure h⟩)) htake))
    | exact wpAny_bind (wpAny_bind (m := Builtin.Tuple.tupleExact _) (wpAny_newObj_type (wpAny_pure ⟨_, rfl, wpAny_pure h⟩) htake))
end
end HT
namespace Xm
open PySem PySem.Spec PyProof.Rows L2 RZ
def revA (f : EF) : EF := fun st => (f st).bind fun a => match a.1 with
  | .list xs => some (.list xs.reverse, a.2)
  | .tuple xs => some (.tuple xs.reverse, a.2)
  | _ => none
section
variable {X : Cx} {C : Ct} {pos p2 : Pos} {e : Expr} {f : EF}
def tRevT (K : Kx) (te : TE) : TE := fun σ H Q => te σ H fun x H1 => ∃ a xs, x = .ref a ∧ SqT K.K H1 a xs ∧ ∀ p, H1 p = none → Q (.ref p) (upd H1 p (.tup xs.reverse))
theorem pe_revTup {e : Expr} {te : TE} {k : Nat} {p1 p2 p3 pos : Pos} (he : PE X e te) : PE X (.Subscript e (.Slice none none (some (.UnaryOp .USub (.Constant (.int 1) k p1) p2)) p3) pos) (fun σ H Q => te σ H fun x H1 => (∃ a xs, x = .ref a ∧ SqL X.K H1 a xs ∧ ∀ p, H1 p = none → Q (.ref p) (upd H1 p (.lst xs.reverse))) ∨ ∃ a xs, x = .ref a ∧ SqT X.K H1 a xs ∧ ∀ p, H1 p = none → Q (.ref p) (upd H1 p (.tup xs.reverse))) := by
  refine ⟨fun pins s σ H Q I h => ?_⟩
  refine Subscript_ (thn (he.run pins s σ H _ I h) fun v s1 ⟨x, H1, I1, r1, q1⟩ => ?_)
  have hst : PO X (some (.UnaryOp .USub (.Constant (.int 1) k p1) p2)) (tPart (tUn (rU fun i => .int (-i)) (tC (.int 1)))) := po_some (pe_un un_neg pe_int)
  refine wpAny_Slice (thn (po_none.run pins s1 σ H1 (fun o H2 => o = none ∧ H2 = H1) I1 ⟨rfl, rfl⟩) fun vl s2 ⟨l, H2, I2, pl, el, e2⟩ => ?_)
  subst el e2
  refine thn (po_none.run pins s2 σ H2 (fun o H3 => o = none ∧ H3 = H2) I2 ⟨rfl, rfl⟩) fun vu s3 ⟨u, H3, I3, pu, eu, e3⟩ => ?_
  subst eu e3
  refine thn (hst.run pins s3 σ H3 (fun o H4 => o = some (-1) ∧ H4 = H3) I3 ⟨1, rfl, -1, rfl, rfl, rfl⟩) fun vs s4 ⟨o, H4, I4, ps, eo, e4⟩ => ?_
  subst eo e4
  have I5 : Inv X pins σ H4 { s4 with heap := s4.heap.push { cls := .type "slice", data := .fields #[vl, vu, vs] } } := I4.kept (t' := s4.toks) fun b ob q => Heap.get?_push_of_some _ q
  rcases q1 with ⟨a, xs, ex, hx, q⟩ | ⟨a, xs, ex, hx, q⟩
  · subst ex
    cases r1
    obtain ⟨its, r, ht, hz⟩ := I5.list hx
    have hlen := r.length
    show wpAny (model X.prog X.w) X.A (subscriptTail e (.Slice none none (some (.UnaryOp .USub (.Constant (.int 1) k p1) p2)) p3) (.ref a) (.ref s4.heap.objs.size)) (EP X pins σ Q) X.xe { s4 with heap := s4.heap.push { cls := .type "slice", data := .fields #[vl, vu, vs] } }
    refine tail_any (ops := [.ref a, .ref s4.heap.objs.size]) ht.isList.typeIs (PySem.slot_list_getitem.lookup) ?_ (by with_unfolding_all rfl)
    refine wpAny_getItem_list_slice ht.isList (Heap.IsSliceOf.new _ vl vu vs) pl pu ps (by decide) ?_ (by rw [List.size_toArray]; omega)
    rw [PySem.W.krv_pick]
    refine ⟨.ref _, _, I5.laid (t' := s4.toks) (o := .lst xs.reverse) (fun b ob q => Heap.get?_push_of_some _ q) (Nat.le_refl _) ?_, rfl, q _ (I5.hok.fresh (Nat.le_refl _))⟩
    exact ⟨by rw [List.length_reverse]; exact hz, _, 0, r.reverse, Heap.get?_push_size _ rfl⟩
  · subst ex
    cases r1
    obtain ⟨its, r, ht, hz⟩ := I5.tuple hx
    have hlen := r.length
    cases pl
    cases pu
    cases ps
    show wpAny (model X.prog X.w) X.A (subscriptTail e (.Slice none none (some (.UnaryOp .USub (.Constant (.int 1) k p1) p2)) p3) (.ref a) (.ref s4.heap.objs.size)) (EP X pins σ Q) X.xe { s4 with heap := s4.heap.push { cls := .type "slice", data := .fields #[_, _, _] } }
    refine tail_any (ops := [.ref a, .ref s4.heap.objs.size]) ht.typeIs (PyProof.Rows.slot_tuple_getitem.lookup) ?_ (by with_unfolding_all rfl)
    refine HT.getItem_tuple_rev ht (Heap.IsSliceOf.new _ _ _ _) ?_ (by rw [List.size_toArray]; omega)
    refine ⟨.ref _, _, I5.laid (t' := s4.toks) (o := .tup xs.reverse) (fun b ob q => Heap.get?_push_of_some _ q) (Nat.le_refl _) ?_, rfl, q _ (I5.hok.fresh (Nat.le_refl _))⟩
    exact ⟨by rw [List.length_reverse]; exact hz, _, r.reverse, IsTup.new _ _⟩
theorem xd_revA {k : Nat} {p1 p3 : Pos} (he : PE X e (dOf (kxOf X) C f)) : PE X (.Subscript e (.Slice none none (some (.UnaryOp .USub (.Constant (.int 1) k p1) p2)) p3) pos) (dOf (kxOf X) C (revA f)) :=
  pe_wk (pe_revTup he) fun σ H Q q => by
    obtain ⟨F, st, w, R, e, q⟩ := q
    obtain ⟨a, ea, e⟩ := Option.bind_eq_some_iff.mp e
    split at e
    · rename_i xs hx
      cases e
      refine ⟨F, st, a, R, ea, fun v H1 F1 s1 R1 d1 => ?_⟩
      rw [hx] at d1
      cases d1 with
      | @lst a0 vs0 _ hs hv =>
        refine .inl ⟨_, _, rfl, sql_up R1.fh hs, fun p hp => ?_⟩
        have gr := Gr.new (o := .lst vs0.reverse) R1.fh hp
        exact q _ _ _ (s1.trans gr.ff) (R1.grow gr) (.lst (.inl (.inl upd_same)) (DpAll_up (DpAll_rev hv) gr.ff))
    · rename_i xs hx
      cases e
      refine ⟨F, st, a, R, ea, fun v H1 F1 s1 R1 d1 => ?_⟩
      rw [hx] at d1
      cases d1 with
      | @tup a0 vs0 _ hs hv =>
        refine .inr ⟨_, _, rfl, sqt_up R1.fh hs, fun p hp => ?_⟩
        have gr := Gr.new (o := .tup vs0.reverse) R1.fh hp
        exact q _ _ _ (s1.trans gr.ff) (R1.grow gr) (.tup (.inl (.inl upd_same)) (DpAll_up (DpAll_rev hv) gr.ff))
    · cases e
end

/-! ### list(x) as a new list; list(range(..)) -/
def toNew (f : EF) : LF := fun st => (f st).bind fun a => match a.1 with
  | .list xs => some (xs, a.2)
  | .tuple xs => some (xs, a.2)
  | _ => none
def lstR1 (f : EF) : LF := fun st => (f st).bind fun a => match a.1 with
  | .int j => if 0 ≤ j ∧ j ≤ 1000000 then some (rngD 0 j, a.2) else none
  | _ => none
theorem rgV_dp {K : Kx} {F : Hp} (a b : Int) : DpAll K F (rgV a b) (rngD a b) := by
  unfold rgV rngD
  generalize (b - a).toNat = n
  have gen : ∀ l : List Nat, DpAll K F (l.map fun i => V.int (a + (i : Nat))) (l.map fun (k : Nat) => .int (a + (k : Int))) := fun l => by
    induction l with
    | nil => exact .nil
    | cons x l ih => exact .cons (.int _) ih
  exact gen _
section
variable {X : Cx} {C : Ct} {pos p p2 pos2 : Pos} {a : Expr} {f : EF}
theorem xn_tolist (hm : X.mg "list" = none) (ha : PE X a (dOf (kxOf X) C f)) (hg : Gl X "list" := by rfl) (he : starEach [a] X.env = (false, eval a X.env) :: starEach [] X.env := by rfl) (hpl : (backTo pos (starEach [] X.env)).any (·.1) = false := by rfl) :
    PE X (.Call (.Name "list" p) [a] [] pos) (nOf (kxOf X) C (toNew f)) :=
  pe_wk (pe_callTy call_list_of hg hm (by decide +kernel) (pa_cons ha pa_nil he) (he := he) (hpl := hpl)) fun σ H Q q => by
    obtain ⟨F, st, w, R, e, q⟩ := q
    obtain ⟨b, eb, e⟩ := Option.bind_eq_some_iff.mp e
    refine ⟨F, st, b, R, eb, fun v H1 F1 s1 R1 d1 => ?_⟩
    split at e
    · rename_i xs hx
      cases e
      rw [hx] at d1
      cases d1 with
      | @lst a0 vs0 _ hs hv =>
        refine ⟨_, _, rfl, .inl (sql_up R1.fh hs), fun l hl => ?_⟩
        obtain ⟨A, hf⟩ := R1.aside hl
        exact q l vs0 _ F1 s1 (R1.write A) A.h0 A.f upd_same A.ap hv
    · rename_i xs hx
      cases e
      rw [hx] at d1
      cases d1 with
      | @tup a0 vs0 _ hs hv =>
        refine ⟨_, _, rfl, .inr (sqt_up R1.fh hs), fun l hl => ?_⟩
        obtain ⟨A, hf⟩ := R1.aside hl
        exact q l vs0 _ F1 s1 (R1.write A) A.h0 A.f upd_same A.ap hv
    · cases e
theorem xn_listR1 (hc : X.calm = true) (hm : X.mg "list" = none) (hm2 : X.mg "range" = none) (ha : PE X a (dOf (kxOf X) C f)) (hg : Gl X "list" := by rfl) (hg2 : Gl X "range" := by rfl) (na : starEach [a] X.env = (false, eval a X.env) :: starEach [] X.env := by rfl)
    (na2 : starEach [.Call (.Name "range" p2) [a] [] pos2] X.env = (false, eval (.Call (.Name "range" p2) [a] [] pos2) X.env) :: starEach [] X.env := by rfl) :
    PE X (.Call (.Name "list" p) [.Call (.Name "range" p2) [a] [] pos2] [] pos) (nOf (kxOf X) C (lstR1 f)) :=
  pe_wk (pe_listRg hc hg hm (prg_1 hg2 hm2 ha na) na2) fun σ H Q q => by
    obtain ⟨F, st, w, R, e, q⟩ := q
    obtain ⟨b, eb, e⟩ := Option.bind_eq_some_iff.mp e
    refine ⟨F, st, b, R, eb, fun v H1 F1 s1 R1 d1 => ?_⟩
    split at e
    · rename_i j hj
      split at e <;> cases e
      rename_i hb
      rw [hj] at d1
      refine ⟨j, dp_int d1, RgOk.of_le (by omega) (by omega) (by omega) (by omega), fun l hl => ?_⟩
      obtain ⟨A, hf⟩ := R1.aside hl
      exact q l _ _ F1 s1 (R1.write A) A.h0 A.f upd_same A.ap (rgV_dp _ _)
    · cases e
end

/-! ### zip, enumerate -/
def prD : List D → List D → List D
  | x :: xs, y :: ys => .tuple [x, y] :: prD xs ys
  | _, _ => []
theorem prD_get : ∀ (xs ys : List D) (i : Nat) (d : D), (prD xs ys)[i]? = some d → ∃ x y, xs[i]? = some x ∧ ys[i]? = some y ∧ d = .tuple [x, y]
  | [], _, i, d, h => by simp [prD] at h
  | _ :: _, [], i, d, h => by simp [prD] at h
  | x :: xs, y :: ys, 0, d, h => by
    simp [prD] at h
    exact ⟨x, y, rfl, rfl, h.symm⟩
  | x :: xs, y :: ys, i + 1, d, h => by
    simp [prD] at h
    obtain ⟨x', y', h1, h2, h3⟩ := prD_get xs ys i d h
    exact ⟨x', y', h1, h2, h3⟩
theorem prD_len : ∀ (xs ys : List D), (prD xs ys).length = min xs.length ys.length
  | [], _ => by simp [prD]
  | _ :: _, [] => by simp [prD]
  | x :: xs, y :: ys => by simp [prD, prD_len xs ys]
def itZip (f g : EF) : LF := fun st => (f st).bind fun a => (g a.2).bind fun b => match a.1, b.1 with
  | .list xs, .list ys => some (prD xs ys, b.2)
  | .tuple xs, .tuple ys => some (prD xs ys, b.2)
  | _, _ => none
theorem pair_new {K : Kx} {H : Hp} {T : Addr} {x y : V} {d d' : D} {F : Hp} (hx : Dp K F x d) (hy : Dp K F y d') (hT : H T = none) : ∃ G : Hp, (∀ a o, G a = some o → upd H T (.tup [x, y]) a = some o ∧ H a = none) ∧ Same H (upd H T (.tup [x, y])) ∧ ∀ F1, Same F F1 → Same G F1 → Dp K F1 (.ref T) (.tuple [d, d']) := by
  refine ⟨upd (fun _ => none) T (.tup [x, y]), fun a o e => ?_, same_upd hT, fun F1 s1 s2 => ?_⟩
  · by_cases ha : a = T
    · subst ha
      rw [upd_same] at e ⊢
      exact ⟨e, hT⟩
    · rw [upd_ne ha] at e
      cases e
  · exact .tup (.inl (.inl (s2 _ _ upd_same))) (.cons (Dp_up hx s1) (.cons (Dp_up hy s1) .nil))
theorem itz_ok {K : Kx} {F : Hp} {a b : Addr} {vs us : List V} {xs ys : List D} (hs : SqL K.K F a vs) (hv : DpAll K F vs xs) (ht : SqL K.K F b us) (hu : DpAll K F us ys) : ItOk K F (Itz K.K a b) (prD xs ys) where
  go := fun i H hi e => by
    rw [prD_len] at hi
    exact ⟨vs, us, vs[i]'(by rw [DpAll_len hv]; omega), us[i]'(by rw [DpAll_len hu]; omega), sql_up e hs, sql_up e ht, by simp, by simp⟩
  stop := fun H e => ⟨vs, us, sql_up e hs, sql_up e ht, by rw [prD_len, DpAll_len hv, DpAll_len hu]; omega⟩
  yld := fun i H x H' d hd e y => by
    obtain ⟨T, x1, y1, rfl, hT, rfl, h1, h2⟩ := y
    obtain ⟨dx, dy, k1, k2, rfl⟩ := prD_get _ _ _ _ hd
    obtain ⟨v, g1, g2⟩ := DpAll_get hv k1
    obtain ⟨u, g3, g4⟩ := DpAll_get hu k2
    have e1 := h1 vs (sql_up e hs)
    have e2 := h2 us (sql_up e ht)
    rw [g1] at e1
    rw [g3] at e2
    cases e1
    cases e2
    exact pair_new g2 g4 hT
theorem itzT_ok {K : Kx} {F : Hp} {a b : Addr} {vs us : List V} {xs ys : List D} (hs : SqT K.K F a vs) (hv : DpAll K F vs xs) (ht : SqT K.K F b us) (hu : DpAll K F us ys) : ItOk K F (ItzT K.K a b) (prD xs ys) where
  go := fun i H hi e => by
    rw [prD_len] at hi
    exact ⟨vs, us, vs[i]'(by rw [DpAll_len hv]; omega), us[i]'(by rw [DpAll_len hu]; omega), sqt_up e hs, sqt_up e ht, by simp, by simp⟩
  stop := fun H e => ⟨vs, us, sqt_up e hs, sqt_up e ht, by rw [prD_len, DpAll_len hv, DpAll_len hu]; omega⟩
  yld := fun i H x H' d hd e y => by
    obtain ⟨T, x1, y1, rfl, hT, rfl, h1, h2⟩ := y
    obtain ⟨dx, dy, k1, k2, rfl⟩ := prD_get _ _ _ _ hd
    obtain ⟨v, g1, g2⟩ := DpAll_get hv k1
    obtain ⟨u, g3, g4⟩ := DpAll_get hu k2
    have e1 := h1 vs (sqt_up e hs)
    have e2 := h2 us (sqt_up e ht)
    rw [g1] at e1
    rw [g3] at e2
    cases e1
    cases e2
    exact pair_new g2 g4 hT
section
variable {X : Cx} {C : Ct} {pos p tpos : Pos} {elts : List Expr} {kk : Nat} {a b : Expr} {f g : EF}
theorem xi_zip (hm : X.mg "zip" = none) (ha : PE X a (dOf (kxOf X) C f)) (hb : PE X b (dOf (kxOf X) C g)) (hg : Gl X "zip" := by rfl)
    (hs : starEach [a, b] X.env = (false, eval a X.env) :: starEach [b] X.env := by rfl) (hs2 : starEach [b] X.env = (false, eval b X.env) :: starEach [] X.env := by rfl) (hpl : (backTo pos (starEach [b] X.env)).any (·.1) = false := by rfl) :
    PI X (.Tuple elts kk tpos) (.Call (.Name "zip" p) [a, b] [] pos) (iOf (kxOf X) C (itZip f g)) :=
  pi_wk (pi_zipA hg hm (pa_cons ha (pa_cons hb pa_nil hs2) hs) hs hpl) fun σ H R q => by
    obtain ⟨F, st, w, Rl, e, q⟩ := q
    obtain ⟨x, ex, e⟩ := Option.bind_eq_some_iff.mp e
    obtain ⟨y, ey, e⟩ := Option.bind_eq_some_iff.mp e
    refine ⟨F, st, x, Rl, ex, fun v H1 F1 s1 R1 d1 => ⟨F1, x.2, y, R1, ey, fun u H2 F2 s2 R2 d2 => ?_⟩⟩
    split at e
    · rename_i xs ys hx hy
      cases e
      rw [hx] at d1
      rw [hy] at d2
      cases Dp_up d1 s2 with
      | lst h1 h2 =>
        cases d2 with
        | lst h3 h4 => exact ⟨_, _, _, _, rfl, .inl ⟨sql_up R2.fh h1, sql_up R2.fh h3, q _ H2 F2 (s1.trans s2) R2 (itz_ok h1 h2 h3 h4)⟩⟩
    · rename_i xs ys hx hy
      cases e
      rw [hx] at d1
      rw [hy] at d2
      cases Dp_up d1 s2 with
      | tup h1 h2 =>
        cases d2 with
        | tup h3 h4 => exact ⟨_, _, _, _, rfl, .inr ⟨sqt_up R2.fh h1, sqt_up R2.fh h3, q _ H2 F2 (s1.trans s2) R2 (itzT_ok h1 h2 h3 h4)⟩⟩
    · cases e
end
section
variable {f g : EF} {st : AS}
@[simp] theorem e_revA : revA f st = (f st).bind fun a => (match a.1 with
  | .list xs => some (.list xs.reverse, a.2)
  | .tuple xs => some (.tuple xs.reverse, a.2)
  | _ => none) := rfl
@[simp] theorem e_toNew : toNew f st = (f st).bind fun a => (match a.1 with
  | .list xs => some (xs, a.2)
  | .tuple xs => some (xs, a.2)
  | _ => none) := rfl
@[simp] theorem e_itZip : itZip f g st = (f st).bind fun a => (g a.2).bind fun b => (match a.1, b.1 with
  | .list xs, .list ys => some (prD xs ys, b.2)
  | .tuple xs, .tuple ys => some (prD xs ys, b.2)
  | _, _ => none) := rfl
end
theorem lstR1_nat {f : EF} {st st' : AS} {k : Nat} (h : f st = some (.int (k : Int), st')) (hk : k ≤ 1000000) : lstR1 f st = some (rngD 0 k, st') := by
  unfold lstR1
  rw [h]
  simp only [Option.bind_some]
  rw [if_pos (by omega)]

/-! ### a short factor times whatever -/
def kMulB : D → D → Option D
  | .int i, .int j => if i.natAbs < 2 ^ 62 then some (.int (i * j)) else none
  | _, _ => none
def CMulB (i _ : Int) : Prop := i.natAbs < 2 ^ 62
theorem CMulB.ok {i j : Int} (h : CMulB i j) : IntMulOk i j := by
  refine IntMulOk.of_left ?_
  have b : Builtin.Int.intBits i ≤ i.natAbs.log2 + 1 := by
    unfold Builtin.Int.intBits
    split <;> omega
  have : i.natAbs.log2 < 62 := PySem.Flt.log2_lt_of (by omega) h
  omega
theorem op_mulB {X : Cx} : OpR X (binaryOp .Mult) (rI CMulB fun i j => .int (i * j)) := opI fun _ _ _ _ _ _ _ hc q => mul_int q hc.ok
theorem ok_mulB {K : Kx} : Ok2 K (rI CMulB fun i j => .int (i * j)) kMulB := okI (gd := fun i j => .int (i * j)) (fun a b z e => by
  unfold kMulB at e; split at e
  · split at e <;> cases e
    rename_i h
    exact ⟨_, _, rfl, rfl, rfl, h⟩
  · cases e) fun _ _ _ => .int _
theorem xd_mulB {X : Cx} {C : Ct} {pos : Pos} {a b : Expr} {f g : EF} (ha : PE X a (dOf (kxOf X) C f)) (hb : PE X b (dOf (kxOf X) C g)) : PE X (.BinOp a .Mult b pos) (dOf (kxOf X) C (bin2 kMulB f g)) := xd_op op_mulB ok_mulB ha hb
theorem k_mulB {i j : Int} (h : i.natAbs < 2 ^ 62) : kMulB (.int i) (.int j) = some (.int (i * j)) := if_pos h
end Xm

set_option Elab.async false
set_option linter.all false
set_option maxRecDepth 100000
namespace Xm
open PySem PySem.Spec PyProof.Rows L2

/-! ### x += e, whole numbers -/
def augS (i : Nat) (f : EF) : SF := fun st => match st[i]? with
  | some (.dat (.int a)) => (f st).bind fun b => match b.1 with
    | .int j => (setD i (.int (a + j)) b.2).map fun st' => (.nx, st')
    | _ => none
  | _ => none
section
variable {X : Cx} {C : Ct} {pos : Pos} {e : Expr} {f : EF}
theorem xs_aug {i : Nat} {x : Str} {pos' : Pos} (hN : X.N.Nodup) (he : PE X e (dOf (kxOf X) C f)) (hi : X.N[i]? = some x) (hx : Loc X.env.scope x) (hf : X.fn x = true ∨ X.env.scope.names.lookup x = some .local := by first | exact .inl rfl | exact .inr rfl | assumption) :
    PS X (.AugAssign (.Name x pos') .Add e pos) (sOf (kxOf X) C (augS i f)) := ps_wk (ps_aug hN hi hx he ip_add hf) fun Z σ H q => by
  obtain ⟨F, st, w, R, e, q⟩ := q
  unfold augS at e
  split at e
  · rename_i a ha
    obtain ⟨b, eb, e⟩ := Option.bind_eq_some_iff.mp e
    split at e
    · rename_i j hj
      obtain ⟨st', es, e⟩ := Option.map_eq_some_iff.mp e
      cases e
      obtain ⟨v, h1, h2⟩ := R.slot i _ ha
      rw [dp_int h2] at h1
      refine ⟨.int a, h1, F, st, b, R, eb, fun y H1 F1 s1 R1 d1 => ?_⟩
      rw [hj] at d1
      exact ⟨a, j, rfl, dp_int d1, q _ H1 F1 s1 (R1.setD es (.int _))⟩
    · cases e
  · cases e
end
@[simp] theorem e_augS {i : Nat} {f : EF} {st : AS} : augS i f st = (match st[i]? with
  | some (.dat (.int a)) => (f st).bind fun b => (match b.1 with
    | .int j => (setD i (.int (a + j)) b.2).map fun st' => (.nx, st')
    | _ => none)
  | _ => none) := rfl

/-! ### xs.reverse(), xs.pop() of a list that is changed -/
def revM (i : Nat) : EF := fun st => (muC st i).map fun xs => (.none, putM st i xs.reverse)
def pop0 (i : Nat) : EF := fun st => (muC st i).bind fun xs => (xs[xs.length - 1]?).map fun z => (z, putM st i xs.dropLast)
theorem DpAll_dropLast {K : Kx} {F : Hp} {vs : List V} {ds : List D} (h : DpAll K F vs ds) : DpAll K F vs.dropLast ds.dropLast := by
  rw [List.dropLast_eq_take, List.dropLast_eq_take, DpAll_len h]
  exact DpAll_take _ h
section
variable {X : Cx} {C : Ct} {apos cpos : Pos} {o : Expr}
theorem xd_reverse {i : Nat} (ho : PE X o (tVar i)) (hbase : attributeBase o "reverse" X.env (eval o X.env) = eval o X.env := by rfl) (hline : (apos.endLine == cpos.line) = true := by rfl) :
    PE X (.Call (.Attribute o "reverse" apos) [] [] cpos) (dOf (kxOf X) C (revM i)) :=
  pe_wk (pe_bm0 PySem.F.plainAttrs_list PySem.F.slot_list_reverse PySem.F.type_list_reverse mt_reverse ho hbase hline) fun σ H Q q => by
    obtain ⟨F, st, w, R, e, q⟩ := q
    obtain ⟨xs, ex, e⟩ := Option.map_eq_some_iff.mp e
    cases e
    obtain ⟨a, h1, ⟨hF, vs, hH, hv⟩, _⟩ := R.mu ex
    exact ⟨.ref a, h1, .inl ⟨rfl, _, .inl (.inl hH)⟩, a, vs, rfl, rfl, hH, q .non _ F (Same.refl _) (R.put ex h1 (DpAll_rev hv)) .non⟩
theorem xd_pop0 {i : Nat} (ho : PE X o (tVar i)) (hbase : attributeBase o "pop" X.env (eval o X.env) = eval o X.env := by rfl) (hline : (apos.endLine == cpos.line) = true := by rfl) :
    PE X (.Call (.Attribute o "pop" apos) [] [] cpos) (dOf (kxOf X) C (pop0 i)) :=
  pe_wk (pe_bm0 PySem.F.plainAttrs_list PySem.F.slot_list_pop PySem.F.type_list_pop mt_pop ho hbase hline) fun σ H Q q => by
    obtain ⟨F, st, w, R, e, q⟩ := q
    obtain ⟨xs, ex, e⟩ := Option.bind_eq_some_iff.mp e
    obtain ⟨z, ez, e⟩ := Option.map_eq_some_iff.mp e
    cases e
    obtain ⟨a, h1, ⟨hF, vs, hH, hv⟩, _⟩ := R.mu ex
    rw [← DpAll_len hv] at ez
    obtain ⟨v, g1, g2⟩ := DpAll_get hv ez
    exact ⟨.ref a, h1, .inl ⟨rfl, _, .inl (.inl hH)⟩, a, vs, v, rfl, rfl, hH, g1, q v _ F (Same.refl _) (R.put ex h1 (DpAll_dropLast hv)) g2⟩
end
@[simp] theorem e_revM {i : Nat} {st : AS} : revM i st = (muC st i).map fun xs => (.none, putM st i xs.reverse) := rfl
/-- a measure that is great enough where few turns are made -/
def msC (_ : AS) : Nat := 1000

/-! ### repr of a list that is changed further -/
def reprM (i : Nat) : EF := fun st => (muC st i).bind fun xs => (kRepr (.list xs)).map fun z => (z, st)
section
variable {X : Cx} {C : Ct} {pos p : Pos} {a : Expr}
theorem xd_reprM {i : Nat} (hu : X.A.units + 200 < cLine) (gd : X.A.guards = some []) (hm : X.mg "repr" = none) (ha : PE X a (tVar i)) (hg : Gl X "repr" := by rfl) (he : starEach [a] X.env = (false, eval a X.env) :: starEach [] X.env := by rfl) (hpl : (backTo pos (starEach [] X.env)).any (·.1) = false := by rfl) :
    PE X (.Call (.Name "repr" p) [a] [] pos) (dOf (kxOf X) C (reprM i)) :=
  pe_wk (pe_callB (call_reprA hu gd) hg hm (by decide +kernel) (pa_cons ha pa_nil he) (he := he) (hpl := hpl)) fun σ H Q q => by
    obtain ⟨F, st, w, R, e, q⟩ := q
    obtain ⟨xs, ex, e⟩ := Option.bind_eq_some_iff.mp e
    obtain ⟨z, ez, e⟩ := Option.map_eq_some_iff.mp e
    cases e
    obtain ⟨ad, h1, ⟨hF, vs, hH, hv⟩, _⟩ := R.mu ex
    obtain ⟨h2, rfl⟩ := ite_eq (c := isSeq (.list xs) = true ∧ Rp (.list xs)) (a := (.str (PyData.shown (.list xs)) : D)) ez
    exact ⟨.ref ad, h1, .inr ⟨ad, .list xs, rfl, .lst (.inl (.inl hH)) (DpAll_up hv R.fh), h2.2, q _ H F (Same.refl _) R (.str _)⟩⟩
end
@[simp] theorem e_reprM {i : Nat} {st : AS} : reprM i st = (muC st i).bind fun xs => (kRepr (.list xs)).map fun z => (z, st) := rfl
end Xm

set_option Elab.async false
set_option linter.all false
set_option maxRecDepth 100000
namespace Xm
open PySem PySem.Spec PyProof.Rows L2

/-! ### dead names are dropped -/
def clrS (vs : List Nat) (b : SF) : SF := fun st => (b st).map fun w => match w.1 with
  | .nx => (.nx, clr w.2 vs)
  | .cont => (.cont, clr w.2 vs)
  | _ => w
theorem Rel.clrN {K : Kx} {C : Ct} {F H : Hp} {st : AS} {σ : L2.St} (R : Rel K C F st σ H) (vs : List Nat) : Rel K C F (Xm.clr st vs) σ H :=
  rel_mono_slots R (clr_len st vs) fun i s h => by
    rw [clr_get] at h
    split at h
    · cases h; exact .inl rfl
    · exact .inr h
theorem clrS_ok {K : Kx} {C : Ct} {vs : List Nat} {b : SF} {Z : Ends} {σ : L2.St} {H : Hp} (q : sOf K C (clrS vs b) Z σ H) : sOf K C b Z σ H := by
  obtain ⟨F, st, w, R, e, q⟩ := q
  obtain ⟨v, ev, e⟩ := Option.map_eq_some_iff.mp e
  refine ⟨F, st, v, R, ev, ?_⟩
  obtain ⟨fl, s2⟩ := v
  cases fl with
  | nx => cases e; exact fun σ' H' F' s1 R1 => q σ' H' F' s1 (R1.clrN vs)
  | cont => cases e; exact fun σ' H' F' s1 R1 => q σ' H' F' s1 (R1.clrN vs)
  | brk => cases e; exact q
  | ret r => cases e; exact q
section
variable {X : Cx} {C : Ct} {s : Stmt} {ss : List Stmt} {b : SF}
theorem xs_clr (vs : List Nat) (h : PS X s (sOf (kxOf X) C b)) : PS X s (sOf (kxOf X) C (clrS vs b)) := ps_wk h fun _ _ _ q => clrS_ok q
theorem xss_clr (vs : List Nat) (h : PSs X ss (sOf (kxOf X) C b)) : PSs X ss (sOf (kxOf X) C (clrS vs b)) := pss_wk h fun _ _ _ q => clrS_ok q
end

/-! ### what is to be shown where a function is run at a state -/
def Wp {α : Type} (f : AS → Option (α × AS)) (st : AS) (Q : α → AS → Prop) : Prop := ∃ a s, f st = some (a, s) ∧ Q a s
theorem ex_of {α : Type} {k : Option α} {z : α} {P : α → Prop} (h : k = some z) (q : P z) : ∃ z, k = some z ∧ P z := ⟨z, h, q⟩
theorem ex_eq {α : Type} {a : α} {P : α → Prop} (q : P a) : ∃ z, a = z ∧ P z := ⟨a, rfl, q⟩
theorem ite_t {b : Bool} {P R : Prop} (h : b = true) (p : P) : if b = true then P else R := by rw [if_pos h]; exact p
theorem ite_f {b : Bool} {P R : Prop} (h : b = false) (p : R) : if b = true then P else R := by rw [if_neg (by rw [h]; exact Bool.false_ne_true)]; exact p
theorem ite_b {b : Bool} {P R : Prop} (p : b = true → P) (r : b = false → R) : if b = true then P else R := by
  cases b with
  | true => rw [if_pos rfl]; exact p rfl
  | false => rw [if_neg Bool.false_ne_true]; exact r rfl
theorem ex_bool {x : Bool} {P : Bool → Prop} (q : P x) : ∃ b, PyData.bool x = .bool b ∧ P b := ⟨x, rfl, q⟩
theorem ex_int {x : Int} {P : Int → Prop} (q : P x) : ∃ b, PyData.int x = .int b ∧ P b := ⟨x, rfl, q⟩
theorem ex_new {x : List D} {P : List D → Prop} (q : P x) : ∃ b, RV.new x = .new b ∧ P b := ⟨x, rfl, q⟩
theorem np_and {o : Option Slot} {P : Prop} (h : npO o = true) (q : P) : npO o = true ∧ P := ⟨h, q⟩
theorem len_and {n : Nat} {P : Prop} (h : n ≤ sizeLine) (q : P) : n ≤ sizeLine ∧ P := ⟨h, q⟩
theorem mu_and {st : AS} {i : Nat} {xs : List D} {P : List D → Prop} (h : muC st i = some xs) (q : P xs) : ∃ ys, muC st i = some ys ∧ P ys := ⟨xs, h, q⟩
theorem ix_sh0 {q : Rat} : kIx (sh q) (.int 0) = some (.int q.num) := rfl
theorem ix_sh1 {q : Rat} : kIx (sh q) (.int 1) = some (.int q.den) := rfl
def kCut (d : D) (lo hi : Option Int) : Option D := match d with
  | .list xs => some (.list (cutX xs lo hi))
  | .tuple xs => some (.tuple (cutX xs lo hi))
  | _ => none
theorem k_cutL {xs : List D} {lo hi : Option Int} : kCut (.list xs) lo hi = some (.list (cutX xs lo hi)) := rfl
theorem k_cutT {xs : List D} {lo hi : Option Int} : kCut (.tuple xs) lo hi = some (.tuple (cutX xs lo hi)) := rfl
theorem ex_arr {mf : List D → Option RV} {src : List (Nat ⊕ Nat)} {us ws ds : List D} {P : RV → Prop} (h : arr .none src us ws = ds) (q : ∃ r, mf ds = some r ∧ P r) : ∃ r, mf (arr .none src us ws) = some r ∧ P r := by rw [h]; exact q
theorem ite_nes {x : Str} {P R : Prop} (p : R) : if (!decide (x = x)) = true then P else R := by rw [decide_eq_true rfl]; exact p
theorem ite_eqs {x : Str} {P R : Prop} (p : P) : if (decide (x = x)) = true then P else R := by rw [decide_eq_true rfl]; exact p
theorem ite_nei {x : Int} {P R : Prop} (p : R) : if (!(x == x)) = true then P else R := by rw [beq_self_eq_true]; exact p
theorem ite_eqi {x : Int} {P R : Prop} (p : P) : if (x == x) = true then P else R := by rw [beq_self_eq_true]; exact p
theorem ite_tt {P R : Prop} (p : P) : if true = true then P else R := p
theorem ite_ff {P R : Prop} (p : R) : if false = true then P else R := p
theorem ite_nt {P R : Prop} (p : R) : if (!true) = true then P else R := p
theorem ite_nf {P R : Prop} (p : P) : if (!false) = true then P else R := p
section
variable {α : Type} {f g : EF} {u v c : BF} {a b : LF} {s t : SF} {st st' : AS} {i j l : Nat} {k : D → D → Option D} {h : D → Option D} {d : D} {QD : D → AS → Prop} {QB : Bool → AS → Prop} {QL : List D → AS → Prop} {QS : Fl → AS → Prop} {QR : RV → AS → Prop}
theorem Wp.imp {F : AS → Option (α × AS)} {Q Q' : α → AS → Prop} (w : Wp F st Q) (h : ∀ a s, Q a s → Q' a s) : Wp F st Q' := by
  obtain ⟨a, s, e, q⟩ := w
  exact ⟨a, s, e, h a s q⟩
theorem wp_of {F : AS → Option (α × AS)} {Q : α → AS → Prop} {x : α} (e : F st = some (x, st')) (q : Q x st') : Wp F st Q := ⟨x, st', e, q⟩
theorem wp_cst (q : QD d st) : Wp (cst d) st QD := ⟨d, st, rfl, q⟩
theorem wp_rd (e : st[i]? = some (.dat d)) (q : QD d st) : Wp (rd i) st QD := ⟨d, st, by rw [e_rd, e], q⟩
theorem wp_rdo {xs : List D} (e : st[i]? = some (.own xs)) (q : QD (.list xs) (st.set i (.dat (.list xs)))) : Wp (rd i) st QD := ⟨_, _, by rw [e_rd, e], q⟩
theorem wp_bin2 (w : Wp f st fun a s1 => Wp g s1 fun b s2 => ∃ z, k a b = some z ∧ QD z s2) : Wp (bin2 k f g) st QD := by
  obtain ⟨a, s1, e1, b, s2, e2, z, e3, q⟩ := w
  exact ⟨z, s2, by rw [e_bin2, e1]; simp only [Option.bind_some, e2, e3]; rfl, q⟩
theorem wp_un1 (w : Wp f st fun a s1 => ∃ z, h a = some z ∧ QD z s1) : Wp (un1 h f) st QD := by
  obtain ⟨a, s1, e1, z, e3, q⟩ := w
  exact ⟨z, s1, by rw [e_un1, e1]; simp only [Option.bind_some, e3]; rfl, q⟩
theorem wp_nilA (q : QL [] st) : Wp nilA st QL := ⟨[], st, rfl, q⟩
theorem wp_consA (w : Wp f st fun x s1 => Wp a s1 fun xs s2 => QL (x :: xs) s2) : Wp (consA f a) st QL := by
  obtain ⟨x, s1, e1, xs, s2, e2, q⟩ := w
  exact ⟨_, s2, by rw [e_consA, e1]; simp only [Option.bind_some, e2]; rfl, q⟩
theorem wp_tupF (w : Wp a st fun xs s1 => xs.length ≤ sizeLine ∧ QD (.tuple xs) s1) : Wp (tupF a) st QD := by
  obtain ⟨x, s1, e1, hl, q⟩ := w
  exact ⟨_, s1, by rw [e_tupF, e1]; simp only [Option.bind_some]; rw [if_pos hl], q⟩
theorem wp_lstF (w : Wp a st fun xs s1 => xs.length ≤ sizeLine ∧ QD (.list xs) s1) : Wp (lstF a) st QD := by
  obtain ⟨x, s1, e1, hl, q⟩ := w
  exact ⟨_, s1, by rw [e_lstF, e1]; simp only [Option.bind_some]; rw [if_pos hl], q⟩
theorem wp_newF (w : Wp a st fun xs s1 => xs.length ≤ sizeLine ∧ QL xs s1) : Wp (newF a) st QL := by
  obtain ⟨x, s1, e1, hl, q⟩ := w
  exact ⟨_, s1, by rw [e_newF, e1]; simp only [Option.bind_some]; rw [if_pos hl], q⟩
theorem wp_listE (w : Wp a st fun xs s1 => QD (.list xs) s1) : Wp (listE a) st QD := by
  obtain ⟨x, s1, e1, q⟩ := w
  exact ⟨_, s1, by rw [e_listE, e1]; rfl, q⟩
theorem wp_valB (w : Wp f st fun d s1 => ∃ b, d = .bool b ∧ QB b s1) : Wp (valB f) st QB := by
  obtain ⟨x, s1, e1, b, rfl, q⟩ := w
  exact ⟨b, s1, by rw [e_valB, e1]; rfl, q⟩
theorem wp_andB (w : Wp u st fun b s1 => if b = true then Wp v s1 QB else QB false s1) : Wp (andB u v) st QB := by
  obtain ⟨x, s1, e1, q⟩ := w
  split at q
  · rename_i hx
    obtain ⟨y, s2, e2, q⟩ := q
    exact ⟨y, s2, by rw [e_andB, e1]; simp only [Option.bind_some]; rw [if_pos hx]; exact e2, q⟩
  · rename_i hx
    exact ⟨false, s1, by rw [e_andB, e1]; simp only [Option.bind_some]; rw [if_neg hx], q⟩
theorem wp_orB (w : Wp u st fun b s1 => if b = true then QB true s1 else Wp v s1 QB) : Wp (orB u v) st QB := by
  obtain ⟨x, s1, e1, q⟩ := w
  split at q
  · rename_i hx
    exact ⟨true, s1, by rw [e_orB, e1]; simp only [Option.bind_some]; rw [if_pos hx], q⟩
  · rename_i hx
    obtain ⟨y, s2, e2, q⟩ := q
    exact ⟨y, s2, by rw [e_orB, e1]; simp only [Option.bind_some]; rw [if_neg hx]; exact e2, q⟩
theorem wp_notB (w : Wp u st fun b s1 => QB (!b) s1) : Wp (notB u) st QB := by
  obtain ⟨x, s1, e1, q⟩ := w
  exact ⟨_, s1, by rw [e_notB, e1]; rfl, q⟩
theorem wp_yesB (q : QB true st) : Wp yesB st QB := ⟨true, st, rfl, q⟩
theorem wp_boolE (w : Wp u st fun b s1 => QD (.bool b) s1) : Wp (boolE u) st QD := by
  obtain ⟨x, s1, e1, q⟩ := w
  exact ⟨_, s1, by rw [e_boolE, e1]; rfl, q⟩
theorem wp_ifE (w : Wp c st fun b s1 => if b = true then Wp f s1 QD else Wp g s1 QD) : Wp (ifE c f g) st QD := by
  obtain ⟨x, s1, e1, q⟩ := w
  split at q
  · rename_i hx
    obtain ⟨y, s2, e2, q⟩ := q
    exact ⟨y, s2, by rw [e_ifE, e1]; simp only [Option.bind_some]; rw [if_pos hx]; exact e2, q⟩
  · rename_i hx
    obtain ⟨y, s2, e2, q⟩ := q
    exact ⟨y, s2, by rw [e_ifE, e1]; simp only [Option.bind_some]; rw [if_neg hx]; exact e2, q⟩
theorem wp_callP {mf : List D → Option RV} {dvs : List D} (w : Wp a st fun xs s1 => ∃ r, mf (xs ++ dvs) = some r ∧ QR r s1) : Wp (callP mf dvs a) st QR := by
  obtain ⟨x, s1, e1, r, e2, q⟩ := w
  exact ⟨r, s1, by rw [e_callP, e1]; simp only [Option.bind_some, e2]; rfl, q⟩
theorem wp_callP0 {mf : List D → Option RV} (w : Wp a st fun xs s1 => ∃ r, mf xs = some r ∧ QR r s1) : Wp (callP mf [] a) st QR := wp_callP (by
  refine w.imp fun xs s q => ?_
  rw [List.append_nil]
  exact q)
theorem wp_callK {mf : List D → Option RV} {src : List (Nat ⊕ Nat)} (w : Wp a st fun xs s1 => Wp b s1 fun ys s2 => ∃ r, mf (arr .none src xs ys) = some r ∧ QR r s2) : Wp (callK mf src a b) st QR := by
  obtain ⟨x, s1, e1, y, s2, e2, r, e3, q⟩ := w
  exact ⟨r, s2, by unfold callK; rw [e1]; simp only [Option.bind_some, e2, e3]; rfl, q⟩
theorem wp_callQ {mq : List D → List D → Option (RV × List D)} {xs : List D} (e0 : muC st i = some xs) (w : Wp a st fun ds s1 => ∃ zs, muC s1 i = some zs ∧ ∃ r, mq zs ds = some r ∧ QR r.1 (putM s1 i r.2)) : Wp (callQ mq i a) st QR := by
  obtain ⟨x, s1, e1, zs, e2, r, e3, q⟩ := w
  exact ⟨r.1, _, by rw [e_callQ, e0]; simp only [Option.bind_some, e1, e2, e3]; rfl, q⟩
theorem wp_rvD {F : AS → Option (RV × AS)} (w : Wp F st fun r s1 => match r with
    | .val d => QD d s1
    | .new xs => QD (.list xs) s1
    | .dct kvs => QD (.dict kvs) s1
    | .exc _ => False) : Wp (rvD F) st QD := by
  obtain ⟨r, s1, e1, q⟩ := w
  cases r with
  | val d => exact ⟨_, s1, by rw [e_rvD, e1]; rfl, q⟩
  | new d => exact ⟨_, s1, by rw [e_rvD, e1]; rfl, q⟩
  | dct d => exact ⟨_, s1, by rw [e_rvD, e1]; rfl, q⟩
  | exc x => exact q.elim
theorem wp_rvN {F : AS → Option (RV × AS)} (w : Wp F st fun r s1 => ∃ xs, r = .new xs ∧ QL xs s1) : Wp (rvN F) st QL := by
  obtain ⟨r, s1, e1, xs, rfl, q⟩ := w
  exact ⟨_, s1, by rw [e_rvN, e1]; rfl, q⟩
theorem wp_itD (w : Wp f st fun d s1 => ∃ xs, (d = .list xs ∨ d = .tuple xs) ∧ QL xs s1) : Wp (itD f) st QL := by
  obtain ⟨r, s1, e1, xs, (rfl | rfl), q⟩ := w <;> exact ⟨_, s1, by rw [e_itD, e1]; rfl, q⟩
theorem wp_noO {Q : Option Int → AS → Prop} (q : Q none st) : Wp noO st Q := ⟨none, st, rfl, q⟩
theorem wp_someO {Q : Option Int → AS → Prop} (w : Wp f st fun d s1 => ∃ i, d = .int i ∧ Q (some i) s1) : Wp (someO f) st Q := by
  obtain ⟨d, s1, e1, i, rfl, q⟩ := w
  exact ⟨_, s1, by rw [e_someO, e1]; rfl, q⟩
theorem wp_cutF {x y : OF} (w : Wp f st fun d s1 => Wp x s1 fun lo s2 => Wp y s2 fun hi s3 => ∃ z, kCut d lo hi = some z ∧ QD z s3) : Wp (cutF f x y) st QD := by
  obtain ⟨d, s1, e1, lo, s2, e2, hi, s3, e3, z, e4, q⟩ := w
  refine ⟨z, s3, ?_, q⟩
  rw [e_cutF, e1]
  simp only [Option.bind_some, e2, e3]
  unfold kCut at e4
  split at e4 <;> cases e4 <;> rfl
theorem wp_itR1 (w : Wp f st fun d s1 => ∃ k : Nat, d = .int k ∧ k ≤ 1000000 ∧ QL (rngD 0 k) s1) : Wp (itR1 f) st QL := by
  obtain ⟨d, s1, e1, k, rfl, hk, q⟩ := w
  exact ⟨_, s1, itR1_nat e1 hk, q⟩
theorem wp_ixM {xs : List D} (e0 : muC st i = some xs) (w : Wp g st fun b s1 => ∃ ys, muC s1 i = some ys ∧ ∃ z, kIx (.list ys) b = some z ∧ QD z s1) : Wp (ixM i g) st QD := by
  obtain ⟨r, s1, e1, ys, e2, z, e3, q⟩ := w
  exact ⟨z, s1, by rw [e_ixM, e0]; simp only [Option.bind_some, e1, e2, e3]; rfl, q⟩
theorem wp_lenM {xs : List D} (e0 : muC st i = some xs) (q : QD (.int xs.length) st) : Wp (lenM i) st QD := ⟨_, st, by rw [e_lenM, e0]; rfl, q⟩
theorem wp_appM {xs : List D} (e0 : muC st i = some xs) (w : Wp g st fun b s1 => ∃ ys, muC s1 i = some ys ∧ ys.length < sizeLine ∧ QD .none (putM s1 i (ys ++ [b]))) : Wp (appM i g) st QD := by
  obtain ⟨r, s1, e1, ys, e2, hl, q⟩ := w
  exact ⟨.none, _, by unfold appM; rw [e0]; simp only [Option.bind_some, e1, e2]; rw [if_pos hl], q⟩
theorem wp_extM {xs : List D} (e0 : muC st i = some xs) (w : Wp g st fun b s1 => ∃ ys zs, muC s1 i = some ys ∧ b = .list zs ∧ ys.length + zs.length ≤ sizeLine ∧ QD .none (putM s1 i (ys ++ zs))) : Wp (extM i g) st QD := by
  obtain ⟨r, s1, e1, ys, zs, e2, rfl, hl, q⟩ := w
  exact ⟨.none, _, by unfold extM; rw [e0]; simp only [Option.bind_some, e1, e2]; rw [if_pos hl], q⟩
theorem wp_popM {xs : List D} (e0 : muC st i = some xs) (w : Wp g st fun b s1 => ∃ (ys : List D) (j : Int) (z : D), muC s1 i = some ys ∧ b = .int j ∧ 0 ≤ j ∧ j < 2 ^ 30 ∧ ys[j.toNat]? = some z ∧ QD z (putM s1 i (ys.eraseIdx j.toNat))) : Wp (popM i g) st QD := by
  obtain ⟨r, s1, e1, ys, n, z, e2, rfl, h0, hn, hz, q⟩ := w
  have key : popM i g st = (muC st i).bind fun _ => (g st).bind fun b => (muC b.2 i).bind fun xs => (match b.1 with
    | .int k => if 0 ≤ k ∧ k < 2 ^ 63 then (xs[k.toNat]?).map fun z => (z, putM b.2 i (xs.eraseIdx k.toNat)) else none
    | _ => none) := rfl
  refine ⟨z, _, ?_, q⟩
  rw [key, e0]
  simp only [Option.bind_some, e1, e2]
  rw [if_pos (by omega), hz]
  rfl
theorem wp_revM {xs : List D} (e0 : muC st i = some xs) (q : QD .none (putM st i xs.reverse)) : Wp (revM i) st QD := ⟨_, _, by rw [e_revM, e0]; rfl, q⟩
theorem wp_reprM {xs : List D} (e0 : muC st i = some xs) (w : ∃ z, kRepr (.list xs) = some z ∧ QD z st) : Wp (reprM i) st QD := by
  obtain ⟨z, e, q⟩ := w
  exact ⟨z, st, by rw [e_reprM, e0]; simp only [Option.bind_some, e]; rfl, q⟩
theorem wp_seq (w : Wp s st fun fl s1 => match fl with
    | .nx => Wp t s1 QS
    | .brk => QS .brk s1
    | .cont => QS .cont s1
    | .ret r => QS (.ret r) s1) : Wp (seqS s t) st QS := by
  obtain ⟨fl, s1, e1, q⟩ := w
  cases fl with
  | nx =>
    obtain ⟨y, s2, e2, q⟩ := q
    exact ⟨y, s2, by rw [e_seqS, e1]; exact e2, q⟩
  | brk => exact ⟨_, s1, by rw [e_seqS, e1]; rfl, q⟩
  | cont => exact ⟨_, s1, by rw [e_seqS, e1]; rfl, q⟩
  | ret r => exact ⟨_, s1, by rw [e_seqS, e1]; rfl, q⟩
theorem wp_skip (q : QS .nx st) : Wp skipS st QS := ⟨_, st, rfl, q⟩
theorem wp_retS (w : Wp f st fun d s1 => QS (.ret (.val d)) s1) : Wp (retS f) st QS := by
  obtain ⟨x, s1, e1, q⟩ := w
  exact ⟨_, s1, by rw [e_retS, e1]; rfl, q⟩
theorem wp_retN (w : Wp a st fun d s1 => QS (.ret (.new d)) s1) : Wp (retN a) st QS := by
  obtain ⟨x, s1, e1, q⟩ := w
  exact ⟨_, s1, by rw [e_retN, e1]; rfl, q⟩
theorem wp_retM {xs : List D} (e0 : st[i]? = some (.own xs)) (q : QS (.ret (.new xs)) st) : Wp (retM i) st QS := ⟨_, st, by unfold retM; rw [e0], q⟩
theorem wp_retMd (e0 : st[i]? = some (.dat d)) (q : QS (.ret (.val d)) st) : Wp (retM i) st QS := ⟨_, st, by unfold retM; rw [e0], q⟩
theorem wp_drop (w : Wp f st fun _ s1 => QS .nx s1) : Wp (dropS f) st QS := by
  obtain ⟨x, s1, e1, q⟩ := w
  exact ⟨_, s1, by rw [e_dropS, e1]; rfl, q⟩
theorem wp_ifS (w : Wp c st fun b s1 => if b = true then Wp s s1 QS else Wp t s1 QS) : Wp (ifS c s t) st QS := by
  obtain ⟨x, s1, e1, q⟩ := w
  split at q
  · rename_i hx
    obtain ⟨y, s2, e2, q⟩ := q
    exact ⟨y, s2, by rw [e_ifS, e1]; simp only [Option.bind_some]; rw [if_pos hx]; exact e2, q⟩
  · rename_i hx
    obtain ⟨y, s2, e2, q⟩ := q
    exact ⟨y, s2, by rw [e_ifS, e1]; simp only [Option.bind_some]; rw [if_neg hx]; exact e2, q⟩
theorem wp_asg (w : Wp f st fun d s1 => npO s1[i]? = true ∧ QS .nx (s1.set i (.dat d))) : Wp (asgS i f) st QS := by
  obtain ⟨x, s1, e1, hn, q⟩ := w
  exact ⟨_, _, by rw [e_asgS, e1]; simp only [Option.bind_some, e_setD]; rw [if_pos hn]; rfl, q⟩
theorem wp_asgN (w : Wp a st fun d s1 => npO s1[i]? = true ∧ QS .nx (s1.set i (.own d))) : Wp (asgN i a) st QS := by
  obtain ⟨x, s1, e1, hn, q⟩ := w
  exact ⟨_, _, by rw [e_asgN, e1]; simp only [Option.bind_some, e_setO]; rw [if_pos hn]; rfl, q⟩
theorem wp_aug {x : Int} (e0 : st[i]? = some (.dat (.int x))) (w : Wp f st fun d s1 => ∃ y, d = .int y ∧ npO s1[i]? = true ∧ QS .nx (s1.set i (.dat (.int (x + y))))) : Wp (augS i f) st QS := by
  obtain ⟨d, s1, e1, y, rfl, hn, q⟩ := w
  exact ⟨_, _, by rw [e_augS, e0]; simp only [e1, Option.bind_some, e_setD]; rw [if_pos hn]; rfl, q⟩
theorem wp_setM {xs : List D} (e0 : muC st i = some xs) (w : Wp f st fun x s1 => ∃ ys, muC s1 i = some ys ∧ Wp g s1 fun b s2 => ∃ (zs : List D) (n : Nat), muC s2 i = some zs ∧ b = .int (n : Int) ∧ n < zs.length ∧ QS .nx (putM s2 i (zs.set n x))) : Wp (setM i f g) st QS := by
  obtain ⟨x, s1, e1, ys, e2, b, s2, e3, zs, n, e4, rfl, hn, q⟩ := w
  refine ⟨_, _, ?_, q⟩
  rw [e_setM, e0]
  simp only [e1, Option.bind_some, e2, e3, e4]
  have : ixN zs.length (n : Int) = some n := by
    unfold ixN
    rw [if_pos (by omega), if_pos (by omega), Int.toNat_natCast]
  rw [this]
  rfl
theorem wp_par2 (w : Wp a st fun ds s1 => ∃ x y, ds = [x, y] ∧ npO s1[i]? = true ∧ npO (s1.set i (.dat x))[j]? = true ∧ QS .nx ((s1.set i (.dat x)).set j (.dat y))) : Wp (par2 i j a) st QS := by
  obtain ⟨ds, s1, e1, x, y, rfl, h1, h2, q⟩ := w
  exact ⟨_, _, by rw [e_par2, e1]; simp only [Option.bind_some, e_setD]; rw [if_pos h1]; simp only [Option.bind_some]; rw [if_pos h2]; rfl, q⟩
theorem wp_asgT {g : D → AS → Option AS} (w : Wp f st fun d s1 => ∃ s2, g d s1 = some s2 ∧ QS .nx s2) : Wp (asgT f g) st QS := by
  obtain ⟨x, s1, e1, s2, e2, q⟩ := w
  exact ⟨_, _, by unfold asgT; rw [e1]; simp only [Option.bind_some, e2]; rfl, q⟩
theorem wp_clr {vs : List Nat} (w : Wp s st fun fl s1 => match fl with
    | .nx => QS .nx (clr s1 vs)
    | .cont => QS .cont (clr s1 vs)
    | .brk => QS .brk s1
    | .ret r => QS (.ret r) s1) : Wp (clrS vs s) st QS := by
  obtain ⟨fl, s1, e1, q⟩ := w
  cases fl with
  | nx => exact ⟨_, _, by unfold clrS; rw [e1]; rfl, q⟩
  | cont => exact ⟨_, _, by unfold clrS; rw [e1]; rfl, q⟩
  | brk => exact ⟨_, _, by unfold clrS; rw [e1]; rfl, q⟩
  | ret r => exact ⟨_, _, by unfold clrS; rw [e1]; rfl, q⟩
/-- a loop, by what holds ahead of each turn: of the items that are left -/
theorem wp_loop {u : D → AS → Option AS} {b : SF} (I : List D → AS → Prop) (hs : ∀ d ds s, I (d :: ds) s → ∃ s1, u d s = some s1 ∧ Wp b s1 fun fl s2 => match fl with
    | .nx => I ds s2
    | .cont => I ds s2
    | .brk => QS .nx s2
    | .ret r => QS (.ret r) s2) (he : ∀ s, I [] s → QS .nx s) : ∀ (ds : List D) (s : AS), I ds s → Wp (loopS u b ds) s QS
  | [], s, h => ⟨_, _, rfl, he s h⟩
  | d :: ds, s, h => by
    obtain ⟨s1, e1, fl, s2, e2, q⟩ := hs d ds s h
    cases fl with
    | nx =>
      obtain ⟨w, s3, e3, q⟩ := wp_loop I hs he ds s2 q
      exact ⟨w, s3, by simp only [loopS, e1, Option.bind_some, e2]; exact e3, q⟩
    | cont =>
      obtain ⟨w, s3, e3, q⟩ := wp_loop I hs he ds s2 q
      exact ⟨w, s3, by simp only [loopS, e1, Option.bind_some, e2]; exact e3, q⟩
    | brk => exact ⟨_, _, by simp only [loopS, e1, Option.bind_some, e2], q⟩
    | ret r => exact ⟨_, _, by simp only [loopS, e1, Option.bind_some, e2], q⟩
theorem wp_for {it : LF} {u : D → AS → Option AS} {b : SF} (w : Wp it st fun ds s1 => Wp (loopS u b ds) s1 QS) : Wp (forS it u b) st QS := by
  obtain ⟨ds, s1, e1, fl, s2, e2, q⟩ := w
  exact ⟨fl, s2, by unfold forS; rw [e1]; exact e2, q⟩
/-- a while loop, by a measure -/
theorem wp_whileN {c : BF} {b : SF} (I : Nat → AS → Prop) (hs : ∀ n s, I n s → Wp c s fun x s1 => if x = true then (∃ m, n = m + 1 ∧ Wp b s1 fun fl s2 => match fl with
    | .nx => I m s2
    | .cont => I m s2
    | .brk => QS .nx s2
    | .ret r => QS (.ret r) s2) else QS .nx s1) : ∀ (n : Nat) (s : AS), I n s → ∀ N, n < N → Wp (whileN c b N) s QS
  | n, s, h, 0, hN => absurd hN (Nat.not_lt_zero n)
  | n, s, h, N + 1, hN => by
    obtain ⟨x, s1, e1, q⟩ := hs n s h
    split at q
    · rename_i hx
      obtain ⟨m, rfl, fl, s2, e2, q⟩ := q
      cases fl with
      | nx =>
        obtain ⟨w, s3, e3, q⟩ := wp_whileN I hs m s2 q N (by omega)
        exact ⟨w, s3, by simp only [whileN, e1, Option.bind_some]; rw [if_pos hx, e2]; exact e3, q⟩
      | cont =>
        obtain ⟨w, s3, e3, q⟩ := wp_whileN I hs m s2 q N (by omega)
        exact ⟨w, s3, by simp only [whileN, e1, Option.bind_some]; rw [if_pos hx, e2]; exact e3, q⟩
      | brk => exact ⟨_, _, by simp only [whileN, e1, Option.bind_some]; rw [if_pos hx, e2]; rfl, q⟩
      | ret r => exact ⟨_, _, by simp only [whileN, e1, Option.bind_some]; rw [if_pos hx, e2]; rfl, q⟩
    · rename_i hx
      exact ⟨_, _, by simp only [whileN, e1, Option.bind_some]; rw [if_neg hx], q⟩
theorem wp_while {c : BF} {b : SF} {ms : AS → Nat} (I : Nat → AS → Prop) (n : Nat) (h0 : I n st) (hn : n < ms st) (hs : ∀ n s, I n s → Wp c s fun x s1 => if x = true then (∃ m, n = m + 1 ∧ Wp b s1 fun fl s2 => match fl with
    | .nx => I m s2
    | .cont => I m s2
    | .brk => QS .nx s2
    | .ret r => QS (.ret r) s2) else QS .nx s1) : Wp (whileS c b ms) st QS := wp_whileN I hs n st h0 (ms st) hn
/-- a comprehension, by what holds ahead of each turn: of the items left and what stands in the list -/
theorem wp_compL {u : D → AS → Option AS} {tt : BF} {te : EF} {vs : List Nat} (I : List D → List D → AS → Prop) (hs : ∀ d ds xs s, I (d :: ds) xs s → ∃ s1, u d s = some s1 ∧ Wp tt s1 fun b s2 => if b = true then Wp te s2 fun x s3 => I ds (xs ++ [x]) (clr s3 vs) else I ds xs (clr s2 vs)) :
    ∀ (ds xs : List D) (s : AS), I ds xs s → Wp (compL u tt te vs ds) s fun ys s' => I [] (xs ++ ys) s'
  | [], xs, s, h => ⟨_, _, rfl, by show I [] (xs ++ []) s; rw [List.append_nil]; exact h⟩
  | d :: ds, xs, s, h => by
    obtain ⟨s1, e1, b, s2, e2, q⟩ := hs d ds xs s h
    split at q
    · rename_i hb
      obtain ⟨x, s3, e3, q⟩ := q
      obtain ⟨ys, s4, e4, q⟩ := wp_compL I hs ds (xs ++ [x]) _ q
      refine ⟨x :: ys, s4, by simp only [compL, e1, Option.bind_some, e2]; rw [if_pos hb]; simp only [Option.bind_some, e3, e4]; rfl, ?_⟩
      rw [List.append_assoc] at q
      exact q
    · rename_i hb
      obtain ⟨ys, s4, e4, q⟩ := wp_compL I hs ds xs _ q
      exact ⟨ys, s4, by simp only [compL, e1, Option.bind_some, e2]; rw [if_neg hb]; exact e4, q⟩
theorem wp_compF {it : LF} {u : D → AS → Option AS} {tt : BF} {te : EF} {vs : List Nat} (w : Wp it st fun ds s1 => (allNo s1 vs = true ∧ ds.length ≤ sizeLine) ∧ Wp (compL u tt te vs ds) s1 QL) : Wp (compF it u tt te vs) st QL := by
  obtain ⟨ds, s1, e1, hc, ys, s2, e2, q⟩ := w
  exact ⟨ys, s2, by unfold compF; rw [e1]; simp only [Option.bind_some]; rw [if_pos hc]; exact e2, q⟩
theorem wp_compR {it : LF} {u : D → AS → Option AS} {tt : BF} {te : EF} {vs : List Nat} (w : Wp it st fun ds s1 => (savB s1 vs = true ∧ ds.length ≤ sizeLine) ∧ Wp (compL u tt te vs ds) (clr s1 vs) fun ys s2 => QL ys (rest s1 vs s2)) : Wp (compR it u tt te vs) st QL := by
  obtain ⟨ds, s1, e1, hc, ys, s2, e2, q⟩ := w
  exact ⟨ys, _, by unfold compR; rw [e1]; simp only [Option.bind_some]; rw [if_pos hc, e2]; rfl, q⟩
end
/-! ### the ends -/
theorem runP_wp {g : SF} {N : Nat} {ds : List D} {r : RV} (w : Wp g (st0 N ds) fun fl _ => fl = .ret r) : runP g N ds = some r := by
  obtain ⟨fl, s, e, rfl⟩ := w
  exact runP_of e
theorem runP_wpn {g : SF} {N : Nat} {ds : List D} (w : Wp g (st0 N ds) fun fl _ => fl = .nx) : runP g N ds = some (.val .none) := by
  obtain ⟨fl, s, e, rfl⟩ := w
  unfold runP
  rw [e]
  rfl
theorem runQ_wp {g : SF} {N : Nat} {xs ds : List D} {P : RV → List D → Prop} (w : Wp g (st1 N xs ds) fun fl s => ∃ r ys, fl = .ret r ∧ s[0]? = some (.pen ys) ∧ P r ys) : ∃ r ys, runQ g N xs ds = some (r, ys) ∧ P r ys := by
  obtain ⟨fl, s, e, r, ys, rfl, h, p⟩ := w
  exact ⟨r, ys, runQ_of e h, p⟩
end Xm

set_option Elab.async false
set_option linter.all false
set_option maxRecDepth 100000
namespace Xm
open PySem PySem.Spec PyProof.Rows L2

/-! ### exceptions: raised, handed on, caught -/
def raiseS (n : Str) : SF := fun st => some (.ret (.exc ⟨n, []⟩), st)
theorem Rel.withW {K : Kx} {C : Ct} {F H : Hp} {st : AS} {σ : L2.St} {W : WX} (R : Rel K C F st σ H) : Rel K { C with W := W } F st σ H :=
  ⟨R.len, R.f0, R.fh, R.old, R.new, fun i s e => by have q := R.slot i s e; cases s <;> exact q, R.apart, R.penh, R.pent⟩
theorem Rel.unW {K : Kx} {C : Ct} {F H : Hp} {st : AS} {σ : L2.St} {W : WX} (R : Rel K { C with W := W } F st σ H) : Rel K C F st σ H :=
  ⟨R.len, R.f0, R.fh, R.old, R.new, fun i s e => by have q := R.slot i s e; cases s <;> exact q, R.apart, R.penh, R.pent⟩
/-- what is known of a class of exceptions -/
structure ExC (K : PySem.W.Frag) (mg : Str → Option Value) (n : Str) (C : Addr) (bmB : List Value) (newId : String) : Prop where
  mg : mg n = some (.ref C)
  q : PySem.W.excIn K C bmB newId = true
  keep : PySem.W.keepIn K (.ref C) = true
  sub : PySem.W.subIn K (.ref C) (.type "BaseException") = some true
  ty : PySem.W.typeIn K (.ref C) = some (.type "type")
section
variable {X : Cx} {C : Ct} {pos p p2 cpos : Pos}
theorem xs_raise {n m : Str} {j : Nat} {Ca : Addr} {bmB : List Value} {B newId initId : String} (hc : X.calm = true) (tk : Takes X C.W) (F : ExcBaseFacts B newId initId bmB) (T : ExC X.K X.mg n Ca bmB newId) (hg : Gl X n := by rfl) (hdb : (n == ("__debug__" : Str)) = false := by decide) :
    PS X (.Raise (some (.Call (.Name n p) [.Constant (.str m) j p2] [] cpos)) none pos) (sOf (kxOf X) C (raiseS n)) :=
  ps_wk (ps_raise hc tk (pmk_own F T.q T.mg T.keep (raises_own T.sub T.ty) hg hdb)) fun Z σ H q => by
    obtain ⟨F, st, w, R, e, q⟩ := q
    cases e
    exact q (.ref Ca) none σ H F (Same.refl _) R ⟨T.mg, .inl ⟨rfl, rfl⟩⟩
end

/-- a call that may let an exception out -/
def xOf (K : Kx) (C : Ct) (f : AS → Option (RV × AS)) : TE := fun σ H Q => ∃ F st r, Rel K C F st σ H ∧ f st = some r ∧ match r.1 with
  | .val d => ∀ v H' F', Same F F' → Rel K C F' r.2 σ H' → Dp K F' v d → Q v H'
  | .new xs => ∀ (a : Addr) (vs : List V) H' F', Same F F' → Rel K C F' r.2 σ H' → C.H0 a = none → F' a = none → H' a = some (.lst vs) → (∀ j, Mu r.2 j → σ[j]? ≠ some (some (.ref a))) → DpAll K F' vs xs → Q (.ref a) H'
  | .dct kvs => ∀ (a : Addr) (u : HO) H' F', Same F F' → Rel K C F' r.2 σ H' → C.H0 a = none → F' a = none → H' a = some u → (∀ j, Mu r.2 j → σ[j]? ≠ some (some (.ref a))) → DR K F' a u kvs → Q (.ref a) H'
  | .exc x => ∀ cls d H' F', Same F F' → Rel K C F' r.2 σ H' → ExOk K F' x cls d → C.W cls d σ H'
theorem callP_x {K : Kx} {C : Ct} {mf : List D → Option RV} {g : LF} {n : Nat} {σ : L2.St} {H : Hp} {Q : VK} {dvs : List V} {dds : List D} {E : XK} (hE : ∀ cls d H', C.W cls d σ H' → E cls d H') (hd : ∀ F, DpAll K F dvs dds) (hn : ∀ st r, g st = some r → (r.1 ++ dds).length = n)
    (q : xOf K C (callP mf dds g) σ H Q) : tCall (spP K n mf) dvs E (aOf K C g) σ H Q := by
  obtain ⟨F, st, w, R, ec, q⟩ := q
  obtain ⟨a, ea, ec⟩ := Option.bind_eq_some_iff.mp ec
  obtain ⟨r, er, ec⟩ := Option.map_eq_some_iff.mp ec
  cases ec
  refine ⟨F, st, a, R, ea, fun vs H1 F1 s1 R1 d1 => ?_⟩
  have dd := DpAll_app d1 (hd F1)
  refine ⟨by rw [DpAll_len dd]; exact hn st a ea, F1, _, r, R1.fh, dd, er, fun v F2 H2 gr ok => ?_, fun x hx cls d F2 H2 gr ok => ?_⟩
  · have R2 := R1.grow gr
    cases r with
    | val d => exact q v H2 F2 (s1.trans gr.ff) R2 ok
    | new xs =>
      obtain ⟨p, rfl, hp, hF, us, hH, hu⟩ := ok
      obtain ⟨A, _⟩ := R1.aside hp
      exact q p us H2 F2 (s1.trans gr.ff) R2 A.h0 hF hH (fun j hj => A.ap j hj) hu
    | dct kvs =>
      obtain ⟨p, rfl, hp, hF, u, hH, hu⟩ := ok
      obtain ⟨A, _⟩ := R1.aside hp
      exact q p u H2 F2 (s1.trans gr.ff) R2 A.h0 hF hH (fun j hj => A.ap j hj) hu
    | exc x => exact ok.elim
  · subst hx
    exact hE cls d H2 (q cls d H2 F2 (s1.trans gr.ff) (R1.grow gr) ok)
/-- statements of such a call alone -/
def retX (c : AS → Option (RV × AS)) : SF := fun st => (c st).map fun r => (.ret r.1, r.2)
def asgX (i : Nat) (c : AS → Option (RV × AS)) : SF := fun st => (c st).bind fun r => match r.1 with
  | .exc x => some (.ret (.exc x), r.2)
  | .val d => (setD i d r.2).map fun st' => (.nx, st')
  | .new xs => (setD i (.list xs) r.2).map fun st' => (.nx, st')
  | .dct kvs => (setD i (.dict kvs) r.2).map fun st' => (.nx, st')
def asgNX (i : Nat) (c : AS → Option (RV × AS)) : SF := fun st => (c st).bind fun r => match r.1 with
  | .exc x => some (.ret (.exc x), r.2)
  | .new xs => (setO i xs r.2).map fun st' => (.nx, st')
  | _ => none
def dropX (c : AS → Option (RV × AS)) : SF := fun st => (c st).map fun r => match r.1 with
  | .exc x => (.ret (.exc x), r.2)
  | _ => (.nx, r.2)
section
variable {X : Cx} {C : Ct} {j k n m i : Nat} {x y : Str} {p p1 pos : Pos} {e : Expr} {es : List Expr} {g : LF} {mf : List D → Option RV} {dds : List D} {c : AS → Option (RV × AS)}
theorem runGS {pins : List (Addr × Obj)} {σ : L2.St} {H : Hp} {s : Shared} {Q : VK} {us : List Value} {vs dvs : List V} {f : Addr} {fd : FuncData} {ps : List Str} {ds : List Value} {sp : Sp} {E : XK} (G : FnG X.prog X.w X.K X.mg X.base (CXM X.prog X.w) k f fd ps sp) (hr : Room k X.A) (gd : X.A.guards = some []) (hb : Binds X.K fd ps ds) (hd : Vals dvs ds)
    (hx : PassesAt (CXM X.prog X.w) X σ E) (I : Inv X pins σ H s) (r : Vals vs us) (h : sp (vs ++ dvs) H Q E) : wpAny (model X.prog X.w) X.A (call (.ref f) us) (EP X pins σ Q) X.xe s := by
  have r2 : Vals (vs ++ dvs) (us ++ ds) := r.append hd
  have hl : (us ++ ds).length = ps.length := by rw [← r2.length, G.arity _ _ _ _ h]
  refine wpAny_call (codeAny_mono (G.go X.A X.stack s H ⟨us, []⟩ (us ++ ds) (vs ++ dvs) Q E hr gd I.env0 (hb s us I.kIn hl) r2 h) fun res s' hq => ?_)
  match res, hq with
  | .error e, hq => exact hx pins H s e s' I hq
  | .ok (.ret u), hq => exact I.after hq
theorem xx_call (h : Has X.prog X.w X.K X.mg X.base j x n dds mf) (tk : Takes X C.W) (hr : Room k X.A) (gd : X.A.guards = some []) (hjk : j ≤ k) (ha : PA X (e :: es) (aOf (kxOf X) C g)) (hn : ArN g m) (hnm : m + dds.length = n := by rfl) (hg : Gl X x := by rfl)
    (he : starEach (e :: es) X.env = (false, eval e X.env) :: starEach es X.env := by rfl) (hpl : (backTo pos (starEach es X.env)).any (·.1) = false := by rfl) (hdb : (x == ("__debug__" : Str)) = false := by decide) :
    PE X (.Call (.Name x p) (e :: es) [] pos) (xOf (kxOf X) C (callP mf dds g)) := by
  obtain ⟨f, fd, ps, dvs, ds, G, hm, hk, hb, hv, hd⟩ := h.ex
  refine ⟨fun pins s σ H Q I q => wpAny_Call_Name_kw (ld_glob I hg hm ?_ hdb)⟩
  have q2 := callP_x (n := n) (E := fun cls d H' => C.W cls d σ H') (fun _ _ _ z => z) hd (fun st r er => by rw [List.length_append, hn st r er]; exact hnm) q
  refine PySem.W.callWith_K (h₀ := X.base) I.ok.mod.kin hk (thn (ha.run pos pins s σ H _ I q2) fun us s1 ⟨vs, H1, I1, r, q⟩ => ?_) he hpl
  exact ⟨I1.kIn, runGS G (hr.mono hjk) gd hb hv (passAt tk σ) I1 r q⟩
theorem xs_retX (he : PE X e (xOf (kxOf X) C c)) : PS X (.Return (some e) pos) (sOf (kxOf X) C (retX c)) := ps_wk (ps_ret he) fun Z σ H q => by
  obtain ⟨F, st, w, R, e, q⟩ := q
  obtain ⟨r, er, e⟩ := Option.map_eq_some_iff.mp e
  cases e
  refine ⟨F, st, r, R, er, ?_⟩
  obtain ⟨r1, r2⟩ := r
  cases r1 with
  | val d => exact fun v H1 F1 s1 R1 d1 => q v σ H1 F1 s1 R1 d1
  | new xs => exact fun p vs H1 F1 s1 R1 h0 h1 h2 _ d1 => q _ σ H1 F1 s1 R1 ⟨p, rfl, h0, h1, vs, h2, d1⟩
  | dct kvs => exact fun p u H1 F1 s1 R1 h0 h1 h2 _ d1 => q _ σ H1 F1 s1 R1 ⟨p, rfl, h0, h1, u, h2, d1⟩
  | exc x => exact fun cls d H1 F1 s1 R1 d1 => q cls d σ H1 F1 s1 R1 d1
theorem xs_setX {pos' : Pos} (hN : X.N.Nodup) (he : PE X e (xOf (kxOf X) C c)) (hi : X.N[i]? = some x) (hx : Loc X.env.scope x) (hs : swapsWith e (some (.Name x pos')) pos.line X.env = pure false := by rfl) (hf : X.fn x = true ∨ X.env.scope.names.lookup x = some .local := by first | exact .inl rfl | exact .inr rfl | assumption) :
    PS X (.Assign [.Name x pos'] e pos) (sOf (kxOf X) C (asgX i c)) := ps_wk (ps_set hN hi hx he hs hf) fun Z σ H q => by
  obtain ⟨F, st, w, R, e, q⟩ := q
  obtain ⟨r, er, e⟩ := Option.bind_eq_some_iff.mp e
  refine ⟨F, st, r, R, er, ?_⟩
  obtain ⟨r1, r2⟩ := r
  cases r1 with
  | val d =>
    obtain ⟨st', es, e⟩ := Option.map_eq_some_iff.mp e
    cases e
    exact fun v H1 F1 s1 R1 d1 => q _ H1 F1 s1 (R1.setD es d1)
  | new xs =>
    obtain ⟨st', es, e⟩ := Option.map_eq_some_iff.mp e
    cases e
    refine fun p vs H1 F1 s1 R1 h0 h1 h2 h3 d1 => ?_
    obtain ⟨k1, k2, k3⟩ := R1.freezeNew h0 h1 h2 h3 d1
    exact q _ H1 _ (s1.trans k1) (k2.setD es k3)
  | dct kvs =>
    obtain ⟨st', es, e⟩ := Option.map_eq_some_iff.mp e
    cases e
    refine fun p u H1 F1 s1 R1 h0 h1 h2 h3 d1 => ?_
    obtain ⟨k1, k2⟩ := R1.freezeO h0 h1 h2 h3
    exact q _ H1 _ (s1.trans k1) (k2.setD es (d1.dp k1 upd_same))
  | exc x =>
    cases e
    exact fun cls d H1 F1 s1 R1 d1 => q cls d σ H1 F1 s1 R1 d1
theorem xs_dropX (he : PE X e (xOf (kxOf X) C c)) (hs : swapsWith e none pos.line X.env = pure false := by rfl) : PS X (.Expr e pos) (sOf (kxOf X) C (dropX c)) := ps_wk (ps_expr he hs) fun Z σ H q => by
  obtain ⟨F, st, w, R, e, q⟩ := q
  obtain ⟨r, er, e⟩ := Option.map_eq_some_iff.mp e
  refine ⟨F, st, r, R, er, ?_⟩
  obtain ⟨r1, r2⟩ := r
  cases r1 with
  | val d => cases e; exact fun v H1 F1 s1 R1 d1 => q σ H1 F1 s1 R1
  | new xs => cases e; exact fun p vs H1 F1 s1 R1 h0 h1 h2 _ d1 => q σ H1 F1 s1 R1
  | dct kvs => cases e; exact fun p u H1 F1 s1 R1 h0 h1 h2 _ d1 => q σ H1 F1 s1 R1
  | exc x => cases e; exact fun cls d H1 F1 s1 R1 d1 => q cls d σ H1 F1 s1 R1 d1
end
/-- try: b, except of the classes that ct tells: h -/
def tryS (ct : Str → Option Bool) (b h : SF) : SF := fun st => (b st).bind fun w => match w.1 with
  | .ret (.exc x) => (match ct x.cls with
    | some true => h w.2
    | some false => some w
    | none => none)
  | _ => some w
section
variable {X : Cx} {C : Ct} {pos pos' np : Pos} {x : Str} {c : Value} {body suite : List Stmt} {b₀ : Stmt} {b h : SF} {ct : Str → Option Bool}
theorem xs_try (hs : X.stack = X.env :: X.outer) (hf : X.env.frame = some X.env.locals) (hc : Names X x c) (tk : Takes X C.W) (hct : ∀ n y cls, ct n = some y → X.mg n = some cls → PySem.W.exmOne X.K cls c = some y)
    (hb : ∀ (W : WX) (pn : List (Addr × Obj)) (xe : Value → Shared → Prop), Takes (X.tr pn xe) W → PassesOwn (model X.prog X.w) X.A X.env xe → PSs (X.tr pn xe) body (sOf (kxOf X) { C with W := W } b))
    (hsu : ∀ (a : Addr) (oe : Obj) (cls : Value) (d : Option Addr) (pn : List (Addr × Obj)), PSs (X.suite a ((a, oe) :: pn)) (b₀ :: suite) (sOf (kxOf X) C h)) :
    PS X (.Try body [.ExceptHandler (some (.Name x np)) none (b₀ :: suite) pos'] [] [] pos) (sOf (kxOf X) C (tryS ct b h)) :=
  ps_wk (ps_try_only (ts := fun _ _ _ => sOf (kxOf X) C h) (tb := fun W => sOf (kxOf X) { C with W := W } b) hs hf hc tk hb fun a oe cls d pn _ _ => hsu a oe cls d pn) fun Z σ H q => by
    obtain ⟨F, st, w, R, e, q⟩ := q
    obtain ⟨v, ev, e⟩ := Option.bind_eq_some_iff.mp e
    refine ⟨F, st, v, R.withW, ev, ?_⟩
    obtain ⟨fl, s2⟩ := v
    have plain : ∀ Z' : Ends, w = (fl, s2) → (∀ x, fl ≠ .ret (.exc x)) → Z' = Z → (match fl with
        | .nx => ∀ σ' H' F', Same F F' → Rel (kxOf X) { C with W := wOnly X.K c (fun _ _ _ => sOf (kxOf X) C h) C.W Z } F' s2 σ' H' → Z.nx σ' H'
        | .brk => ∀ σ' H' F', Same F F' → Rel (kxOf X) { C with W := wOnly X.K c (fun _ _ _ => sOf (kxOf X) C h) C.W Z } F' s2 σ' H' → Z.bk σ' H'
        | .cont => ∀ σ' H' F', Same F F' → Rel (kxOf X) { C with W := wOnly X.K c (fun _ _ _ => sOf (kxOf X) C h) C.W Z } F' s2 σ' H' → Z.ct σ' H'
        | .ret r => RetQ (kxOf X) { C with W := wOnly X.K c (fun _ _ _ => sOf (kxOf X) C h) C.W Z } Z F s2 r) := fun Z' hw hx _ => by
      subst hw
      cases fl with
      | nx => exact fun σ' H' F' s1 R1 => q σ' H' F' s1 R1.unW
      | brk => exact fun σ' H' F' s1 R1 => q σ' H' F' s1 R1.unW
      | cont => exact fun σ' H' F' s1 R1 => q σ' H' F' s1 R1.unW
      | ret r =>
        cases r with
        | val d => exact fun v σ' H' F' s1 R1 ok => q v σ' H' F' s1 R1.unW ok
        | new d => exact fun v σ' H' F' s1 R1 ok => q v σ' H' F' s1 R1.unW ok
        | dct d => exact fun v σ' H' F' s1 R1 ok => q v σ' H' F' s1 R1.unW ok
        | exc x => exact absurd rfl (hx x)
    cases fl with
    | nx => exact plain Z (by cases e; rfl) (fun x z => nomatch z) rfl
    | brk => exact plain Z (by cases e; rfl) (fun x z => nomatch z) rfl
    | cont => exact plain Z (by cases e; rfl) (fun x z => nomatch z) rfl
    | ret r =>
      cases r with
      | val d => exact plain Z (by cases e; rfl) (fun x z => nomatch z) rfl
      | new d => exact plain Z (by cases e; rfl) (fun x z => nomatch z) rfl
      | dct d => exact plain Z (by cases e; rfl) (fun x z => nomatch z) rfl
      | exc x =>
        dsimp only at e
        refine fun cls d σ' H' F' s1 R1 ok => ?_
        cases hx : ct x.cls with
        | none => rw [hx] at e; cases e
        | some y =>
          rw [hx] at e
          refine ⟨y, hct _ _ _ hx ok.1, fun hy a ha => ?_, fun hy => ?_⟩
          · subst hy
            refine ⟨F', s2, w, R1.unW, e, ?_⟩
            obtain ⟨fl2, s3⟩ := w
            cases fl2 with
            | nx => exact fun σ3 H3 F3 s3 R3 => q σ3 H3 F3 (s1.trans s3) R3
            | brk => exact fun σ3 H3 F3 s3 R3 => q σ3 H3 F3 (s1.trans s3) R3
            | cont => exact fun σ3 H3 F3 s3 R3 => q σ3 H3 F3 (s1.trans s3) R3
            | ret r => exact RetQ.up q s1
          · subst hy
            cases e
            exact q cls d σ' H' F' s1 R1.unW ok
end
/-- a class of exceptions as the head tells it -/
theorem excIn_mk {K : PySem.W.Frag} {C N : Addr} {nm q : Str} {bs bm : List Value} {hd : Bool} {sn : List Str} {sub : List Value} {ab : Bool} {col : Option Bool} {dd dN : Option Addr} {k0 k1 k2 k3 k5 : Option Value} {newId : String} {cN : Value} {es : Array DictEntry} {nN : Nat} {sN : Array (Option Value)}
    (l : K.lookup C = some (excClassObj nm q C N bs bm hd sn sub ab col dd k0 k1 k2 k3 k5 newId)) (lN : K.lookup N = some ⟨cN, dN, .dict es nN, sN⟩) (o : (es.toList.all fun e => match e.key with | .str _ _ => true | _ => false) = true) (ni : PySem.W.nsIn K N "__init__" = some none) (ne : bm.isEmpty = false) : PySem.W.excIn K C bm newId = true := by
  have t : PySem.W.tailIn K bm bm = true := by
    cases bm with
    | nil => cases ne
    | cons v r => unfold PySem.W.tailIn; rw [beq_self_eq_true]; rfl
  have n2 : PySem.W.nsOkIn K N = true := by
    unfold PySem.W.nsOkIn
    rw [lN]
    show es.all _ = true
    rw [← Array.all_toList]
    exact o
  unfold PySem.W.excIn
  rw [l]
  simp only [t, n2, ni, beq_self_eq_true, Bool.not_false, Bool.and_self]
/-- how a class is caught -/
theorem exm_of {K : PySem.W.Frag} {D S : Addr} {b : Bool} (h1 : PySem.W.subIn K (.ref S) (.type "BaseException") = some true) (h2 : PySem.W.isClsIn K S = true) (h3 : PySem.W.typeIn K (.ref S) = some (.type "type")) (h4 : PySem.W.subIn K (.ref D) (.ref S) = some b) :
    PySem.W.exmOne K (.ref D) (.ref S) = some b := by
  have e1 : (PySem.W.subIn K (.ref S) (.type "BaseException") == some true) = true := by rw [h1] <;> rfl
  have e2 : ((PySem.W.clsIn K S).isSome && PySem.W.typeIn K (.ref S) == some (.type "type")) = true := by
    have h2' : (PySem.W.clsIn K S).isSome = true := h2
    rw [h2', h3] <;> rfl
  show (if (PySem.W.subIn K (.ref S) (.type "BaseException") == some true) = true then (if ((PySem.W.clsIn K S).isSome && PySem.W.typeIn K (.ref S) == some (.type "type")) = true then PySem.W.subIn K (.ref D) (.ref S) else none) else none) = some b
  rw [if_pos e1, if_pos e2]
  exact h4
/-- one class alone -/
def ct1 (n : Str) (b : Bool) : Str → Option Bool := fun m => if m = n then some b else none
theorem ct1_ok {K : PySem.W.Frag} {mg : Str → Option Value} {n : Str} {D : Addr} {c : Value} {b : Bool} (hm : mg n = some (.ref D)) (h : PySem.W.exmOne K (.ref D) c = some b) : ∀ m y cls, ct1 n b m = some y → mg m = some cls → PySem.W.exmOne K cls c = some y := fun m y cls e1 e2 => by
  unfold ct1 at e1
  split at e1
  · rename_i hm'
    cases e1
    subst hm'
    rw [hm] at e2
    cases e2
    exact h
  · cases e1
/-- a weaker promise -/
theorem FnG.sub {P : Program} {w : World} {K : PySem.W.Frag} {mg : Str → Option Value} {base : Heap} {CX : CXT} {k n : Nat} {f : Addr} {fd : FuncData} {ps : List Str} {mf mf' : List D → Option RV} (h : ∀ ds r, mf ds = some r → mf' ds = some r) (G : FnG P w K mg base CX k f fd ps (spP ⟨K, P, w, mg⟩ n mf')) :
    FnG P w K mg base CX k f fd ps (spP ⟨K, P, w, mg⟩ n mf) :=
  ⟨fun vs H Q E q => by
    obtain ⟨h1, F, ds, r, e1, e2, e3, e4⟩ := q
    exact G.arity vs H Q E ⟨h1, F, ds, r, e1, e2, h _ _ e3, e4⟩, fun A outer s H args us vs Q E hr gd en b v q => by
    obtain ⟨h1, F, ds, r, e1, e2, e3, e4⟩ := q
    exact G.go A outer s H args us vs Q E hr gd en b v ⟨h1, F, ds, r, e1, e2, h _ _ e3, e4⟩⟩
theorem Has.sub {P : Program} {w : World} {K : PySem.W.Frag} {mg : Str → Option Value} {base : Heap} {k n : Nat} {x : Str} {dds : List D} {mf mf' : List D → Option RV} (h : ∀ ds r, mf ds = some r → mf' ds = some r) (G : Has P w K mg base k x n dds mf') : Has P w K mg base k x n dds mf := by
  obtain ⟨f, fd, ps, dvs, ds, h1, h2⟩ := G.ex
  exact ⟨f, fd, ps, dvs, ds, h1.sub h, h2⟩
/-- the context of a def that may raise -/
theorem cx_takes {P : Program} {w : World} {K : PySem.W.Frag} {mg : Str → Option Value} {base : Heap} {N : List Str} {q : Str} {sc : Scope} {f : Addr} {cd : Value} {A : Around} {outer : List Env} {s : Shared} {H : Hp} {E : XK} {C : Ct} (hW : C.W = fun cls d _ H => E cls d H) : Takes (cxOf (CXM P w) P w K mg base N q sc f cd A outer s H E) C.W := by
  rw [hW]
  exact takes_of rfl rfl rfl rfl
theorem cx_passes {P : Program} {w : World} {K : PySem.W.Frag} {mg : Str → Option Value} {base : Heap} {N : List Str} {q : Str} {sc : Scope} {f : Addr} {cd : Value} {A : Around} {outer : List Env} {s : Shared} {H : Hp} {E : XK} : PassesOwn (model P w) (A.deeper (envOfC q sc s.heap.objs.size f cd)) (envOfC q sc s.heap.objs.size f cd) (cxOf (CXM P w) P w K mg base N q sc f cd A outer s H E).xe := passes_of (X := cxOf (CXM P w) P w K mg base N q sc f cd A outer s H E) rfl
/-! ### for the walk over states -/
section
variable {c : AS → Option (RV × AS)} {st : AS} {i : Nat} {QS : Fl → AS → Prop} {b h : SF} {ct : Str → Option Bool}
theorem wp_raise {n : Str} (q : QS (.ret (.exc ⟨n, []⟩)) st) : Wp (raiseS n) st QS := ⟨_, _, rfl, q⟩
theorem wp_retX (w : Wp c st fun r s1 => QS (.ret r) s1) : Wp (retX c) st QS := by
  obtain ⟨r, s1, e, q⟩ := w
  exact ⟨_, _, by unfold retX; rw [e]; rfl, q⟩
theorem wp_asgX (w : Wp c st fun r s1 => match r with
    | .exc x => QS (.ret (.exc x)) s1
    | .val d => npO s1[i]? = true ∧ QS .nx (s1.set i (.dat d))
    | .new xs => npO s1[i]? = true ∧ QS .nx (s1.set i (.dat (.list xs)))
    | .dct kvs => npO s1[i]? = true ∧ QS .nx (s1.set i (.dat (.dict kvs)))) : Wp (asgX i c) st QS := by
  obtain ⟨r, s1, e, q⟩ := w
  cases r with
  | exc x => exact ⟨_, _, by unfold asgX; rw [e]; rfl, q⟩
  | val d => exact ⟨_, _, by unfold asgX; rw [e]; simp only [Option.bind_some, e_setD]; rw [if_pos q.1]; rfl, q.2⟩
  | new d => exact ⟨_, _, by unfold asgX; rw [e]; simp only [Option.bind_some, e_setD]; rw [if_pos q.1]; rfl, q.2⟩
  | dct d => exact ⟨_, _, by unfold asgX; rw [e]; simp only [Option.bind_some, e_setD]; rw [if_pos q.1]; rfl, q.2⟩
theorem wp_dropX (w : Wp c st fun r s1 => match r with
    | .exc x => QS (.ret (.exc x)) s1
    | _ => QS .nx s1) : Wp (dropX c) st QS := by
  obtain ⟨r, s1, e, q⟩ := w
  cases r <;> exact ⟨_, _, by unfold dropX; rw [e]; rfl, q⟩
theorem wp_try (w : Wp b st fun fl s1 => match fl with
    | .ret (.exc x) => ∃ y, ct x.cls = some y ∧ if y = true then Wp h s1 QS else QS (.ret (.exc x)) s1
    | .ret (.val d) => QS (.ret (.val d)) s1
    | .ret (.new d) => QS (.ret (.new d)) s1
    | .ret (.dct d) => QS (.ret (.dct d)) s1
    | .nx => QS .nx s1
    | .brk => QS .brk s1
    | .cont => QS .cont s1) : Wp (tryS ct b h) st QS := by
  obtain ⟨fl, s1, e, q⟩ := w
  cases fl with
  | nx => exact ⟨_, _, by unfold tryS; rw [e]; rfl, q⟩
  | brk => exact ⟨_, _, by unfold tryS; rw [e]; rfl, q⟩
  | cont => exact ⟨_, _, by unfold tryS; rw [e]; rfl, q⟩
  | ret r =>
    cases r with
    | val d => exact ⟨_, _, by unfold tryS; rw [e]; rfl, q⟩
    | new d => exact ⟨_, _, by unfold tryS; rw [e]; rfl, q⟩
    | dct d => exact ⟨_, _, by unfold tryS; rw [e]; rfl, q⟩
    | exc x =>
      obtain ⟨y, hy, q⟩ := q
      cases y with
      | true =>
        rw [if_pos rfl] at q
        obtain ⟨fl, s2, e2, q⟩ := q
        exact ⟨fl, s2, by unfold tryS; rw [e]; simp only [Option.bind_some, hy]; exact e2, q⟩
      | false =>
        rw [if_neg Bool.false_ne_true] at q
        exact ⟨_, _, by unfold tryS; rw [e]; simp only [Option.bind_some, hy], q⟩
end
end Xm

set_option Elab.async false
set_option linter.all false
set_option maxRecDepth 100000
namespace Xm
open PySem PySem.Spec PyProof.Rows L2

/-! ### shares.py and far.py, where they may refuse -/
noncomputable section
def gx_share_of : SF := (seqS (ifS (valB (bin2 kEq (rd 1) (cst (.int 0)))) (raiseS "NoShare") skipS) (seqS (asgS 2 (rvD (callP mf_common [] (consA (rd 0) (consA (rd 1) nilA))))) (seqS (ifS (valB (bin2 kLt (rd 1) (cst (.int 0)))) (asgS 2 (un1 kNeg (rd 2))) skipS) (retS (tupF (consA (bin2 kDiv (rd 0) (rd 2)) (consA (bin2 kDiv (rd 1) (rd 2)) nilA)))))))
def mx_share_of := runP gx_share_of 3
theorem ex_share_of : ∀ ds r, ds.length = 2 → mx_share_of ds = some r → Leaves gx_share_of (st0 3 ds) r fun _ => True := runP_ok
def gx_over : SF := (retX (callP mx_share_of [] (consA (bin2 kMul (bin2 kIx (rd 0) (cst (.int 0))) (bin2 kIx (rd 1) (cst (.int 1)))) (consA (bin2 kMul (bin2 kIx (rd 0) (cst (.int 1))) (bin2 kIx (rd 1) (cst (.int 0)))) nilA))))
def mx_over := runP gx_over 2
theorem ex_over : ∀ ds r, ds.length = 2 → mx_over ds = some r → Leaves gx_over (st0 2 ds) r fun _ => True := runP_ok
def gx_near : SF := (seqS (asgX 2 (callP mx_over [] (consA (rvD (callP mf_less [] (consA (rd 0) (consA (rd 1) nilA)))) (consA (rvD (callP mf_less [] (consA (cst (.tuple [(.int 1), (.int 1)])) (consA (rvD (callP mf_times [] (consA (cst (.tuple [(.int 2), (.int 1)])) (consA (rd 1) nilA)))) nilA)))) nilA)))) (seqS (ifS (orB (valB (rvD (callP mf_is_less [] (consA (rd 2) (consA (cst (.tuple [(.int 0), (.int 1)])) nilA))))) (valB (rvD (callP mf_is_less [] (consA (cst (.tuple [(.int 1), (.int 2)])) (consA (rd 2) nilA)))))) (raiseS "NoShare") skipS) (retS (rd 2))))
def mx_near := runP gx_near 3
theorem ex_near : ∀ ds r, ds.length = 2 → mx_near ds = some r → Leaves gx_near (st0 3 ds) r fun _ => True := runP_ok
end
/-- a guard that never stands in the way -/
theorem guard_sub {c : BF} {n : Str} {s : SF} {st : AS} {w : Fl × AS} (h : seqS (ifS c neverS skipS) s st = some w) : seqS (ifS c (raiseS n) skipS) s st = some w := by
  rw [e_seqS, e_ifS] at h ⊢
  obtain ⟨v, hv, h⟩ := Option.bind_eq_some_iff.mp h
  obtain ⟨a, ha, hv⟩ := Option.bind_eq_some_iff.mp hv
  rw [ha]
  split at hv
  · cases hv
  · rename_i hn
    cases hv
    simp only [Option.bind_some]
    rw [if_neg hn]
    exact h
theorem leaves_sub {g g' : SF} {N : Nat} {ds : List D} {r : RV} (k : ∀ st w, g st = some w → g' st = some w) (l : Leaves g (st0 N ds) r fun _ => True) : runP g' N ds = some r := by
  obtain ⟨st', h | ⟨h, rfl⟩, _⟩ := l
  · exact runP_of (k _ _ h)
  · unfold runP
    rw [k _ _ h]
    rfl
theorem sub_share_of : ∀ ds r, mf_share_of ds = some r → mx_share_of ds = some r := by
  intro ds r h
  have hl : ds.length = 2 := by
    unfold mf_share_of at h
    split at h
    · rfl
    · cases h
  exact leaves_sub (fun st w hw => guard_sub hw) (e_share_of ds r hl h)
theorem mf_share_val {ds : List D} {r : RV} (h : mf_share_of ds = some r) : ∃ d, r = .val d := by
  unfold mf_share_of at h
  split at h
  · split at h <;> cases h
    exact ⟨_, rfl⟩
  · cases h
/-- a call handed on -/
theorem retX_sub {mf mx : List D → Option RV} {a : LF} {st : AS} {w : Fl × AS} (k : ∀ ds r, mf ds = some r → mx ds = some r) (v : ∀ ds r, mf ds = some r → ∃ d, r = .val d) (h : retS (rvD (callP mf [] a)) st = some w) : retX (callP mx [] a) st = some w := by
  rw [e_retS] at h
  obtain ⟨x, hx, rfl⟩ := Option.map_eq_some_iff.mp h
  rw [e_rvD] at hx
  obtain ⟨y, hy, hx⟩ := Option.bind_eq_some_iff.mp hx
  rw [e_callP] at hy
  obtain ⟨z, hz, hy⟩ := Option.bind_eq_some_iff.mp hy
  obtain ⟨r, hr, rfl⟩ := Option.map_eq_some_iff.mp hy
  obtain ⟨d, rfl⟩ := v _ _ hr
  cases hx
  unfold retX
  rw [e_callP, hz]
  simp only [Option.bind_some, k _ _ hr]
  rfl
theorem asgX_sub {mf mx : List D → Option RV} {a : LF} {i : Nat} {st : AS} {w : Fl × AS} (k : ∀ ds r, mf ds = some r → mx ds = some r) (v : ∀ ds r, mf ds = some r → ∃ d, r = .val d) (h : asgS i (rvD (callP mf [] a)) st = some w) : asgX i (callP mx [] a) st = some w := by
  rw [e_asgS] at h
  obtain ⟨x, hx, h⟩ := Option.bind_eq_some_iff.mp h
  rw [e_rvD] at hx
  obtain ⟨y, hy, hx⟩ := Option.bind_eq_some_iff.mp hx
  rw [e_callP] at hy
  obtain ⟨z, hz, hy⟩ := Option.bind_eq_some_iff.mp hy
  obtain ⟨r, hr, rfl⟩ := Option.map_eq_some_iff.mp hy
  obtain ⟨d, rfl⟩ := v _ _ hr
  cases hx
  unfold asgX
  rw [e_callP, hz]
  simp only [Option.bind_some, k _ _ hr]
  exact h
theorem sub_over : ∀ ds r, mf_over ds = some r → mx_over ds = some r := by
  intro ds r h
  have hl : ds.length = 2 := by
    unfold mf_over two at h
    split at h
    · rfl
    · cases h
  exact leaves_sub (fun st w hw => retX_sub sub_share_of (fun _ _ => mf_share_val) hw) (e_over ds r hl h)
theorem mf_over_val {ds : List D} {r : RV} (h : mf_over ds = some r) : ∃ d, r = .val d := by
  unfold mf_over two at h
  split at h
  · obtain ⟨p, _, h⟩ := Option.bind_eq_some_iff.mp h
    obtain ⟨q, _, h⟩ := Option.bind_eq_some_iff.mp h
    split at h
    · obtain ⟨d, _, rfl⟩ := Option.map_eq_some_iff.mp h
      exact ⟨d, rfl⟩
    · cases h
  · cases h
theorem seq_sub {s s' t t' : SF} (h : ∀ st w, s st = some w → s' st = some w) (k : ∀ st w, t st = some w → t' st = some w) {st : AS} {w : Fl × AS} (e : seqS s t st = some w) : seqS s' t' st = some w := by
  rw [e_seqS] at e ⊢
  obtain ⟨v, hv, e⟩ := Option.bind_eq_some_iff.mp e
  rw [h _ _ hv]
  obtain ⟨fl, s2⟩ := v
  cases fl with
  | nx => exact k _ _ e
  | brk => exact e
  | cont => exact e
  | ret r => exact e
theorem sub_near : ∀ ds r, mf_near ds = some r → mx_near ds = some r := by
  intro ds r h
  have hl : ds.length = 2 := by
    unfold mf_near at h
    split at h
    · rfl
    · cases h
  exact leaves_sub (fun st w hw => seq_sub (fun _ _ e => asgX_sub sub_over (fun _ _ => mf_over_val) e) (fun _ _ e => guard_sub e) hw) (e_near ds r hl h)
/-! ### where they refuse -/
theorem mx_share_of_0 (t : Int) : mx_share_of [.int t, .int 0] = some (.exc ⟨"NoShare", []⟩) := rfl
theorem mx_over_0 {p : Rat} (hp : SmQ p) : mx_over [sh p, sh 0] = some (.exc ⟨"NoShare", []⟩) := by
  have e1 : kMul (.int p.num) (.int 1) = some (.int (p.num * 1)) := k_mul hp.1 (by decide +kernel)
  have e2 : kMul (.int p.den) (.int 0) = some (.int (p.den * 0)) := k_mul hp.2 (by decide +kernel)
  refine runP_of (st' := [.dat (sh p), .dat (sh 0)]) ?_
  unfold gx_over retX
  rw [e_callP]
  have h0 : sh 0 = .tuple [.int 0, .int 1] := rfl
  have hp' : sh p = .tuple [.int p.num, .int p.den] := rfl
  rw [h0, hp']
  simp [e1, e2, mx_share_of_0]
end Xm

set_option Elab.async false
set_option linter.all false
set_option maxRecDepth 100000
namespace DwA
open PySem PySem.Spec PyProof.Rows L2 Xm

def g_law_draw : SF := (seqS (ifS (valB (bin2 kGt (ixM 0 (cst (.int 2))) (cst (.int 0)))) (seqS (asgS 5 (bin2 kMod (ixM 0 (cst (.int 2))) (rd 1))) (seqS (setM 0 (bin2 kDiv (ixM 0 (cst (.int 2))) (rd 1)) (cst (.int 2))) (retS (rd 5)))) skipS) (seqS (asgS 2 (ixM 0 (cst (.int 1)))) (seqS (setM 0 (bin2 kCat (rd 2) (cst (.int 1))) (cst (.int 1))) (seqS (asgS 3 (bin2 kCat (bin2 kMul (cst (.int 90011)) (rd 2)) (cst (.int 97)))) (seqS (ifS (valB (bin2 kNe (ixM 0 (cst (.int 0))) (lstF nilA))) (asgS 3 (bin2 kIx (ixM 0 (cst (.int 0))) (bin2 kMod (rd 2) (un1 kLen (ixM 0 (cst (.int 0))))))) skipS) (seqS (ifS (andB (valB (bin2 kLt (rd 2) (un1 kLen (ixM 0 (cst (.int 0)))))) (valB (bin2 kGe (un1 kAbs (rd 3)) (bin2 kPow (cst (.int 10)) (cst (.int 18)))))) (seqS (setM 0 (bin2 kDiv (un1 kAbs (rd 3)) (rd 1)) (cst (.int 2))) (retS (bin2 kMod (un1 kAbs (rd 3)) (rd 1)))) skipS) (seqS (asgS 4 (bin2 kMod (bin2 kPow (bin2 kCat (bin2 kCat (bin2 kCat (bin2 kMod (rd 3) (cst (.int 2147483563))) (bin2 kMul (bin2 kMul (cst (.int 60013)) (rd 2)) (rd 2))) (bin2 kMul (cst (.int 50021)) (rd 2))) (cst (.int 53))) (cst (.int 3))) (cst (.int 2147483647)))) (seqS (asgS 4 (bin2 kMod (bin2 kPow (bin2 kCat (bin2 kMul (rd 4) (bin2 kCat (bin2 kMul (cst (.int 11)) (rd 2)) (cst (.int 6)))) (cst (.int 70001))) (cst (.int 3))) (cst (.int 2147483587)))) (retS (bin2 kMod (bin2 kDiv (rd 4) (cst (.int 32))) (rd 1)))))))))))
def mq_law_draw := runQ g_law_draw 6
theorem e_law_draw : ∀ xs ds r, ds.length + 1 = 2 → mq_law_draw xs ds = some r → Leaves g_law_draw (st1 6 xs ds) r.1 fun s => s[0]? = some (.pen r.2) := runQ_ok
def g_law_common : SF := (seqS (par2 0 1 (consA (un1 kAbs (rd 0)) (consA (un1 kAbs (rd 1)) nilA))) (seqS (whileS (valB (bin2 kGt (rd 1) (cst (.int 0)))) (par2 0 1 (consA (rd 1) (consA (bin2 kMod (rd 0) (rd 1)) nilA))) msAll) (retS (rd 0))))
def mf_law_common := runP g_law_common 2
theorem e_law_common : ∀ ds r, ds.length = 2 → mf_law_common ds = some r → Leaves g_law_common (st0 2 ds) r fun _ => True := runP_ok
def g_law_share : SF := (seqS (asgS 2 (rvD (callP mf_law_common [] (consA (rd 0) (consA (rd 1) nilA))))) (seqS (ifS (valB (bin2 kLt (rd 1) (cst (.int 0)))) (asgS 2 (bin2 kSub (cst (.int 0)) (rd 2))) skipS) (retS (tupF (consA (bin2 kDiv (rd 0) (rd 2)) (consA (bin2 kDiv (rd 1) (rd 2)) nilA))))))
def mf_law_share := runP g_law_share 3
theorem e_law_share : ∀ ds r, ds.length = 2 → mf_law_share ds = some r → Leaves g_law_share (st0 3 ds) r fun _ => True := runP_ok
def g_law_plus : SF := (retS (rvD (callP mf_law_share [] (consA (bin2 kCat (bin2 kMul (bin2 kIx (rd 0) (cst (.int 0))) (bin2 kIx (rd 1) (cst (.int 1)))) (bin2 kMul (bin2 kIx (rd 1) (cst (.int 0))) (bin2 kIx (rd 0) (cst (.int 1))))) (consA (bin2 kMul (bin2 kIx (rd 0) (cst (.int 1))) (bin2 kIx (rd 1) (cst (.int 1)))) nilA)))))
def mf_law_plus := runP g_law_plus 2
theorem e_law_plus : ∀ ds r, ds.length = 2 → mf_law_plus ds = some r → Leaves g_law_plus (st0 2 ds) r fun _ => True := runP_ok
def g_law_times : SF := (retS (rvD (callP mf_law_share [] (consA (bin2 kMul (bin2 kIx (rd 0) (cst (.int 0))) (bin2 kIx (rd 1) (cst (.int 0)))) (consA (bin2 kMul (bin2 kIx (rd 0) (cst (.int 1))) (bin2 kIx (rd 1) (cst (.int 1)))) nilA)))))
def mf_law_times := runP g_law_times 2
theorem e_law_times : ∀ ds r, ds.length = 2 → mf_law_times ds = some r → Leaves g_law_times (st0 2 ds) r fun _ => True := runP_ok
def g_law_any : SF := (seqS (asgS 1 (rvD (callQ mq_law_draw 0 (consA (cst (.int 8)) nilA)))) (seqS (asgS 2 (bin2 kCat (bin2 kMul (rvD (callQ mq_law_draw 0 (consA (bin2 kPow (cst (.int 10)) (cst (.int 6))) nilA))) (bin2 kPow (cst (.int 10)) (cst (.int 6)))) (rvD (callQ mq_law_draw 0 (consA (bin2 kPow (cst (.int 10)) (cst (.int 6))) nilA))))) (seqS (asgS 3 (bin2 kIx (lstF (consA (bin2 kSub (rvD (callQ mq_law_draw 0 (consA (cst (.int 9)) nilA))) (cst (.int 4))) (consA (bin2 kSub (rvD (callQ mq_law_draw 0 (consA (cst (.int 41)) nilA))) (cst (.int 20))) (consA (cst (.int 0)) (consA (cst (.int 1)) (consA (un1 kNeg (cst (.int 1))) (consA (rd 2) (consA (bin2 kSub (cst (.int 0)) (rd 2)) (consA (rvD (callQ mq_law_draw 0 (consA (cst (.int 13)) nilA))) nilA))))))))) (rd 1))) (seqS (asgS 4 (bin2 kIx (lstF (consA (cst (.int 1)) (consA (cst (.int 2)) (consA (bin2 kCat (cst (.int 1)) (rvD (callQ mq_law_draw 0 (consA (cst (.int 12)) nilA)))) (consA (cst (.int 3)) (consA (cst (.int 4)) (consA (bin2 kCat (cst (.int 1)) (rvD (callQ mq_law_draw 0 (consA (bin2 kPow (cst (.int 10)) (cst (.int 12))) nilA)))) (consA (cst (.int 6)) (consA (bin2 kSub (bin2 kPow (cst (.int 10)) (cst (.int 12))) (cst (.int 1))) nilA))))))))) (rvD (callQ mq_law_draw 0 (consA (cst (.int 8)) nilA))))) (retS (rvD (callP mf_law_share [] (consA (rd 3) (consA (bin2 kIx (lstF (consA (rd 4) (consA (bin2 kCat (cst (.int 1)) (bin2 kMod (rd 4) (cst (.int 12)))) nilA))) (un1 kInt (bin2 kGt (rvD (callQ mq_law_draw 0 (consA (cst (.int 4)) nilA))) (cst (.int 0))))) nilA)))))))))
def mq_law_any := runQ g_law_any 5
theorem e_law_any : ∀ xs ds r, ds.length + 1 = 1 → mq_law_any xs ds = some r → Leaves g_law_any (st1 5 xs ds) r.1 fun s => s[0]? = some (.pen r.2) := runQ_ok
def g_law_near : SF := (retS (rvD (callP mf_law_share [] (consA (bin2 kSub (rvD (callQ mq_law_draw 0 (consA (cst (.int 25)) nilA))) (cst (.int 12))) (consA (bin2 kCat (cst (.int 1)) (rvD (callQ mq_law_draw 0 (consA (cst (.int 6)) nilA)))) nilA)))))
def mq_law_near := runQ g_law_near 1
theorem e_law_near : ∀ xs ds r, ds.length + 1 = 1 → mq_law_near xs ds = some r → Leaves g_law_near (st1 1 xs ds) r.1 fun s => s[0]? = some (.pen r.2) := runQ_ok
theorem draw_ok {n : Nat} {xs : List D} {m : Int} (h : PenOk n xs) (hn : n < 2 ^ 20) (hm : 0 < m) (hm2 : m < 2 ^ 63) :
    ∃ d ys, mq_law_draw xs [.int m] = some (.val (.int d), ys) ∧ 0 ≤ d ∧ d < m ∧ PenOk (n + 1) ys := by
  obtain ⟨cs, u, r, rfl, hu, hun, hr⟩ := h
  have sdm : Sd m := sd64 (by omega)
  have kd : ∀ i : Int, kDiv (.int i) (.int m) = some (.int (i / m)) := fun i => k_divP hm sdm
  have km : ∀ i : Int, kMod (.int i) (.int m) = some (.int (i % m)) := fun i => k_modP hm
  have fin : ∀ {d : Int} {u' r' : Int}, (g_law_draw (st1 6 (pen cs u r) [.int m])).map (fun w => (w.1, w.2[0]?)) = some (.ret (.val (.int d)), some (.pen (pen cs u' r'))) → 0 ≤ d → d < m → 0 ≤ u' → u' ≤ u + 1 → 0 ≤ r' →
      ∃ d ys, mq_law_draw (pen cs u r) [.int m] = some (.val (.int d), ys) ∧ 0 ≤ d ∧ d < m ∧ PenOk (n + 1) ys := fun h h1 h2 h3 h4 h5 => ⟨_, _, runQ_map h, h1, h2, cs, _, _, rfl, h3, by omega, h5⟩
  by_cases h0 : 0 < r
  · refine fin (d := r % m) (u' := u) (r' := r / m) ?_ (Int.emod_nonneg _ (by omega)) (Int.emod_lt_of_pos _ hm) hu (by omega) (Int.ediv_nonneg hr (by omega))
    simp [g_law_draw, pen, h0, kd, km]
  · have e18 : kPow (.int 10) (.int 18) = some (.int (10 ^ 18)) := k_powS (n := 18) (by decide) (by omega)
    have m3 : kMul (.int 90011) (.int u) = some (.int (90011 * u)) := k_mulS (by decide) (by omega)
    have m4 : kMul (.int 50021) (.int u) = some (.int (50021 * u)) := k_mulS (by decide) (by omega)
    have m5 : kMul (.int 60013) (.int u) = some (.int (60013 * u)) := k_mulS (by decide) (by omega)
    have m6 : kMul (.int (60013 * u)) (.int u) = some (.int (60013 * u * u)) := k_mulS (by omega) (by omega)
    have m7 : kMul (.int 11) (.int u) = some (.int (11 * u)) := k_mulS (by decide) (by omega)
    have n1 : ∀ i : Int, kMod (.int i) (.int 2147483563) = some (.int (i % 2147483563)) := fun i => k_modP (by decide)
    have n2 : ∀ i : Int, kMod (.int i) (.int 2147483647) = some (.int (i % 2147483647)) := fun i => k_modP (by decide)
    have n3 : ∀ i : Int, kMod (.int i) (.int 2147483587) = some (.int (i % 2147483587)) := fun i => k_modP (by decide)
    have n6 : ∀ i : Int, kDiv (.int i) (.int 32) = some (.int (i / 32)) := fun i => k_divP (by decide) (by decide)
    have uu : 60013 * u * u ≤ 60013 * (2 ^ 20) * (2 ^ 20) ∧ 0 ≤ 60013 * u * u := by
      have a1 : u * u ≤ 2 ^ 20 * 2 ^ 20 := Int.mul_le_mul (by omega) (by omega) hu (by decide)
      have a2 : 0 ≤ u * u := Int.mul_nonneg hu hu
      rw [Int.mul_assoc]
      omega
    have stir : ∀ c : Int, ∃ low high : Int, kPow (.int (c % 2147483563 + 60013 * u * u + 50021 * u + 53)) (.int 3) = some (.int ((c % 2147483563 + 60013 * u * u + 50021 * u + 53) ^ 3)) ∧ low = (c % 2147483563 + 60013 * u * u + 50021 * u + 53) ^ 3 % 2147483647 ∧
        kMul (.int low) (.int (11 * u + 6)) = some (.int (low * (11 * u + 6))) ∧ kPow (.int (low * (11 * u + 6) + 70001)) (.int 3) = some (.int ((low * (11 * u + 6) + 70001) ^ 3)) ∧ high = (low * (11 * u + 6) + 70001) ^ 3 % 2147483587 := fun c => by
      have c1 := Int.emod_nonneg c (show (2147483563 : Int) ≠ 0 by decide)
      have c2 := Int.emod_lt_of_pos c (show (0 : Int) < 2147483563 by decide)
      refine ⟨(c % 2147483563 + 60013 * u * u + 50021 * u + 53) ^ 3 % 2147483647, ((c % 2147483563 + 60013 * u * u + 50021 * u + 53) ^ 3 % 2147483647 * (11 * u + 6) + 70001) ^ 3 % 2147483587, k_powS (n := 3) (by omega) (by omega), rfl, ?_⟩
      generalize (c % 2147483563 + 60013 * u * u + 50021 * u + 53) ^ 3 = X
      have l1 := Int.emod_nonneg X (show (2147483647 : Int) ≠ 0 by decide)
      have l2 := Int.emod_lt_of_pos X (show (0 : Int) < 2147483647 by decide)
      generalize X % 2147483647 = low at *
      have lu : low * (11 * u + 6) ≤ 2147483647 * (11 * 2 ^ 20 + 6) ∧ 0 ≤ low * (11 * u + 6) := ⟨Int.mul_le_mul (by omega) (by omega) (by omega) (by decide), Int.mul_nonneg l1 (by omega)⟩
      exact ⟨k_mulS (by omega) (by omega), k_powS (n := 3) (by omega) (by omega), rfl⟩
    by_cases hc : cs = []
    · subst hc
      obtain ⟨low, high, s1, s2, s3, s4, s5⟩ := stir (90011 * u + 97)
      have hlt : ¬ u < 0 := by omega
      have kne : kNe (.list []) (.list []) = some (.bool false) := rfl
      refine fin (d := high / 32 % m) (u' := u + 1) (r' := r) ?_ (Int.emod_nonneg _ (by omega)) (Int.emod_lt_of_pos _ hm) (by omega) (by omega) hr
      simp [g_law_draw, pen, h0, kd, km, m3, m4, m5, m6, m7, n1, n2, n3, n6, kne, hlt, s1, ← s2, s3, s4, ← s5]
    · have hlen : 0 < (cs.length : Int) := by
        have := List.length_pos_iff.mpr hc
        omega
      have kne : kNe (.list (cs.map PyData.int)) (.list []) = some (.bool true) := by rw [k_neCells' cs]; simp [hc]
      obtain ⟨c, hix⟩ : ∃ c : Int, atI (cs.map PyData.int) (u % (cs.length : Int)) = some (.int c) := by
        have h1 := Int.emod_nonneg u (show (cs.length : Int) ≠ 0 by omega)
        have h2 := Int.emod_lt_of_pos u hlen
        have h3 : (u % (cs.length : Int)).toNat < cs.length := by omega
        refine ⟨cs[(u % (cs.length : Int)).toNat], ?_⟩
        have := at_n (n := (u % (cs.length : Int)).toNat) (xs := cs.map PyData.int) (x := .int cs[(u % (cs.length : Int)).toNat]) (by rw [List.getElem?_map, List.getElem?_eq_getElem h3]; rfl)
        rw [Int.toNat_of_nonneg h1] at this
        exact this
      have kml : kMod (.int u) (.int (cs.length : Int)) = some (.int (u % (cs.length : Int))) := k_modP hlen
      by_cases hb : u < (cs.length : Int) ∧ (10 : Int) ^ 18 ≤ (c.natAbs : Int)
      · refine fin (d := (c.natAbs : Int) % m) (u' := u + 1) (r' := (c.natAbs : Int) / m) ?_ (Int.emod_nonneg _ (by omega)) (Int.emod_lt_of_pos _ hm) (by omega) (by omega) (Int.ediv_nonneg (by omega) (by omega))
        simp [g_law_draw, pen, h0, kd, km, m3, kne, hix, kml, e18, hb.1]
        rw [if_pos (by have := hb.2; omega)]
        rfl
      · obtain ⟨low, high, s1, s2, s3, s4, s5⟩ := stir c
        refine fin (d := high / 32 % m) (u' := u + 1) (r' := r) ?_ (Int.emod_nonneg _ (by omega)) (Int.emod_lt_of_pos _ hm) (by omega) (by omega) hr
        by_cases hu2 : u < (cs.length : Int)
        · have hb2 : ¬ (10 : Int) ^ 18 ≤ (c.natAbs : Int) := fun z => hb ⟨hu2, z⟩
          simp [g_law_draw, pen, h0, kd, km, m3, m4, m5, m6, m7, n1, n2, n3, n6, kne, hix, kml, e18, hu2]
          rw [if_neg (by omega)]
          simp [kd, km, m4, m5, m6, m7, n1, n2, n3, n6, s1, ← s2, s3, s4, ← s5]
        · simp [g_law_draw, pen, h0, kd, km, m3, m4, m5, m6, m7, n1, n2, n3, n6, kne, hix, kml, hu2, s1, ← s2, s3, s4, ← s5]
theorem cut_ints (ns : List Int) : cutX (ns.map PyData.int) none (some 63) = (ns.take 63).map PyData.int := by
  rw [show (63 : Int) = ((63 : Nat) : Int) from rfl, cut_take, List.map_take]
theorem pen0 (ns : List Int) : PenOk 0 [.list (cutX (ns.map PyData.int) none (some 63)), .int 0, .int 0] := ⟨ns.take 63, 0, 0, by rw [cut_ints]; rfl, by omega, by omega, by omega⟩
theorem lcommon_loop : ∀ (n a b : Nat), b < n → ∃ c : Nat, whileN (valB (bin2 kGt (rd 1) (cst (.int 0)))) (par2 0 1 (consA (rd 1) (consA (bin2 kMod (rd 0) (rd 1)) nilA))) n [.dat (.int a), .dat (.int b)] = some (.nx, [.dat (.int (Nat.gcd a b)), .dat (.int c)])
  | 0, a, b, h => by omega
  | n + 1, a, b, h => by
    by_cases hb : b = 0
    · subst hb
      exact ⟨0, by simp [whileN]⟩
    · obtain ⟨c, hc⟩ := lcommon_loop n b (a % b) (by have := Nat.mod_lt a (by omega : b > 0); omega)
      refine ⟨c, ?_⟩
      have hb' : (0 < b) = True := by simp; omega
      have hm : kMod (.int (a : Int)) (.int (b : Int)) = some (.int ((a % b : Nat) : Int)) := by rw [k_mod (by omega), fmod_nat]
      have hg : Nat.gcd a b = Nat.gcd b (a % b) := by rw [Nat.gcd_comm a b, Nat.gcd_rec b a, Nat.gcd_comm]
      rw [hg, ← hc]
      simp [whileN, hb', hm]
theorem m_law_common (a b : Int) : mf_law_common [.int a, .int b] = some (.val (.int (Int.gcd a b))) := by
  refine runP_map ?_
  obtain ⟨c, hc⟩ := lcommon_loop (b.natAbs + 1) a.natAbs b.natAbs (by omega)
  have hw := whileS_all hc (by simp [msAll, wt]; omega)
  simp [g_law_common, hw, Int.gcd]
theorem m_law_share {t b : Int} (hb : 0 < b) (hs : Sd b) : mf_law_share [.int t, .int b] = some (.val (sh (Rat.divInt t b))) := by
  refine runP_map ?_
  have hg : (0 : Int) < Int.gcd t b := by
    have := Int.gcd_pos_of_ne_zero_right t (show b ≠ 0 by omega)
    omega
  have sg := sd_gcd (t := t) (show b ≠ 0 by omega) hs
  have d1 : ∀ i : Int, kDiv (.int i) (.int (Int.gcd t b : Int)) = some (.int (i.fdiv (Int.gcd t b : Int))) := fun i => k_div (by omega) sg
  have hn : ¬ b < 0 := by omega
  rw [sh_divInt (show b ≠ 0 by omega), if_neg hn]
  simp [g_law_share, m_law_common, hn, d1]
theorem den2_pos (p q : Rat) : (0 : Int) < (p.den : Int) * q.den := Int.mul_pos (by have := p.den_pos; omega) (by have := q.den_pos; omega)
theorem m_law_plus {p q : Rat} (hp : SmQ p) (hq : SmQ q) : mf_law_plus [sh p, sh q] = some (.val (sh (p + q))) := by
  refine runP_map ?_
  simp [g_law_plus, sh, k_mul hp.1 hq.2, k_mul hq.1 hp.2, k_mul hp.2 hq.2, m_law_share (den2_pos p q) (sd_mul hp.2 hq.2), add_divInt]
theorem m_law_times {p q : Rat} (hp : SmQ p) (hq : SmQ q) : mf_law_times [sh p, sh q] = some (.val (sh (p * q))) := by
  refine runP_map ?_
  simp [g_law_times, sh, k_mul hp.1 hq.1, k_mul hp.2 hq.2, m_law_share (den2_pos p q) (sd_mul hp.2 hq.2), mul_divInt]
theorem at_ints {zs : List Int} {i : Int} (h0 : 0 ≤ i) (h1 : i < zs.length) : ∃ z ∈ zs, atI (zs.map PyData.int) i = some (.int z) := by
  have h3 : i.toNat < zs.length := by omega
  refine ⟨zs[i.toNat], List.getElem_mem _, ?_⟩
  have := at_n (n := i.toNat) (xs := zs.map PyData.int) (x := .int zs[i.toNat]) (by rw [List.getElem?_map, List.getElem?_eq_getElem h3]; rfl)
  rw [Int.toNat_of_nonneg h0] at this
  exact this
theorem bq_share {t b : Int} {k : Nat} (hb : 0 < b) (h1 : t.natAbs < 2 ^ k) (h2 : b.natAbs < 2 ^ k) : Bq k (Rat.divInt t b) := bq_divInt (by omega) h1 h2
theorem near_ok {n : Nat} {xs : List D} (h : PenOk n xs) (hn : n + 2 < 2 ^ 20) : ∃ q ys, mq_law_near xs [] = some (.val (sh q), ys) ∧ Bq 41 q ∧ PenOk (n + 2) ys := by
  obtain ⟨d1, x1, e1, a1, b1, p1⟩ := draw_ok (m := 25) h (by omega) (by decide) (by decide)
  obtain ⟨d2, x2, e2, a2, b2, p2⟩ := draw_ok (m := 6) p1 (by omega) (by decide) (by decide)
  have k3 := m_law_share (t := d1 - 12) (b := 1 + d2) (by omega) (sd64 (by omega))
  refine ⟨Rat.divInt (d1 - 12) (1 + d2), x2, runQ_map ?_, bq_share (by omega) (by omega) (by omega), p2⟩
  simp [g_law_near, e1, e2, k3]
theorem any_ok {n : Nat} {xs : List D} (h : PenOk n xs) (hn : n + 20 < 2 ^ 20) : ∃ q ys, mq_law_any xs [] = some (.val (sh q), ys) ∧ Bq 41 q ∧ PenOk (n + 20) ys := by
  obtain ⟨d1, x1, e1, a1, b1, p1⟩ := draw_ok (m := 8) h (by omega) (by decide) (by decide)
  obtain ⟨d2, x2, e2, a2, b2, p2⟩ := draw_ok (m := 1000000) p1 (by omega) (by decide) (by decide)
  obtain ⟨d3, x3, e3, a3, b3, p3⟩ := draw_ok (m := 1000000) p2 (by omega) (by decide) (by decide)
  obtain ⟨d4, x4, e4, a4, b4, p4⟩ := draw_ok (m := 9) p3 (by omega) (by decide) (by decide)
  obtain ⟨d5, x5, e5, a5, b5, p5⟩ := draw_ok (m := 41) p4 (by omega) (by decide) (by decide)
  obtain ⟨d6, x6, e6, a6, b6, p6⟩ := draw_ok (m := 13) p5 (by omega) (by decide) (by decide)
  obtain ⟨d7, x7, e7, a7, b7, p7⟩ := draw_ok (m := 12) p6 (by omega) (by decide) (by decide)
  obtain ⟨d8, x8, e8, a8, b8, p8⟩ := draw_ok (m := 1000000000000) p7 (by omega) (by decide) (by decide)
  obtain ⟨d9, x9, e9, a9, b9, p9⟩ := draw_ok (m := 8) p8 (by omega) (by decide) (by decide)
  obtain ⟨d10, x10, e10, a10, b10, p10⟩ := draw_ok (m := 4) p9 (by omega) (by decide) (by decide)
  have k6 : kPow (.int 10) (.int 6) = some (.int 1000000) := k_powS (n := 6) (by decide) (by omega)
  have k12 : kPow (.int 10) (.int 12) = some (.int 1000000000000) := k_powS (n := 12) (by decide) (by omega)
  have km : kMul (.int d2) (.int 1000000) = some (.int (d2 * 1000000)) := k_mulS (by omega) (by decide)
  obtain ⟨up, hup, eup⟩ := at_ints (zs := [d4 - 4, d5 - 20, 0, 1, -1, d2 * 1000000 + d3, 0 - (d2 * 1000000 + d3), d6]) a1 (by simp; omega)
  obtain ⟨dn, hdn, edn⟩ := at_ints (zs := [1, 2, 1 + d7, 3, 4, 1 + d8, 6, 1000000000000 - 1]) a9 (by simp; omega)
  have bup : up.natAbs < 2 ^ 41 := by
    simp only [List.mem_cons, List.not_mem_nil, or_false] at hup
    omega
  have bdn : 0 < dn ∧ dn.natAbs < 2 ^ 41 := by
    simp only [List.mem_cons, List.not_mem_nil, or_false] at hdn
    omega
  simp at eup edn
  have kmod : kMod (.int dn) (.int 12) = some (.int (dn % 12)) := k_modP (by decide)
  obtain ⟨b, hb, eb⟩ : ∃ b : Int, (0 < b ∧ b.natAbs < 2 ^ 41) ∧ atI [.int dn, .int (1 + dn % 12)] (if 0 < d10 then 1 else 0) = some (PyData.int b) := by
    by_cases hd : 0 < d10
    · exact ⟨1 + dn % 12, by omega, by rw [if_pos hd]; exact at_n (n := 1) rfl⟩
    · exact ⟨dn, bdn, by rw [if_neg hd]; exact at_n (n := 0) rfl⟩
  have k3 := m_law_share (t := up) (b := b) (by omega) (sd64 (by omega))
  refine ⟨Rat.divInt up b, x10, runQ_map ?_, bq_share (by omega) bup hb.2, p10.mono (by omega)⟩
  simp only [g_law_any, e_seqS, e_asgS, e_bin2, e_cst, e_rvD, e_callQ, e_consA, e_nilA, e_lstF, e_st1]
  simp [e1, e2, e3, e4, e5, e6, e7, e8, e9, e10, k6, k12, km, eup, edn, kmod, eb, k3]
end DwA

set_option Elab.async false
set_option linter.all false
set_option maxRecDepth 100000
namespace K02
open PySem PySem.Spec PyProof.Rows L2 Xm DwA
noncomputable section

def g_law_below : SF := (retS (bin2 kLt (bin2 kMul (bin2 kIx (rd 0) (cst (.int 0))) (bin2 kIx (rd 1) (cst (.int 1)))) (bin2 kMul (bin2 kIx (rd 1) (cst (.int 0))) (bin2 kIx (rd 0) (cst (.int 1))))))
def mf_law_below := runP g_law_below 2
theorem e_law_below : ∀ ds r, ds.length = 2 → mf_law_below ds = some r → Leaves g_law_below (st0 2 ds) r fun _ => True := runP_ok
def g_law_less : SF := (retS (rvD (callP mf_law_share [] (consA (bin2 kSub (bin2 kMul (bin2 kIx (rd 0) (cst (.int 0))) (bin2 kIx (rd 1) (cst (.int 1)))) (bin2 kMul (bin2 kIx (rd 1) (cst (.int 0))) (bin2 kIx (rd 0) (cst (.int 1))))) (consA (bin2 kMul (bin2 kIx (rd 0) (cst (.int 1))) (bin2 kIx (rd 1) (cst (.int 1)))) nilA)))))
def mf_law_less := runP g_law_less 2
theorem e_law_less : ∀ ds r, ds.length = 2 → mf_law_less ds = some r → Leaves g_law_less (st0 2 ds) r fun _ => True := runP_ok
def g_law_over_right : SF := (seqS (asgS 2 (cst (.bool false))) (seqS (asgS 3 (cst .none)) (seqS (tryS (ct1 "NoShare" true) (asgX 3 (callP mx_over [] (consA (rd 0) (consA (rd 1) nilA)))) (asgS 2 (cst (.bool true)))) (seqS (ifS (valB (bin2 kEq (bin2 kIx (rd 1) (cst (.int 0))) (cst (.int 0)))) (retS (rd 2)) skipS) (retS (boolE (andB (valB (boolE (notB (valB (rd 2))))) (andB (valB (bin2 kEq (un1 kRepr (rd 3)) (un1 kRepr (rvD (callP mf_law_share [] (consA (bin2 kMul (bin2 kIx (rd 0) (cst (.int 0))) (bin2 kIx (rd 1) (cst (.int 1)))) (consA (bin2 kMul (bin2 kIx (rd 0) (cst (.int 1))) (bin2 kIx (rd 1) (cst (.int 0)))) nilA))))))) (valB (bin2 kEq (rd 3) (rvD (callK mf_over [.inr 1, .inr 0] nilA (consA (rd 1) (consA (rd 0) nilA))))))))))))))
def mf_law_over_right := runP g_law_over_right 4
theorem e_law_over_right : ∀ ds r, ds.length = 2 → mf_law_over_right ds = some r → Leaves g_law_over_right (st0 4 ds) r fun _ => True := runP_ok
def g_law_right : SF := (seqS (asgS 2 (lstF (consA (rvD (callP mf_law_plus [] (consA (rd 0) (consA (rd 1) nilA)))) (consA (rvD (callP mf_law_less [] (consA (rd 0) (consA (rd 1) nilA)))) (consA (rvD (callP mf_law_times [] (consA (rd 0) (consA (rd 1) nilA)))) (consA (rvD (callP mf_law_below [] (consA (rd 0) (consA (rd 1) nilA)))) nilA)))))) (seqS (asgS 3 (lstF (consA (rvD (callP mf_plus [] (consA (rd 0) (consA (rd 1) nilA)))) (consA (rvD (callP mf_less [] (consA (rd 0) (consA (rd 1) nilA)))) (consA (rvD (callP mf_times [] (consA (rd 0) (consA (rd 1) nilA)))) (consA (rvD (callP mf_is_less [] (consA (rd 0) (consA (rd 1) nilA)))) nilA)))))) (seqS (asgS 4 (lstF (consA (rvD (callK mf_plus [.inr 1, .inr 0] nilA (consA (rd 1) (consA (rd 0) nilA)))) (consA (rvD (callK mf_less [.inr 1, .inr 0] nilA (consA (rd 1) (consA (rd 0) nilA)))) (consA (rvD (callK mf_times [.inr 0, .inr 1] nilA (consA (rd 0) (consA (rd 1) nilA)))) (consA (rvD (callK mf_is_less [.inr 1, .inr 0] nilA (consA (rd 1) (consA (rd 0) nilA)))) nilA)))))) (retS (boolE (andB (valB (bin2 kEq (un1 kRepr (rd 3)) (un1 kRepr (rd 2)))) (andB (valB (bin2 kEq (un1 kRepr (rd 4)) (un1 kRepr (rd 2)))) (valB (rvD (callP mf_law_over_right [] (consA (rd 0) (consA (rd 1) nilA))))))))))))
def mf_law_right := runP g_law_right 5
theorem e_law_right : ∀ ds r, ds.length = 2 → mf_law_right ds = some r → Leaves g_law_right (st0 5 ds) r fun _ => True := runP_ok
def g_law : SF := (seqS (asgN 1 (newF (consA (un1 kList (cutF (rd 0) noO (someO (cst (.int 63))))) (consA (cst (.int 0)) (consA (cst (.int 0)) nilA))))) (seqS (asgS 2 (bin2 kCat (bin2 kPow (cst (.int 10)) (cst (.int 11))) (rvD (callQ mq_law_draw 1 (consA (bin2 kPow (cst (.int 10)) (cst (.int 12))) nilA))))) (seqS (ifS (notB (valB (rvD (callP mf_law_right [] (consA (tupF (consA (rd 2) (consA (bin2 kCat (rd 2) (cst (.int 1))) nilA))) (consA (tupF (consA (bin2 kCat (rd 2) (cst (.int 1))) (consA (bin2 kCat (rd 2) (cst (.int 2))) nilA))) nilA)))))) (retS (cst (.bool false))) skipS) (seqS (forS (itR1 (cst (.int 20))) (setD 3) (clrS [3, 4, 5, 6] (seqS (asgS 4 (rvD (callQ mq_law_any 1 nilA))) (seqS (asgS 5 (rvD (callP mf_law_share [] (consA (bin2 kCat (bin2 kMul (bin2 kIx (rd 4) (cst (.int 0))) (bin2 kCat (bin2 kPow (cst (.int 10)) (cst (.int 12))) (cst (.int 1)))) (cst (.int 1))) (consA (bin2 kMul (bin2 kIx (rd 4) (cst (.int 1))) (bin2 kCat (bin2 kPow (cst (.int 10)) (cst (.int 12))) (cst (.int 1)))) nilA))))) (seqS (asgS 6 (bin2 kIx (lstF (consA (rvD (callQ mq_law_any 1 nilA)) (consA (rd 4) (consA (tupF (consA (bin2 kSub (cst (.int 0)) (bin2 kIx (rd 4) (cst (.int 0)))) (consA (bin2 kIx (rd 4) (cst (.int 1))) nilA))) (consA (rd 5) (consA (tupF (consA (cst (.int 0)) (consA (cst (.int 1)) nilA))) (consA (tupF (consA (cst (.int 1)) (consA (cst (.int 1)) nilA))) nilA))))))) (rvD (callQ mq_law_draw 1 (consA (cst (.int 6)) nilA))))) (ifS (orB (notB (valB (rvD (callP mf_law_right [] (consA (rd 4) (consA (rd 6) nilA)))))) (notB (valB (rvD (callP mf_law_right [] (consA (rd 6) (consA (rd 4) nilA))))))) (retS (cst (.bool false))) skipS)))))) (retS (cst (.bool true)))))))
def mf_law := runP g_law 7
theorem e_law : ∀ ds r, ds.length = 1 → mf_law ds = some r → Leaves g_law (st0 7 ds) r fun _ => True := runP_ok

end
end K02

set_option Elab.async false
set_option linter.all false
set_option maxRecDepth 100000
set_option maxHeartbeats 1000000
namespace K02
open PySem PySem.Spec PyProof.Rows L2 Xm DwA

theorem m_law_share_ne {t b : Int} (h0 : b ≠ 0) (hs : Sd b) : mf_law_share [.int t, .int b] = some (.val (sh (Rat.divInt t b))) := by
  refine runP_map ?_
  have hg : (0 : Int) < Int.gcd t b := by
    have := Int.gcd_pos_of_ne_zero_right t h0
    omega
  have sg := sd_gcd (t := t) h0 hs
  have d1 : ∀ i : Int, kDiv (.int i) (.int (Int.gcd t b : Int)) = some (.int (i.fdiv (Int.gcd t b : Int))) := fun i => k_div (by omega) sg
  have d2 : ∀ i : Int, kDiv (.int i) (.int (-(Int.gcd t b : Int))) = some (.int (i.fdiv (-(Int.gcd t b : Int)))) := fun i => k_div (by omega) (sd_neg sg)
  rw [sh_divInt h0]
  by_cases hn : b < 0
  · simp [g_law_share, m_law_common, hn, d2]
  · simp [g_law_share, m_law_common, hn, d1]
theorem m_law_less {p q : Rat} (hp : SmQ p) (hq : SmQ q) : mf_law_less [sh p, sh q] = some (.val (sh (p - q))) := by
  refine runP_map ?_
  simp [g_law_less, sh, k_mul hp.1 hq.2, k_mul hq.1 hp.2, k_mul hp.2 hq.2, m_law_share (den2_pos p q) (sd_mul hp.2 hq.2), sub_divInt]
theorem below_iff (p q : Rat) : decide (p.num * q.den < q.num * p.den) = decide (p < q) := by
  rw [decide_eq_decide, Rat.lt_iff]
theorem m_law_below {p q : Rat} (hp : SmQ p) (hq : SmQ q) : mf_law_below [sh p, sh q] = some (.val (.bool (decide (p < q)))) := by
  refine runP_map ?_
  simp [g_law_below, sh, k_mul hp.1 hq.2, k_mul hq.1 hp.2, below_iff]
theorem over_right {p q : Rat} {c : Nat} (hp : Bq c p) (hq : Bq c q) (hc : c ≤ 900) : mf_law_over_right [sh p, sh q] = some (.val (.bool true)) := by
  have sp := hp.sm (by omega)
  have sq := hq.sm (by omega)
  refine runP_wp ?_
  unfold g_law_over_right
  by_cases h0 : q = 0
  · subst h0
    have e := mx_over_0 sp
    have hb : ((0 : Rat).num == 0) = true := rfl
    have hct : ct1 "NoShare" true "NoShare" = some true := rfl
    repeat (first
      | with_reducible refine Xm.wp_seq ?_
      | with_reducible refine Xm.wp_asg ?_
      | with_reducible refine Xm.wp_bin2 ?_
      | with_reducible refine Xm.wp_un1 ?_
      | with_reducible refine Xm.wp_consA ?_
      | with_reducible refine Xm.wp_nilA ?_
      | with_reducible refine Xm.wp_cst ?_
      | with_reducible refine Xm.wp_valB ?_
      | with_reducible refine Xm.wp_ifS ?_
      | with_reducible refine Xm.wp_rvD ?_
      | with_reducible refine Xm.wp_rvN ?_
      | with_reducible refine Xm.wp_callP0 ?_
      | with_reducible refine Xm.wp_callP ?_
      | with_reducible refine Xm.wp_callK ?_
      | with_reducible refine Xm.wp_skip ?_
      | with_reducible refine Xm.wp_retS ?_
      | with_reducible refine Xm.wp_retN ?_
      | with_reducible refine Xm.wp_drop ?_
      | with_reducible refine Xm.wp_asgN ?_
      | with_reducible refine Xm.wp_andB ?_
      | with_reducible refine Xm.wp_orB ?_
      | with_reducible refine Xm.wp_notB ?_
      | with_reducible refine Xm.wp_yesB ?_
      | with_reducible refine Xm.wp_boolE ?_
      | with_reducible refine Xm.wp_ifE ?_
      | with_reducible refine Xm.wp_tupF ?_
      | with_reducible refine Xm.wp_lstF ?_
      | with_reducible refine Xm.wp_newF ?_
      | with_reducible refine Xm.wp_listE ?_
      | with_reducible refine Xm.wp_itD ?_
      | with_reducible refine Xm.wp_for ?_
      | with_reducible refine Xm.wp_clr ?_
      | with_reducible refine Xm.wp_par2 ?_
      | with_reducible refine Xm.wp_asgT ?_
      | with_reducible refine Xm.wp_compF ?_
      | with_reducible refine Xm.wp_compR ?_
      | with_reducible refine Xm.wp_itR1 ?_
      | with_reducible refine Xm.wp_cutF ?_
      | with_reducible refine Xm.wp_noO ?_
      | with_reducible refine Xm.wp_someO ?_
      | with_reducible refine Xm.wp_raise ?_
      | with_reducible refine Xm.wp_retX ?_
      | with_reducible refine Xm.wp_asgX ?_
      | with_reducible refine Xm.wp_dropX ?_
      | with_reducible refine Xm.wp_try ?_
      | with_reducible refine Xm.ite_tt ?_
      | with_reducible refine Xm.ite_ff ?_
      | with_reducible refine Xm.ite_nt ?_
      | with_reducible refine Xm.ite_nf ?_
      | with_reducible refine Xm.ite_nes ?_
      | with_reducible refine Xm.ite_eqs ?_
      | with_reducible refine Xm.ite_nei ?_
      | with_reducible refine Xm.ite_eqi ?_
      | with_reducible refine Xm.ex_bool ?_
      | with_reducible refine Xm.ex_new ?_
      | with_reducible refine Xm.ex_int ?_
      | with_reducible refine Xm.ex_of Xm.k_cat ?_
      | with_reducible refine Xm.ex_of Xm.k_sub ?_
      | with_reducible refine Xm.ex_of Xm.k_lt ?_
      | with_reducible refine Xm.ex_of Xm.k_le ?_
      | with_reducible refine Xm.ex_of Xm.k_gt ?_
      | with_reducible refine Xm.ex_of Xm.k_ge ?_
      | with_reducible refine Xm.ex_of Xm.k_eqI ?_
      | with_reducible refine Xm.ex_of Xm.k_neI ?_
      | with_reducible refine Xm.ex_of Xm.k_eqStr ?_
      | with_reducible refine Xm.ex_of Xm.k_neStr ?_
      | with_reducible refine Xm.ex_of Xm.k_neg ?_
      | with_reducible refine Xm.ex_of Xm.k_abs ?_
      | with_reducible refine Xm.ex_of Xm.k_lenL ?_
      | with_reducible refine Xm.ex_of Xm.k_lenT ?_
      | with_reducible refine Xm.ex_of Xm.k_list ?_
      | with_reducible refine Xm.ex_of Xm.k_listT ?_
      | with_reducible refine Xm.ex_of Xm.k_tupL ?_
      | with_reducible refine Xm.ex_of Xm.k_tupT ?_
      | with_reducible refine Xm.ex_of Xm.k_intB ?_
      | with_reducible refine Xm.ex_of Xm.at_0 ?_
      | with_reducible refine Xm.ex_of Xm.at_1 ?_
      | with_reducible refine Xm.ex_of Xm.at_2 ?_
      | with_reducible refine Xm.ex_of Xm.k_cutL ?_
      | with_reducible refine Xm.ex_of Xm.k_cutT ?_
      | with_reducible refine Xm.ex_of Xm.ix_sh0 ?_
      | with_reducible refine Xm.ex_of Xm.ix_sh1 ?_
      | with_reducible refine Xm.ex_of (Xm.k_eqS _ _) ?_
      | ((with_reducible apply Xm.ex_of); · with_reducible assumption)
      | ((with_reducible apply Xm.ex_arr); · (simp only [arr, List.map_cons, List.map_nil, List.getD_cons_zero, List.getD_cons_succ]; rfl))
      | ((with_reducible apply Xm.np_and); · rfl)
      | ((with_reducible apply Xm.np_and); · (show npB _ = true; with_reducible assumption))
      | ((with_reducible apply Xm.len_and); · exact Nat.le_of_ble_eq_true rfl)
      | ((with_reducible apply Xm.mu_and); · rfl)
      | ((with_reducible apply Xm.ite_t); · with_reducible assumption)
      | ((with_reducible apply Xm.ite_f); · with_reducible assumption)
      | ((with_reducible apply Xm.wp_rd); · rfl)
      | ((with_reducible apply Xm.wp_rdo); · rfl)
      | ((with_reducible apply Xm.wp_callQ); · rfl)
      | ((with_reducible apply Xm.wp_ixM); · rfl)
      | ((with_reducible apply Xm.wp_lenM); · rfl)
      | ((with_reducible apply Xm.wp_appM); · rfl)
      | ((with_reducible apply Xm.wp_extM); · rfl)
      | ((with_reducible apply Xm.wp_popM); · rfl)
      | ((with_reducible apply Xm.wp_revM); · rfl)
      | ((with_reducible apply Xm.wp_reprM); · rfl)
      | ((with_reducible apply Xm.wp_retM); · rfl)
      | ((with_reducible apply Xm.wp_retMd); · rfl)
      | ((with_reducible apply Xm.wp_aug); · rfl)
      | ((with_reducible apply Xm.wp_setM); · rfl))
    rfl
  · have e1 := m_over sp sq h0
    have e := sub_over _ _ e1
    have hn : q.num ≠ 0 := fun z => h0 (Rat.num_eq_zero.mp z)
    have hb : (q.num == 0) = false := beq_false_of_ne hn
    have hd : Bq (c + c) (p / q) := hp.div hq h0
    have k1 := k_mul sp.1 sq.2
    have k2 := k_mul sp.2 sq.1
    have k3 := k_reprS (hd.mono (show c + c ≤ 1900 by omega))
    have e2 : mf_law_share [.int (p.num * q.den), .int (p.den * q.num)] = some (.val (sh (p / q))) := by
      rw [← div_divInt p q h0]
      exact m_law_share_ne (Int.mul_ne_zero (den_ne p) hn) (sd_mul sp.2 sq.1)
    have hself : decide (p / q = p / q) = true := decide_eq_true rfl
    repeat (first
      | with_reducible refine Xm.wp_seq ?_
      | with_reducible refine Xm.wp_asg ?_
      | with_reducible refine Xm.wp_bin2 ?_
      | with_reducible refine Xm.wp_un1 ?_
      | with_reducible refine Xm.wp_consA ?_
      | with_reducible refine Xm.wp_nilA ?_
      | with_reducible refine Xm.wp_cst ?_
      | with_reducible refine Xm.wp_valB ?_
      | with_reducible refine Xm.wp_ifS ?_
      | with_reducible refine Xm.wp_rvD ?_
      | with_reducible refine Xm.wp_rvN ?_
      | with_reducible refine Xm.wp_callP0 ?_
      | with_reducible refine Xm.wp_callP ?_
      | with_reducible refine Xm.wp_callK ?_
      | with_reducible refine Xm.wp_skip ?_
      | with_reducible refine Xm.wp_retS ?_
      | with_reducible refine Xm.wp_retN ?_
      | with_reducible refine Xm.wp_drop ?_
      | with_reducible refine Xm.wp_asgN ?_
      | with_reducible refine Xm.wp_andB ?_
      | with_reducible refine Xm.wp_orB ?_
      | with_reducible refine Xm.wp_notB ?_
      | with_reducible refine Xm.wp_yesB ?_
      | with_reducible refine Xm.wp_boolE ?_
      | with_reducible refine Xm.wp_ifE ?_
      | with_reducible refine Xm.wp_tupF ?_
      | with_reducible refine Xm.wp_lstF ?_
      | with_reducible refine Xm.wp_newF ?_
      | with_reducible refine Xm.wp_listE ?_
      | with_reducible refine Xm.wp_itD ?_
      | with_reducible refine Xm.wp_for ?_
      | with_reducible refine Xm.wp_clr ?_
      | with_reducible refine Xm.wp_par2 ?_
      | with_reducible refine Xm.wp_asgT ?_
      | with_reducible refine Xm.wp_compF ?_
      | with_reducible refine Xm.wp_compR ?_
      | with_reducible refine Xm.wp_itR1 ?_
      | with_reducible refine Xm.wp_cutF ?_
      | with_reducible refine Xm.wp_noO ?_
      | with_reducible refine Xm.wp_someO ?_
      | with_reducible refine Xm.wp_raise ?_
      | with_reducible refine Xm.wp_retX ?_
      | with_reducible refine Xm.wp_asgX ?_
      | with_reducible refine Xm.wp_dropX ?_
      | with_reducible refine Xm.wp_try ?_
      | with_reducible refine Xm.ite_tt ?_
      | with_reducible refine Xm.ite_ff ?_
      | with_reducible refine Xm.ite_nt ?_
      | with_reducible refine Xm.ite_nf ?_
      | with_reducible refine Xm.ite_nes ?_
      | with_reducible refine Xm.ite_eqs ?_
      | with_reducible refine Xm.ite_nei ?_
      | with_reducible refine Xm.ite_eqi ?_
      | with_reducible refine Xm.ex_bool ?_
      | with_reducible refine Xm.ex_new ?_
      | with_reducible refine Xm.ex_int ?_
      | with_reducible refine Xm.ex_of Xm.k_cat ?_
      | with_reducible refine Xm.ex_of Xm.k_sub ?_
      | with_reducible refine Xm.ex_of Xm.k_lt ?_
      | with_reducible refine Xm.ex_of Xm.k_le ?_
      | with_reducible refine Xm.ex_of Xm.k_gt ?_
      | with_reducible refine Xm.ex_of Xm.k_ge ?_
      | with_reducible refine Xm.ex_of Xm.k_eqI ?_
      | with_reducible refine Xm.ex_of Xm.k_neI ?_
      | with_reducible refine Xm.ex_of Xm.k_eqStr ?_
      | with_reducible refine Xm.ex_of Xm.k_neStr ?_
      | with_reducible refine Xm.ex_of Xm.k_neg ?_
      | with_reducible refine Xm.ex_of Xm.k_abs ?_
      | with_reducible refine Xm.ex_of Xm.k_lenL ?_
      | with_reducible refine Xm.ex_of Xm.k_lenT ?_
      | with_reducible refine Xm.ex_of Xm.k_list ?_
      | with_reducible refine Xm.ex_of Xm.k_listT ?_
      | with_reducible refine Xm.ex_of Xm.k_tupL ?_
      | with_reducible refine Xm.ex_of Xm.k_tupT ?_
      | with_reducible refine Xm.ex_of Xm.k_intB ?_
      | with_reducible refine Xm.ex_of Xm.at_0 ?_
      | with_reducible refine Xm.ex_of Xm.at_1 ?_
      | with_reducible refine Xm.ex_of Xm.at_2 ?_
      | with_reducible refine Xm.ex_of Xm.k_cutL ?_
      | with_reducible refine Xm.ex_of Xm.k_cutT ?_
      | with_reducible refine Xm.ex_of Xm.ix_sh0 ?_
      | with_reducible refine Xm.ex_of Xm.ix_sh1 ?_
      | with_reducible refine Xm.ex_of (Xm.k_eqS _ _) ?_
      | ((with_reducible apply Xm.ex_of); · with_reducible assumption)
      | ((with_reducible apply Xm.ex_arr); · (simp only [arr, List.map_cons, List.map_nil, List.getD_cons_zero, List.getD_cons_succ]; rfl))
      | ((with_reducible apply Xm.np_and); · rfl)
      | ((with_reducible apply Xm.np_and); · (show npB _ = true; with_reducible assumption))
      | ((with_reducible apply Xm.len_and); · exact Nat.le_of_ble_eq_true rfl)
      | ((with_reducible apply Xm.mu_and); · rfl)
      | ((with_reducible apply Xm.ite_t); · with_reducible assumption)
      | ((with_reducible apply Xm.ite_f); · with_reducible assumption)
      | ((with_reducible apply Xm.wp_rd); · rfl)
      | ((with_reducible apply Xm.wp_rdo); · rfl)
      | ((with_reducible apply Xm.wp_callQ); · rfl)
      | ((with_reducible apply Xm.wp_ixM); · rfl)
      | ((with_reducible apply Xm.wp_lenM); · rfl)
      | ((with_reducible apply Xm.wp_appM); · rfl)
      | ((with_reducible apply Xm.wp_extM); · rfl)
      | ((with_reducible apply Xm.wp_popM); · rfl)
      | ((with_reducible apply Xm.wp_revM); · rfl)
      | ((with_reducible apply Xm.wp_reprM); · rfl)
      | ((with_reducible apply Xm.wp_retM); · rfl)
      | ((with_reducible apply Xm.wp_retMd); · rfl)
      | ((with_reducible apply Xm.wp_aug); · rfl)
      | ((with_reducible apply Xm.wp_setM); · rfl))
    rw [hself]
theorem right_ok {p q : Rat} {c : Nat} (hp : Bq c p) (hq : Bq c q) (hc : c ≤ 900) : mf_law_right [sh p, sh q] = some (.val (.bool true)) := by
  have sp := hp.sm (by omega)
  have sq := hq.sm (by omega)
  have f1 := m_law_plus sp sq
  have f2 := m_law_less sp sq
  have f3 := m_law_times sp sq
  have f4 := m_law_below sp sq
  have g1 := m_plus sp sq
  have g2 := m_less sp sq
  have g3 := m_times sp sq
  have g4 := m_is_less sp sq
  have h := over_right hp hq hc
  obtain ⟨s, r⟩ : ∃ s, kRepr (.list [sh (p + q), sh (p - q), sh (p * q), .bool (decide (p < q))]) = some (.str s) := ⟨_, k_reprL (Rk.list (k := 1) (n := 1300) fun d hd => by
    simp only [List.mem_cons, List.not_mem_nil, or_false] at hd
    rcases hd with rfl | rfl | rfl | rfl
    · exact Rk.sh' ((hp.add hq).mono (by omega))
    · exact Rk.sh' ((hp.sub hq).mono (by omega))
    · exact Rk.sh' ((hp.mul hq).mono (by omega))
    · exact (Rk.bool _).mono (by omega) (by omega)) (by omega) (by simp)⟩
  refine runP_wp ?_
  unfold g_law_right
  repeat (first
    | with_reducible refine Xm.wp_seq ?_
    | with_reducible refine Xm.wp_asg ?_
    | with_reducible refine Xm.wp_bin2 ?_
    | with_reducible refine Xm.wp_un1 ?_
    | with_reducible refine Xm.wp_consA ?_
    | with_reducible refine Xm.wp_nilA ?_
    | with_reducible refine Xm.wp_cst ?_
    | with_reducible refine Xm.wp_valB ?_
    | with_reducible refine Xm.wp_ifS ?_
    | with_reducible refine Xm.wp_rvD ?_
    | with_reducible refine Xm.wp_rvN ?_
    | with_reducible refine Xm.wp_callP0 ?_
    | with_reducible refine Xm.wp_callP ?_
    | with_reducible refine Xm.wp_callK ?_
    | with_reducible refine Xm.wp_skip ?_
    | with_reducible refine Xm.wp_retS ?_
    | with_reducible refine Xm.wp_retN ?_
    | with_reducible refine Xm.wp_drop ?_
    | with_reducible refine Xm.wp_asgN ?_
    | with_reducible refine Xm.wp_andB ?_
    | with_reducible refine Xm.wp_orB ?_
    | with_reducible refine Xm.wp_notB ?_
    | with_reducible refine Xm.wp_yesB ?_
    | with_reducible refine Xm.wp_boolE ?_
    | with_reducible refine Xm.wp_ifE ?_
    | with_reducible refine Xm.wp_tupF ?_
    | with_reducible refine Xm.wp_lstF ?_
    | with_reducible refine Xm.wp_newF ?_
    | with_reducible refine Xm.wp_listE ?_
    | with_reducible refine Xm.wp_itD ?_
    | with_reducible refine Xm.wp_for ?_
    | with_reducible refine Xm.wp_clr ?_
    | with_reducible refine Xm.wp_par2 ?_
    | with_reducible refine Xm.wp_asgT ?_
    | with_reducible refine Xm.wp_compF ?_
    | with_reducible refine Xm.wp_compR ?_
    | with_reducible refine Xm.wp_itR1 ?_
    | with_reducible refine Xm.wp_cutF ?_
    | with_reducible refine Xm.wp_noO ?_
    | with_reducible refine Xm.wp_someO ?_
    | with_reducible refine Xm.wp_raise ?_
    | with_reducible refine Xm.wp_retX ?_
    | with_reducible refine Xm.wp_asgX ?_
    | with_reducible refine Xm.wp_dropX ?_
    | with_reducible refine Xm.wp_try ?_
    | with_reducible refine Xm.ite_tt ?_
    | with_reducible refine Xm.ite_ff ?_
    | with_reducible refine Xm.ite_nt ?_
    | with_reducible refine Xm.ite_nf ?_
    | with_reducible refine Xm.ite_nes ?_
    | with_reducible refine Xm.ite_eqs ?_
    | with_reducible refine Xm.ite_nei ?_
    | with_reducible refine Xm.ite_eqi ?_
    | with_reducible refine Xm.ex_bool ?_
    | with_reducible refine Xm.ex_new ?_
    | with_reducible refine Xm.ex_int ?_
    | with_reducible refine Xm.ex_of Xm.k_cat ?_
    | with_reducible refine Xm.ex_of Xm.k_sub ?_
    | with_reducible refine Xm.ex_of Xm.k_lt ?_
    | with_reducible refine Xm.ex_of Xm.k_le ?_
    | with_reducible refine Xm.ex_of Xm.k_gt ?_
    | with_reducible refine Xm.ex_of Xm.k_ge ?_
    | with_reducible refine Xm.ex_of Xm.k_eqI ?_
    | with_reducible refine Xm.ex_of Xm.k_neI ?_
    | with_reducible refine Xm.ex_of Xm.k_eqStr ?_
    | with_reducible refine Xm.ex_of Xm.k_neStr ?_
    | with_reducible refine Xm.ex_of Xm.k_neg ?_
    | with_reducible refine Xm.ex_of Xm.k_abs ?_
    | with_reducible refine Xm.ex_of Xm.k_lenL ?_
    | with_reducible refine Xm.ex_of Xm.k_lenT ?_
    | with_reducible refine Xm.ex_of Xm.k_list ?_
    | with_reducible refine Xm.ex_of Xm.k_listT ?_
    | with_reducible refine Xm.ex_of Xm.k_tupL ?_
    | with_reducible refine Xm.ex_of Xm.k_tupT ?_
    | with_reducible refine Xm.ex_of Xm.k_intB ?_
    | with_reducible refine Xm.ex_of Xm.at_0 ?_
    | with_reducible refine Xm.ex_of Xm.at_1 ?_
    | with_reducible refine Xm.ex_of Xm.at_2 ?_
    | with_reducible refine Xm.ex_of Xm.k_cutL ?_
    | with_reducible refine Xm.ex_of Xm.k_cutT ?_
    | with_reducible refine Xm.ex_of Xm.ix_sh0 ?_
    | with_reducible refine Xm.ex_of Xm.ix_sh1 ?_
    | with_reducible refine Xm.ex_of (Xm.k_eqS _ _) ?_
    | ((with_reducible apply Xm.ex_of); · with_reducible assumption)
    | ((with_reducible apply Xm.ex_arr); · (simp only [arr, List.map_cons, List.map_nil, List.getD_cons_zero, List.getD_cons_succ]; rfl))
    | ((with_reducible apply Xm.np_and); · rfl)
    | ((with_reducible apply Xm.np_and); · (show npB _ = true; with_reducible assumption))
    | ((with_reducible apply Xm.len_and); · exact Nat.le_of_ble_eq_true rfl)
    | ((with_reducible apply Xm.mu_and); · rfl)
    | ((with_reducible apply Xm.ite_t); · with_reducible assumption)
    | ((with_reducible apply Xm.ite_f); · with_reducible assumption)
    | ((with_reducible apply Xm.wp_rd); · rfl)
    | ((with_reducible apply Xm.wp_rdo); · rfl)
    | ((with_reducible apply Xm.wp_callQ); · rfl)
    | ((with_reducible apply Xm.wp_ixM); · rfl)
    | ((with_reducible apply Xm.wp_lenM); · rfl)
    | ((with_reducible apply Xm.wp_appM); · rfl)
    | ((with_reducible apply Xm.wp_extM); · rfl)
    | ((with_reducible apply Xm.wp_popM); · rfl)
    | ((with_reducible apply Xm.wp_revM); · rfl)
    | ((with_reducible apply Xm.wp_reprM); · rfl)
    | ((with_reducible apply Xm.wp_retM); · rfl)
    | ((with_reducible apply Xm.wp_retMd); · rfl)
    | ((with_reducible apply Xm.wp_aug); · rfl)
    | ((with_reducible apply Xm.wp_setM); · rfl))
  rfl
theorem sh_of {a b : Int} (hb : 0 < b) (h : Int.gcd a b = 1) : sh (Rat.divInt a b) = .tuple [.int a, .int b] := by
  rw [sh_divInt (show b ≠ 0 by omega), if_neg (show ¬ b < 0 by omega), h]
  simp
theorem gcd_succ (m : Int) : Int.gcd m (m + 1) = 1 := by
  rw [Int.gcd_comm, show m + 1 = 1 + m by omega]
  simp
theorem succ_ok {m : Int} (h0 : 0 ≤ m) (h1 : m < 2 ^ 50) : ∃ p, .tuple [.int m, .int (m + 1)] = sh p ∧ Bq 60 p := ⟨Rat.divInt m (m + 1), (sh_of (by omega) (gcd_succ m)).symm, bq_divInt (by omega) (by omega) (by omega)⟩
theorem neg_sh (a : Rat) : PyData.tuple [.int (0 - a.num), .int a.den] = sh (-a) := by
  unfold sh
  rw [Rat.neg_num, Rat.neg_den, Int.zero_sub]
theorem pick6 {b0 b1 b2 b3 b4 b5 : D} {P : D → Prop} {i : Int} (h0 : 0 ≤ i) (h1 : i < 6) (p0 : P b0) (p1 : P b1) (p2 : P b2) (p3 : P b3) (p4 : P b4) (p5 : P b5) : ∃ b, kIx (.list [b0, b1, b2, b3, b4, b5]) (.int i) = some b ∧ P b := by
  obtain ⟨n, rfl⟩ : ∃ n : Nat, i = n := ⟨i.toNat, by omega⟩
  have : n < 6 := by omega
  rcases n with _ | _ | _ | _ | _ | _ | n
  · exact ⟨b0, rfl, p0⟩
  · exact ⟨b1, rfl, p1⟩
  · exact ⟨b2, rfl, p2⟩
  · exact ⟨b3, rfl, p3⟩
  · exact ⟨b4, rfl, p4⟩
  · exact ⟨b5, rfl, p5⟩
  · omega
theorem law_true : ∀ ns : List Int, ns.length ≤ 63 → (∀ z ∈ ns, Builtin.Int.intBits z ≤ 1048576) → mf_law [.list (ns.map PyData.int)] = some (.val (.bool true)) := by
  intro ns _ _
  generalize hS : PyData.list (ns.map PyData.int) = S
  have hpen := pen0 ns
  obtain ⟨d, x1, e1, d0, d1, p1⟩ := draw_ok (m := 10 ^ 12) hpen (by omega) (by decide) (by decide)
  have k11 : kPow (.int 10) (.int 11) = some (.int (10 ^ 11)) := k_powS (n := 11) (by decide) (by omega)
  have k12 : kPow (.int 10) (.int 12) = some (.int (10 ^ 12)) := k_powS (n := 12) (by decide) (by omega)
  have hm0 : 0 ≤ (10 : Int) ^ 11 + d := by omega
  have hm1 : (10 : Int) ^ 11 + d < 2 ^ 49 := by omega
  generalize hm : (10 : Int) ^ 11 + d = m at hm0 hm1
  obtain ⟨p, ep, bp⟩ := succ_ok hm0 (by omega)
  obtain ⟨q, eq, bq⟩ := succ_ok (m := m + 1) (by omega) (by omega)
  rw [show m + 1 + 1 = m + 2 by omega] at eq
  have r1 := right_ok bp bq (by omega)
  rw [← ep, ← eq] at r1
  refine runP_wp ?_
  unfold g_law
  subst hS hm
  repeat (first
    | with_reducible refine Xm.wp_seq ?_
    | with_reducible refine Xm.wp_asg ?_
    | with_reducible refine Xm.wp_bin2 ?_
    | with_reducible refine Xm.wp_un1 ?_
    | with_reducible refine Xm.wp_consA ?_
    | with_reducible refine Xm.wp_nilA ?_
    | with_reducible refine Xm.wp_cst ?_
    | with_reducible refine Xm.wp_valB ?_
    | with_reducible refine Xm.wp_ifS ?_
    | with_reducible refine Xm.wp_rvD ?_
    | with_reducible refine Xm.wp_rvN ?_
    | with_reducible refine Xm.wp_callP0 ?_
    | with_reducible refine Xm.wp_callP ?_
    | with_reducible refine Xm.wp_callK ?_
    | with_reducible refine Xm.wp_skip ?_
    | with_reducible refine Xm.wp_retS ?_
    | with_reducible refine Xm.wp_retN ?_
    | with_reducible refine Xm.wp_drop ?_
    | with_reducible refine Xm.wp_asgN ?_
    | with_reducible refine Xm.wp_andB ?_
    | with_reducible refine Xm.wp_orB ?_
    | with_reducible refine Xm.wp_notB ?_
    | with_reducible refine Xm.wp_yesB ?_
    | with_reducible refine Xm.wp_boolE ?_
    | with_reducible refine Xm.wp_ifE ?_
    | with_reducible refine Xm.wp_tupF ?_
    | with_reducible refine Xm.wp_lstF ?_
    | with_reducible refine Xm.wp_newF ?_
    | with_reducible refine Xm.wp_listE ?_
    | with_reducible refine Xm.wp_itD ?_
    | with_reducible refine Xm.wp_for ?_
    | with_reducible refine Xm.wp_clr ?_
    | with_reducible refine Xm.wp_par2 ?_
    | with_reducible refine Xm.wp_asgT ?_
    | with_reducible refine Xm.wp_compF ?_
    | with_reducible refine Xm.wp_compR ?_
    | with_reducible refine Xm.wp_itR1 ?_
    | with_reducible refine Xm.wp_cutF ?_
    | with_reducible refine Xm.wp_noO ?_
    | with_reducible refine Xm.wp_someO ?_
    | with_reducible refine Xm.wp_raise ?_
    | with_reducible refine Xm.wp_retX ?_
    | with_reducible refine Xm.wp_asgX ?_
    | with_reducible refine Xm.wp_dropX ?_
    | with_reducible refine Xm.wp_try ?_
    | with_reducible refine Xm.ite_tt ?_
    | with_reducible refine Xm.ite_ff ?_
    | with_reducible refine Xm.ite_nt ?_
    | with_reducible refine Xm.ite_nf ?_
    | with_reducible refine Xm.ite_nes ?_
    | with_reducible refine Xm.ite_eqs ?_
    | with_reducible refine Xm.ite_nei ?_
    | with_reducible refine Xm.ite_eqi ?_
    | with_reducible refine Xm.ex_bool ?_
    | with_reducible refine Xm.ex_new ?_
    | with_reducible refine Xm.ex_int ?_
    | with_reducible refine Xm.ex_of Xm.k_cat ?_
    | with_reducible refine Xm.ex_of Xm.k_sub ?_
    | with_reducible refine Xm.ex_of Xm.k_lt ?_
    | with_reducible refine Xm.ex_of Xm.k_le ?_
    | with_reducible refine Xm.ex_of Xm.k_gt ?_
    | with_reducible refine Xm.ex_of Xm.k_ge ?_
    | with_reducible refine Xm.ex_of Xm.k_eqI ?_
    | with_reducible refine Xm.ex_of Xm.k_neI ?_
    | with_reducible refine Xm.ex_of Xm.k_eqStr ?_
    | with_reducible refine Xm.ex_of Xm.k_neStr ?_
    | with_reducible refine Xm.ex_of Xm.k_neg ?_
    | with_reducible refine Xm.ex_of Xm.k_abs ?_
    | with_reducible refine Xm.ex_of Xm.k_lenL ?_
    | with_reducible refine Xm.ex_of Xm.k_lenT ?_
    | with_reducible refine Xm.ex_of Xm.k_list ?_
    | with_reducible refine Xm.ex_of Xm.k_listT ?_
    | with_reducible refine Xm.ex_of Xm.k_tupL ?_
    | with_reducible refine Xm.ex_of Xm.k_tupT ?_
    | with_reducible refine Xm.ex_of Xm.k_intB ?_
    | with_reducible refine Xm.ex_of Xm.at_0 ?_
    | with_reducible refine Xm.ex_of Xm.at_1 ?_
    | with_reducible refine Xm.ex_of Xm.at_2 ?_
    | with_reducible refine Xm.ex_of Xm.k_cutL ?_
    | with_reducible refine Xm.ex_of Xm.k_cutT ?_
    | with_reducible refine Xm.ex_of Xm.ix_sh0 ?_
    | with_reducible refine Xm.ex_of Xm.ix_sh1 ?_
    | with_reducible refine Xm.ex_of (Xm.k_eqS _ _) ?_
    | ((with_reducible apply Xm.ex_of); · with_reducible assumption)
    | ((with_reducible apply Xm.ex_arr); · (simp only [arr, List.map_cons, List.map_nil, List.getD_cons_zero, List.getD_cons_succ]; rfl))
    | ((with_reducible apply Xm.np_and); · rfl)
    | ((with_reducible apply Xm.np_and); · (show npB _ = true; with_reducible assumption))
    | ((with_reducible apply Xm.len_and); · exact Nat.le_of_ble_eq_true rfl)
    | ((with_reducible apply Xm.mu_and); · rfl)
    | ((with_reducible apply Xm.ite_t); · with_reducible assumption)
    | ((with_reducible apply Xm.ite_f); · with_reducible assumption)
    | ((with_reducible apply Xm.wp_rd); · rfl)
    | ((with_reducible apply Xm.wp_rdo); · rfl)
    | ((with_reducible apply Xm.wp_callQ); · rfl)
    | ((with_reducible apply Xm.wp_ixM); · rfl)
    | ((with_reducible apply Xm.wp_lenM); · rfl)
    | ((with_reducible apply Xm.wp_appM); · rfl)
    | ((with_reducible apply Xm.wp_extM); · rfl)
    | ((with_reducible apply Xm.wp_popM); · rfl)
    | ((with_reducible apply Xm.wp_revM); · rfl)
    | ((with_reducible apply Xm.wp_reprM); · rfl)
    | ((with_reducible apply Xm.wp_retM); · rfl)
    | ((with_reducible apply Xm.wp_retMd); · rfl)
    | ((with_reducible apply Xm.wp_aug); · rfl)
    | ((with_reducible apply Xm.wp_setM); · rfl))
  refine ⟨20, rfl, by omega, ?_⟩
  refine wp_loop (fun ds s => ∃ n xs, s = [.dat (.list (ns.map PyData.int)), .own xs, .dat (.int (10 ^ 11 + d)), .no, .no, .no, .no] ∧ PenOk n xs ∧ n + 60 * ds.length ≤ 2000) ?_ ?_ _ _ ⟨1, x1, rfl, p1, by rw [rng_len]; omega⟩
  · rintro t ds s ⟨n, xs, rfl, hp, hn⟩
    rw [List.length_cons] at hn
    clear k11 ep eq r1
    obtain ⟨a, y1, f1, ba, q1⟩ := any_ok hp (by omega)
    obtain ⟨b, y2, f2, bb, q2⟩ := any_ok q1 (by omega)
    obtain ⟨i, y3, f3, i0, i1, q3⟩ := draw_ok (m := 6) q2 (by omega) (by decide) (by decide)
    have sa := ba.sm (by omega)
    have m1 : kMul (.int a.num) (.int (10 ^ 12 + 1)) = some (.int (a.num * (10 ^ 12 + 1))) := k_mul sa.1 (by decide +kernel)
    have m2 : kMul (.int a.den) (.int (10 ^ 12 + 1)) = some (.int (a.den * (10 ^ 12 + 1))) := k_mul sa.2 (by decide +kernel)
    have hden := a.den_pos
    have bnd1 : (a.num * (10 ^ 12 + 1) + 1).natAbs < 2 ^ 100 := by
      have := ba.1
      omega
    have bnd2 : ((a.den : Int) * (10 ^ 12 + 1)).natAbs < 2 ^ 100 := by
      have := ba.2
      omega
    have h4 : mf_law_share [.int (a.num * (10 ^ 12 + 1) + 1), .int (a.den * (10 ^ 12 + 1))] = some (.val (sh (Rat.divInt (a.num * (10 ^ 12 + 1) + 1) (a.den * (10 ^ 12 + 1))))) := m_law_share (by omega) (sd_of (sm_of bnd2 (by omega)))
    have b4 : Bq 100 (Rat.divInt (a.num * (10 ^ 12 + 1) + 1) (a.den * (10 ^ 12 + 1))) := bq_divInt (by omega) bnd1 bnd2
    generalize Rat.divInt (a.num * (10 ^ 12 + 1) + 1) (a.den * (10 ^ 12 + 1)) = c at h4 b4
    obtain ⟨z, hz, w, rfl, bw⟩ := pick6 (P := fun d => ∃ w, d = sh w ∧ Bq 100 w) (b0 := sh b) (b1 := sh a) (b2 := .tuple [.int (0 - a.num), .int a.den]) (b3 := sh c) (b4 := .tuple [.int 0, .int 1]) (b5 := .tuple [.int 1, .int 1]) i0 i1 ⟨b, rfl, bb.mono (by omega)⟩ ⟨a, rfl, ba.mono (by omega)⟩
      ⟨-a, neg_sh a, by refine ⟨?_, ?_⟩
                        · rw [Rat.neg_num, Int.natAbs_neg]; exact (ba.mono (by omega)).1
                        · rw [Rat.neg_den]; exact (ba.mono (by omega)).2⟩ ⟨c, rfl, b4⟩ ⟨0, rfl, bq_0.mono (by omega)⟩ ⟨1, rfl, bq_1.mono (by omega)⟩
    have r1 := right_ok (ba.mono (show 41 ≤ 100 by omega)) bw (by omega)
    have r2 := right_ok bw (ba.mono (show 41 ≤ 100 by omega)) (by omega)
    refine ⟨_, rfl, ?_⟩
    repeat (first
      | with_reducible refine Xm.wp_seq ?_
      | with_reducible refine Xm.wp_asg ?_
      | with_reducible refine Xm.wp_bin2 ?_
      | with_reducible refine Xm.wp_un1 ?_
      | with_reducible refine Xm.wp_consA ?_
      | with_reducible refine Xm.wp_nilA ?_
      | with_reducible refine Xm.wp_cst ?_
      | with_reducible refine Xm.wp_valB ?_
      | with_reducible refine Xm.wp_ifS ?_
      | with_reducible refine Xm.wp_rvD ?_
      | with_reducible refine Xm.wp_rvN ?_
      | with_reducible refine Xm.wp_callP0 ?_
      | with_reducible refine Xm.wp_callP ?_
      | with_reducible refine Xm.wp_callK ?_
      | with_reducible refine Xm.wp_skip ?_
      | with_reducible refine Xm.wp_retS ?_
      | with_reducible refine Xm.wp_retN ?_
      | with_reducible refine Xm.wp_drop ?_
      | with_reducible refine Xm.wp_asgN ?_
      | with_reducible refine Xm.wp_andB ?_
      | with_reducible refine Xm.wp_orB ?_
      | with_reducible refine Xm.wp_notB ?_
      | with_reducible refine Xm.wp_yesB ?_
      | with_reducible refine Xm.wp_boolE ?_
      | with_reducible refine Xm.wp_ifE ?_
      | with_reducible refine Xm.wp_tupF ?_
      | with_reducible refine Xm.wp_lstF ?_
      | with_reducible refine Xm.wp_newF ?_
      | with_reducible refine Xm.wp_listE ?_
      | with_reducible refine Xm.wp_itD ?_
      | with_reducible refine Xm.wp_for ?_
      | with_reducible refine Xm.wp_clr ?_
      | with_reducible refine Xm.wp_par2 ?_
      | with_reducible refine Xm.wp_asgT ?_
      | with_reducible refine Xm.wp_compF ?_
      | with_reducible refine Xm.wp_compR ?_
      | with_reducible refine Xm.wp_itR1 ?_
      | with_reducible refine Xm.wp_cutF ?_
      | with_reducible refine Xm.wp_noO ?_
      | with_reducible refine Xm.wp_someO ?_
      | with_reducible refine Xm.wp_raise ?_
      | with_reducible refine Xm.wp_retX ?_
      | with_reducible refine Xm.wp_asgX ?_
      | with_reducible refine Xm.wp_dropX ?_
      | with_reducible refine Xm.wp_try ?_
      | with_reducible refine Xm.ite_tt ?_
      | with_reducible refine Xm.ite_ff ?_
      | with_reducible refine Xm.ite_nt ?_
      | with_reducible refine Xm.ite_nf ?_
      | with_reducible refine Xm.ite_nes ?_
      | with_reducible refine Xm.ite_eqs ?_
      | with_reducible refine Xm.ite_nei ?_
      | with_reducible refine Xm.ite_eqi ?_
      | with_reducible refine Xm.ex_bool ?_
      | with_reducible refine Xm.ex_new ?_
      | with_reducible refine Xm.ex_int ?_
      | with_reducible refine Xm.ex_of Xm.k_cat ?_
      | with_reducible refine Xm.ex_of Xm.k_sub ?_
      | with_reducible refine Xm.ex_of Xm.k_lt ?_
      | with_reducible refine Xm.ex_of Xm.k_le ?_
      | with_reducible refine Xm.ex_of Xm.k_gt ?_
      | with_reducible refine Xm.ex_of Xm.k_ge ?_
      | with_reducible refine Xm.ex_of Xm.k_eqI ?_
      | with_reducible refine Xm.ex_of Xm.k_neI ?_
      | with_reducible refine Xm.ex_of Xm.k_eqStr ?_
      | with_reducible refine Xm.ex_of Xm.k_neStr ?_
      | with_reducible refine Xm.ex_of Xm.k_neg ?_
      | with_reducible refine Xm.ex_of Xm.k_abs ?_
      | with_reducible refine Xm.ex_of Xm.k_lenL ?_
      | with_reducible refine Xm.ex_of Xm.k_lenT ?_
      | with_reducible refine Xm.ex_of Xm.k_list ?_
      | with_reducible refine Xm.ex_of Xm.k_listT ?_
      | with_reducible refine Xm.ex_of Xm.k_tupL ?_
      | with_reducible refine Xm.ex_of Xm.k_tupT ?_
      | with_reducible refine Xm.ex_of Xm.k_intB ?_
      | with_reducible refine Xm.ex_of Xm.at_0 ?_
      | with_reducible refine Xm.ex_of Xm.at_1 ?_
      | with_reducible refine Xm.ex_of Xm.at_2 ?_
      | with_reducible refine Xm.ex_of Xm.k_cutL ?_
      | with_reducible refine Xm.ex_of Xm.k_cutT ?_
      | with_reducible refine Xm.ex_of Xm.ix_sh0 ?_
      | with_reducible refine Xm.ex_of Xm.ix_sh1 ?_
      | with_reducible refine Xm.ex_of (Xm.k_eqS _ _) ?_
      | ((with_reducible apply Xm.ex_of); · with_reducible assumption)
      | ((with_reducible apply Xm.ex_arr); · (simp only [arr, List.map_cons, List.map_nil, List.getD_cons_zero, List.getD_cons_succ]; rfl))
      | ((with_reducible apply Xm.np_and); · rfl)
      | ((with_reducible apply Xm.np_and); · (show npB _ = true; with_reducible assumption))
      | ((with_reducible apply Xm.len_and); · exact Nat.le_of_ble_eq_true rfl)
      | ((with_reducible apply Xm.mu_and); · rfl)
      | ((with_reducible apply Xm.ite_t); · with_reducible assumption)
      | ((with_reducible apply Xm.ite_f); · with_reducible assumption)
      | ((with_reducible apply Xm.wp_rd); · rfl)
      | ((with_reducible apply Xm.wp_rdo); · rfl)
      | ((with_reducible apply Xm.wp_callQ); · rfl)
      | ((with_reducible apply Xm.wp_ixM); · rfl)
      | ((with_reducible apply Xm.wp_lenM); · rfl)
      | ((with_reducible apply Xm.wp_appM); · rfl)
      | ((with_reducible apply Xm.wp_extM); · rfl)
      | ((with_reducible apply Xm.wp_popM); · rfl)
      | ((with_reducible apply Xm.wp_revM); · rfl)
      | ((with_reducible apply Xm.wp_reprM); · rfl)
      | ((with_reducible apply Xm.wp_retM); · rfl)
      | ((with_reducible apply Xm.wp_retMd); · rfl)
      | ((with_reducible apply Xm.wp_aug); · rfl)
      | ((with_reducible apply Xm.wp_setM); · rfl))
    exact ⟨n + 41, y3, rfl, q3, by omega⟩
  · rintro s ⟨n, xs, rfl, hp, hn⟩
    repeat (first
      | with_reducible refine Xm.wp_seq ?_
      | with_reducible refine Xm.wp_asg ?_
      | with_reducible refine Xm.wp_bin2 ?_
      | with_reducible refine Xm.wp_un1 ?_
      | with_reducible refine Xm.wp_consA ?_
      | with_reducible refine Xm.wp_nilA ?_
      | with_reducible refine Xm.wp_cst ?_
      | with_reducible refine Xm.wp_valB ?_
      | with_reducible refine Xm.wp_ifS ?_
      | with_reducible refine Xm.wp_rvD ?_
      | with_reducible refine Xm.wp_rvN ?_
      | with_reducible refine Xm.wp_callP0 ?_
      | with_reducible refine Xm.wp_callP ?_
      | with_reducible refine Xm.wp_callK ?_
      | with_reducible refine Xm.wp_skip ?_
      | with_reducible refine Xm.wp_retS ?_
      | with_reducible refine Xm.wp_retN ?_
      | with_reducible refine Xm.wp_drop ?_
      | with_reducible refine Xm.wp_asgN ?_
      | with_reducible refine Xm.wp_andB ?_
      | with_reducible refine Xm.wp_orB ?_
      | with_reducible refine Xm.wp_notB ?_
      | with_reducible refine Xm.wp_yesB ?_
      | with_reducible refine Xm.wp_boolE ?_
      | with_reducible refine Xm.wp_ifE ?_
      | with_reducible refine Xm.wp_tupF ?_
      | with_reducible refine Xm.wp_lstF ?_
      | with_reducible refine Xm.wp_newF ?_
      | with_reducible refine Xm.wp_listE ?_
      | with_reducible refine Xm.wp_itD ?_
      | with_reducible refine Xm.wp_for ?_
      | with_reducible refine Xm.wp_clr ?_
      | with_reducible refine Xm.wp_par2 ?_
      | with_reducible refine Xm.wp_asgT ?_
      | with_reducible refine Xm.wp_compF ?_
      | with_reducible refine Xm.wp_compR ?_
      | with_reducible refine Xm.wp_itR1 ?_
      | with_reducible refine Xm.wp_cutF ?_
      | with_reducible refine Xm.wp_noO ?_
      | with_reducible refine Xm.wp_someO ?_
      | with_reducible refine Xm.wp_raise ?_
      | with_reducible refine Xm.wp_retX ?_
      | with_reducible refine Xm.wp_asgX ?_
      | with_reducible refine Xm.wp_dropX ?_
      | with_reducible refine Xm.wp_try ?_
      | with_reducible refine Xm.ite_tt ?_
      | with_reducible refine Xm.ite_ff ?_
      | with_reducible refine Xm.ite_nt ?_
      | with_reducible refine Xm.ite_nf ?_
      | with_reducible refine Xm.ite_nes ?_
      | with_reducible refine Xm.ite_eqs ?_
      | with_reducible refine Xm.ite_nei ?_
      | with_reducible refine Xm.ite_eqi ?_
      | with_reducible refine Xm.ex_bool ?_
      | with_reducible refine Xm.ex_new ?_
      | with_reducible refine Xm.ex_int ?_
      | with_reducible refine Xm.ex_of Xm.k_cat ?_
      | with_reducible refine Xm.ex_of Xm.k_sub ?_
      | with_reducible refine Xm.ex_of Xm.k_lt ?_
      | with_reducible refine Xm.ex_of Xm.k_le ?_
      | with_reducible refine Xm.ex_of Xm.k_gt ?_
      | with_reducible refine Xm.ex_of Xm.k_ge ?_
      | with_reducible refine Xm.ex_of Xm.k_eqI ?_
      | with_reducible refine Xm.ex_of Xm.k_neI ?_
      | with_reducible refine Xm.ex_of Xm.k_eqStr ?_
      | with_reducible refine Xm.ex_of Xm.k_neStr ?_
      | with_reducible refine Xm.ex_of Xm.k_neg ?_
      | with_reducible refine Xm.ex_of Xm.k_abs ?_
      | with_reducible refine Xm.ex_of Xm.k_lenL ?_
      | with_reducible refine Xm.ex_of Xm.k_lenT ?_
      | with_reducible refine Xm.ex_of Xm.k_list ?_
      | with_reducible refine Xm.ex_of Xm.k_listT ?_
      | with_reducible refine Xm.ex_of Xm.k_tupL ?_
      | with_reducible refine Xm.ex_of Xm.k_tupT ?_
      | with_reducible refine Xm.ex_of Xm.k_intB ?_
      | with_reducible refine Xm.ex_of Xm.at_0 ?_
      | with_reducible refine Xm.ex_of Xm.at_1 ?_
      | with_reducible refine Xm.ex_of Xm.at_2 ?_
      | with_reducible refine Xm.ex_of Xm.k_cutL ?_
      | with_reducible refine Xm.ex_of Xm.k_cutT ?_
      | with_reducible refine Xm.ex_of Xm.ix_sh0 ?_
      | with_reducible refine Xm.ex_of Xm.ix_sh1 ?_
      | with_reducible refine Xm.ex_of (Xm.k_eqS _ _) ?_
      | ((with_reducible apply Xm.ex_of); · with_reducible assumption)
      | ((with_reducible apply Xm.ex_arr); · (simp only [arr, List.map_cons, List.map_nil, List.getD_cons_zero, List.getD_cons_succ]; rfl))
      | ((with_reducible apply Xm.np_and); · rfl)
      | ((with_reducible apply Xm.np_and); · (show npB _ = true; with_reducible assumption))
      | ((with_reducible apply Xm.len_and); · exact Nat.le_of_ble_eq_true rfl)
      | ((with_reducible apply Xm.mu_and); · rfl)
      | ((with_reducible apply Xm.ite_t); · with_reducible assumption)
      | ((with_reducible apply Xm.ite_f); · with_reducible assumption)
      | ((with_reducible apply Xm.wp_rd); · rfl)
      | ((with_reducible apply Xm.wp_rdo); · rfl)
      | ((with_reducible apply Xm.wp_callQ); · rfl)
      | ((with_reducible apply Xm.wp_ixM); · rfl)
      | ((with_reducible apply Xm.wp_lenM); · rfl)
      | ((with_reducible apply Xm.wp_appM); · rfl)
      | ((with_reducible apply Xm.wp_extM); · rfl)
      | ((with_reducible apply Xm.wp_popM); · rfl)
      | ((with_reducible apply Xm.wp_revM); · rfl)
      | ((with_reducible apply Xm.wp_reprM); · rfl)
      | ((with_reducible apply Xm.wp_retM); · rfl)
      | ((with_reducible apply Xm.wp_retMd); · rfl)
      | ((with_reducible apply Xm.wp_aug); · rfl)
      | ((with_reducible apply Xm.wp_setM); · rfl))
    rfl
end K02

set_option Elab.async false
set_option linter.all false
set_option maxRecDepth 100000
set_option maxHeartbeats 4000000
namespace K02
open PySem PySem.Spec PyProof.Rows L2 Xm DwA

/-! ### the text -/
def topS (i : Nat) : Stmt := PySem.Challenge.pw_crossmarks_k02_shares_reckoned.main.body.getD i (.Pass ⟨0, 0, 0, 0⟩)
section
variable {P : Program} {w : World} {K : PySem.W.Frag} {mg : Str → Option Value} {base : Heap} {f : Addr} {fd : FuncData}
abbrev s_common : Stmt := topS 3
theorem sc_common : FnScope ["one", "other"] ["one", "other"] (defScope s_common) := ⟨rfl, rfl, rfl, by decide +kernel, rfl, by decide +kernel, by decide +kernel⟩
theorem w_common (T : Dn K "common" s_common [] f fd) (b_abs : mg "abs" = none) : FnG P w K mg base (CXM P w) 1 f fd ["one", "other"] (spP ⟨K, P, w, mg⟩ 2 mf_common) :=
  defP g_common T sc_common rfl (by decide) e_common fun C cdv A outer s H E room guards =>
    (xs_cons (xs_par2 sc_common.nd (xa_cons (xd_abs b_abs (xd_rd (pv 0))) (xa_cons (xd_abs b_abs (xd_rd (pv 1))) xa_nil)) rfl rfl (by decide) rfl rfl (by rfl)) (xs_cons (xs_while ms_common PassesOwn.never (xt_ne room.units (xd_rd (pv 1)) xd_int) (xs_one (xs_par2 sc_common.nd (xa_cons (xd_rd (pv 1)) (xa_cons (xd_mod (xd_rd (pv 0)) (xd_rd (pv 1))) xa_nil)) rfl rfl (by decide) rfl rfl (by rfl)))) (xs_one (xs_ret (xd_rd (pv 0))))))
abbrev s_is_less : Stmt := topS 9
theorem sc_is_less : FnScope ["share", "other"] ["share", "other"] (defScope s_is_less) := ⟨rfl, rfl, rfl, by decide +kernel, rfl, by decide +kernel, by decide +kernel⟩
theorem w_is_less (T : Dn K "is_less" s_is_less [] f fd) : FnG P w K mg base (CXM P w) 1 f fd ["share", "other"] (spP ⟨K, P, w, mg⟩ 2 mf_is_less) :=
  defP g_is_less T sc_is_less rfl (by decide) e_is_less fun C cdv A outer s H E room guards =>
    (xs_one (xs_ret (xd_lt (xd_mul (xd_item (xd_rd (pv 0)) xd_int) (xd_item (xd_rd (pv 1)) xd_int)) (xd_mul (xd_item (xd_rd (pv 1)) xd_int) (xd_item (xd_rd (pv 0)) xd_int)))))
abbrev s_law_draw : Stmt := topS 11
theorem sc_law_draw : FnScope ["_law_pen", "_law_many", "_law_at", "_law_cell", "_law_stirred", "_law_digit"] ["_law_pen", "_law_many"] (defScope s_law_draw) := ⟨rfl, rfl, rfl, by decide +kernel, rfl, by decide +kernel, by decide +kernel⟩
theorem w_law_draw (T : Dn K "_law_draw" s_law_draw [] f fd) (b_abs : mg "abs" = none) (b_len : mg "len" = none) : FnG P w K mg base (CXM P w) 1 f fd ["_law_pen", "_law_many"] (spQ ⟨K, P, w, mg⟩ 2 mq_law_draw) :=
  defQ g_law_draw T sc_law_draw rfl (by decide) e_law_draw fun C cdv A outer s H E room guards =>
    (xs_cons (xs_if (xt_gt (xd_itemM (pv 0) xd_int) xd_int) (xs_cons (xs_set sc_law_draw.nd (xd_mod (xd_itemM (pv 0) xd_int) (xd_rd (pv 1))) rfl (.inl rfl)) (xs_cons (xs_setItem (pv 0) xd_int (xd_div (xd_itemM (pv 0) xd_int) (xd_rd (pv 1)))) (xs_one (xs_ret (xd_rd (pv 5)))))) xs_nil) (xs_cons (xs_set sc_law_draw.nd (xd_itemM (pv 0) xd_int) rfl (.inl rfl)) (xs_cons (xs_setItem (pv 0) xd_int (xd_cat (xd_rd (pv 2)) xd_int)) (xs_cons (xs_set sc_law_draw.nd (xd_cat (xd_mul xd_int (xd_rd (pv 2))) xd_int) rfl (.inl rfl)) (xs_cons (xs_if (xt_ne room.units (xd_itemM (pv 0) xd_int) (xd_lst xa_nil)) (xs_one (xs_set sc_law_draw.nd (xd_item (xd_itemM (pv 0) xd_int) (xd_mod (xd_rd (pv 2)) (xd_len b_len (xd_itemM (pv 0) xd_int)))) rfl (.inl rfl))) xs_nil) (xs_cons (xs_if (xt_w (xw_and (xt_lt (xd_rd (pv 2)) (xd_len b_len (xd_itemM (pv 0) xd_int))) (xw_and1 (xt_ge (xd_abs b_abs (xd_rd (pv 3))) (xd_pow xd_int xd_int))))) (xs_cons (xs_setItem (pv 0) xd_int (xd_div (xd_abs b_abs (xd_rd (pv 3))) (xd_rd (pv 1)))) (xs_one (xs_ret (xd_mod (xd_abs b_abs (xd_rd (pv 3))) (xd_rd (pv 1)))))) xs_nil) (xs_cons (xs_set sc_law_draw.nd (xd_mod (xd_pow (xd_cat (xd_cat (xd_cat (xd_mod (xd_rd (pv 3)) xd_int) (xd_mul (xd_mul xd_int (xd_rd (pv 2))) (xd_rd (pv 2)))) (xd_mul xd_int (xd_rd (pv 2)))) xd_int) xd_int) xd_int) rfl (.inl rfl)) (xs_cons (xs_set sc_law_draw.nd (xd_mod (xd_pow (xd_cat (xd_mul (xd_rd (pv 4)) (xd_cat (xd_mul xd_int (xd_rd (pv 2))) xd_int)) xd_int) xd_int) xd_int) rfl (.inl rfl)) (xs_one (xs_ret (xd_mod (xd_div (xd_rd (pv 4)) xd_int) (xd_rd (pv 1)))))))))))))
abbrev s_law_common : Stmt := topS 12
theorem sc_law_common : FnScope ["_law_one", "_law_two"] ["_law_one", "_law_two"] (defScope s_law_common) := ⟨rfl, rfl, rfl, by decide +kernel, rfl, by decide +kernel, by decide +kernel⟩
theorem w_law_common (T : Dn K "_law_common" s_law_common [] f fd) (b_abs : mg "abs" = none) : FnG P w K mg base (CXM P w) 1 f fd ["_law_one", "_law_two"] (spP ⟨K, P, w, mg⟩ 2 mf_law_common) :=
  defP g_law_common T sc_law_common rfl (by decide) e_law_common fun C cdv A outer s H E room guards =>
    (xs_cons (xs_par2 sc_law_common.nd (xa_cons (xd_abs b_abs (xd_rd (pv 0))) (xa_cons (xd_abs b_abs (xd_rd (pv 1))) xa_nil)) rfl rfl (by decide) rfl rfl (by rfl)) (xs_cons (xs_while msAll PassesOwn.never (xt_gt (xd_rd (pv 1)) xd_int) (xs_one (xs_par2 sc_law_common.nd (xa_cons (xd_rd (pv 1)) (xa_cons (xd_mod (xd_rd (pv 0)) (xd_rd (pv 1))) xa_nil)) rfl rfl (by decide) rfl rfl (by rfl)))) (xs_one (xs_ret (xd_rd (pv 0))))))
abbrev s_law_below : Stmt := topS 17
theorem sc_law_below : FnScope ["_law_a", "_law_b"] ["_law_a", "_law_b"] (defScope s_law_below) := ⟨rfl, rfl, rfl, by decide +kernel, rfl, by decide +kernel, by decide +kernel⟩
theorem w_law_below (T : Dn K "_law_below" s_law_below [] f fd) : FnG P w K mg base (CXM P w) 1 f fd ["_law_a", "_law_b"] (spP ⟨K, P, w, mg⟩ 2 mf_law_below) :=
  defP g_law_below T sc_law_below rfl (by decide) e_law_below fun C cdv A outer s H E room guards =>
    (xs_one (xs_ret (xd_lt (xd_mul (xd_item (xd_rd (pv 0)) xd_int) (xd_item (xd_rd (pv 1)) xd_int)) (xd_mul (xd_item (xd_rd (pv 1)) xd_int) (xd_item (xd_rd (pv 0)) xd_int)))))
abbrev s_share_of : Stmt := topS 4
theorem sc_share_of : FnScope ["top", "bottom", "by"] ["top", "bottom"] (defScope s_share_of) := ⟨rfl, rfl, rfl, by decide +kernel, rfl, by decide +kernel, by decide +kernel⟩
theorem w_share_of {C_NoShare : Addr} (T : Dn K "share_of" s_share_of [.int 1] f fd) (x_NoShare : ExC K mg "NoShare" C_NoShare [.type "ZeroDivisionError", .type "ArithmeticError", .type "Exception", .type "BaseException", .type "object"] "ZeroDivisionError.__new__") (h_common : Has P w K mg base 1 "common" 2 [] mf_common) : FnG P w K mg base (CXM P w) 2 f fd ["top", "bottom"] (spP ⟨K, P, w, mg⟩ 2 mx_share_of) :=
  defX gx_share_of T sc_share_of rfl (by decide) ex_share_of fun C cdv A outer s H E hW room guards =>
    (xs_cons (xs_if (xt_eq room.units (xd_rd (pv 1)) xd_int) (xs_one (xs_raise rfl (cx_takes hW) PySem.F.excBase_ZeroDivisionError x_NoShare)) xs_nil) (xs_cons (xs_set sc_share_of.nd (xd_call h_common room guards (by decide) (xa_cons (xd_rd (pv 0)) (xa_cons (xd_rd (pv 1)) xa_nil)) (ar_cons (ar_cons ar_nil))) rfl (.inl rfl)) (xs_cons (xs_if (xt_lt (xd_rd (pv 1)) xd_int) (xs_one (xs_set sc_share_of.nd (xd_neg (xd_rd (pv 2))) rfl (.inl rfl))) xs_nil) (xs_one (xs_ret (xd_tup (xa_cons (xd_div (xd_rd (pv 0)) (xd_rd (pv 2))) (xa_cons (xd_div (xd_rd (pv 1)) (xd_rd (pv 2))) xa_nil))))))))
abbrev s_law_share : Stmt := topS 13
theorem sc_law_share : FnScope ["_law_up", "_law_down", "_law_by"] ["_law_up", "_law_down"] (defScope s_law_share) := ⟨rfl, rfl, rfl, by decide +kernel, rfl, by decide +kernel, by decide +kernel⟩
theorem w_law_share (T : Dn K "_law_share" s_law_share [] f fd) (h_law_common : Has P w K mg base 1 "_law_common" 2 [] mf_law_common) : FnG P w K mg base (CXM P w) 2 f fd ["_law_up", "_law_down"] (spP ⟨K, P, w, mg⟩ 2 mf_law_share) :=
  defP g_law_share T sc_law_share rfl (by decide) e_law_share fun C cdv A outer s H E room guards =>
    (xs_cons (xs_set sc_law_share.nd (xd_call h_law_common room guards (by decide) (xa_cons (xd_rd (pv 0)) (xa_cons (xd_rd (pv 1)) xa_nil)) (ar_cons (ar_cons ar_nil))) rfl (.inl rfl)) (xs_cons (xs_if (xt_lt (xd_rd (pv 1)) xd_int) (xs_one (xs_set sc_law_share.nd (xd_sub xd_int (xd_rd (pv 2))) rfl (.inl rfl))) xs_nil) (xs_one (xs_ret (xd_tup (xa_cons (xd_div (xd_rd (pv 0)) (xd_rd (pv 2))) (xa_cons (xd_div (xd_rd (pv 1)) (xd_rd (pv 2))) xa_nil)))))))
abbrev s_plus : Stmt := topS 5
theorem sc_plus : FnScope ["share", "other"] ["share", "other"] (defScope s_plus) := ⟨rfl, rfl, rfl, by decide +kernel, rfl, by decide +kernel, by decide +kernel⟩
theorem w_plus (T : Dn K "plus" s_plus [] f fd) (h_share_of : Has P w K mg base 2 "share_of" 2 [] mf_share_of) : FnG P w K mg base (CXM P w) 3 f fd ["share", "other"] (spP ⟨K, P, w, mg⟩ 2 mf_plus) :=
  defP g_plus T sc_plus rfl (by decide) e_plus fun C cdv A outer s H E room guards =>
    (xs_one (xs_ret (xd_call h_share_of room guards (by decide) (xa_cons (xd_cat (xd_mul (xd_item (xd_rd (pv 0)) xd_int) (xd_item (xd_rd (pv 1)) xd_int)) (xd_mul (xd_item (xd_rd (pv 1)) xd_int) (xd_item (xd_rd (pv 0)) xd_int))) (xa_cons (xd_mul (xd_item (xd_rd (pv 0)) xd_int) (xd_item (xd_rd (pv 1)) xd_int)) xa_nil)) (ar_cons (ar_cons ar_nil)))))
abbrev s_less : Stmt := topS 6
theorem sc_less : FnScope ["share", "other"] ["share", "other"] (defScope s_less) := ⟨rfl, rfl, rfl, by decide +kernel, rfl, by decide +kernel, by decide +kernel⟩
theorem w_less (T : Dn K "less" s_less [] f fd) (h_share_of : Has P w K mg base 2 "share_of" 2 [] mf_share_of) : FnG P w K mg base (CXM P w) 3 f fd ["share", "other"] (spP ⟨K, P, w, mg⟩ 2 mf_less) :=
  defP g_less T sc_less rfl (by decide) e_less fun C cdv A outer s H E room guards =>
    (xs_one (xs_ret (xd_call h_share_of room guards (by decide) (xa_cons (xd_sub (xd_mul (xd_item (xd_rd (pv 0)) xd_int) (xd_item (xd_rd (pv 1)) xd_int)) (xd_mul (xd_item (xd_rd (pv 1)) xd_int) (xd_item (xd_rd (pv 0)) xd_int))) (xa_cons (xd_mul (xd_item (xd_rd (pv 0)) xd_int) (xd_item (xd_rd (pv 1)) xd_int)) xa_nil)) (ar_cons (ar_cons ar_nil)))))
abbrev s_times : Stmt := topS 7
theorem sc_times : FnScope ["share", "other"] ["share", "other"] (defScope s_times) := ⟨rfl, rfl, rfl, by decide +kernel, rfl, by decide +kernel, by decide +kernel⟩
theorem w_times (T : Dn K "times" s_times [] f fd) (h_share_of : Has P w K mg base 2 "share_of" 2 [] mf_share_of) : FnG P w K mg base (CXM P w) 3 f fd ["share", "other"] (spP ⟨K, P, w, mg⟩ 2 mf_times) :=
  defP g_times T sc_times rfl (by decide) e_times fun C cdv A outer s H E room guards =>
    (xs_one (xs_ret (xd_call h_share_of room guards (by decide) (xa_cons (xd_mul (xd_item (xd_rd (pv 0)) xd_int) (xd_item (xd_rd (pv 1)) xd_int)) (xa_cons (xd_mul (xd_item (xd_rd (pv 0)) xd_int) (xd_item (xd_rd (pv 1)) xd_int)) xa_nil)) (ar_cons (ar_cons ar_nil)))))
abbrev s_over : Stmt := topS 8
theorem sc_over : FnScope ["share", "other"] ["share", "other"] (defScope s_over) := ⟨rfl, rfl, rfl, by decide +kernel, rfl, by decide +kernel, by decide +kernel⟩
theorem w_over  (T : Dn K "over" s_over [] f fd) (h_share_of_x : Has P w K mg base 2 "share_of" 2 [] mx_share_of) : FnG P w K mg base (CXM P w) 3 f fd ["share", "other"] (spP ⟨K, P, w, mg⟩ 2 mx_over) :=
  defX gx_over T sc_over rfl (by decide) ex_over fun C cdv A outer s H E hW room guards =>
    (xs_one (xs_retX (xx_call h_share_of_x (cx_takes hW) room guards (by decide) (xa_cons (xd_mul (xd_item (xd_rd (pv 0)) xd_int) (xd_item (xd_rd (pv 1)) xd_int)) (xa_cons (xd_mul (xd_item (xd_rd (pv 0)) xd_int) (xd_item (xd_rd (pv 1)) xd_int)) xa_nil)) (ar_cons (ar_cons ar_nil)))))
abbrev s_law_plus : Stmt := topS 14
theorem sc_law_plus : FnScope ["_law_a", "_law_b"] ["_law_a", "_law_b"] (defScope s_law_plus) := ⟨rfl, rfl, rfl, by decide +kernel, rfl, by decide +kernel, by decide +kernel⟩
theorem w_law_plus (T : Dn K "_law_plus" s_law_plus [] f fd) (h_law_share : Has P w K mg base 2 "_law_share" 2 [] mf_law_share) : FnG P w K mg base (CXM P w) 3 f fd ["_law_a", "_law_b"] (spP ⟨K, P, w, mg⟩ 2 mf_law_plus) :=
  defP g_law_plus T sc_law_plus rfl (by decide) e_law_plus fun C cdv A outer s H E room guards =>
    (xs_one (xs_ret (xd_call h_law_share room guards (by decide) (xa_cons (xd_cat (xd_mul (xd_item (xd_rd (pv 0)) xd_int) (xd_item (xd_rd (pv 1)) xd_int)) (xd_mul (xd_item (xd_rd (pv 1)) xd_int) (xd_item (xd_rd (pv 0)) xd_int))) (xa_cons (xd_mul (xd_item (xd_rd (pv 0)) xd_int) (xd_item (xd_rd (pv 1)) xd_int)) xa_nil)) (ar_cons (ar_cons ar_nil)))))
abbrev s_law_less : Stmt := topS 15
theorem sc_law_less : FnScope ["_law_a", "_law_b"] ["_law_a", "_law_b"] (defScope s_law_less) := ⟨rfl, rfl, rfl, by decide +kernel, rfl, by decide +kernel, by decide +kernel⟩
theorem w_law_less (T : Dn K "_law_less" s_law_less [] f fd) (h_law_share : Has P w K mg base 2 "_law_share" 2 [] mf_law_share) : FnG P w K mg base (CXM P w) 3 f fd ["_law_a", "_law_b"] (spP ⟨K, P, w, mg⟩ 2 mf_law_less) :=
  defP g_law_less T sc_law_less rfl (by decide) e_law_less fun C cdv A outer s H E room guards =>
    (xs_one (xs_ret (xd_call h_law_share room guards (by decide) (xa_cons (xd_sub (xd_mul (xd_item (xd_rd (pv 0)) xd_int) (xd_item (xd_rd (pv 1)) xd_int)) (xd_mul (xd_item (xd_rd (pv 1)) xd_int) (xd_item (xd_rd (pv 0)) xd_int))) (xa_cons (xd_mul (xd_item (xd_rd (pv 0)) xd_int) (xd_item (xd_rd (pv 1)) xd_int)) xa_nil)) (ar_cons (ar_cons ar_nil)))))
abbrev s_law_times : Stmt := topS 16
theorem sc_law_times : FnScope ["_law_a", "_law_b"] ["_law_a", "_law_b"] (defScope s_law_times) := ⟨rfl, rfl, rfl, by decide +kernel, rfl, by decide +kernel, by decide +kernel⟩
theorem w_law_times (T : Dn K "_law_times" s_law_times [] f fd) (h_law_share : Has P w K mg base 2 "_law_share" 2 [] mf_law_share) : FnG P w K mg base (CXM P w) 3 f fd ["_law_a", "_law_b"] (spP ⟨K, P, w, mg⟩ 2 mf_law_times) :=
  defP g_law_times T sc_law_times rfl (by decide) e_law_times fun C cdv A outer s H E room guards =>
    (xs_one (xs_ret (xd_call h_law_share room guards (by decide) (xa_cons (xd_mul (xd_item (xd_rd (pv 0)) xd_int) (xd_item (xd_rd (pv 1)) xd_int)) (xa_cons (xd_mul (xd_item (xd_rd (pv 0)) xd_int) (xd_item (xd_rd (pv 1)) xd_int)) xa_nil)) (ar_cons (ar_cons ar_nil)))))
abbrev s_law_any : Stmt := topS 18
theorem sc_law_any : FnScope ["_law_pen", "_law_way", "_law_great", "_law_up", "_law_down"] ["_law_pen"] (defScope s_law_any) := ⟨rfl, rfl, rfl, by decide +kernel, rfl, by decide +kernel, by decide +kernel⟩
theorem w_law_any (T : Dn K "_law_any" s_law_any [] f fd) (b_int : mg "int" = none) (h_law_draw : HasQ P w K mg base 1 "_law_draw" 2 mq_law_draw) (h_law_share : Has P w K mg base 2 "_law_share" 2 [] mf_law_share) : FnG P w K mg base (CXM P w) 3 f fd ["_law_pen"] (spQ ⟨K, P, w, mg⟩ 1 mq_law_any) :=
  defQ g_law_any T sc_law_any rfl (by decide) e_law_any fun C cdv A outer s H E room guards =>
    (xs_cons (xs_set sc_law_any.nd (xd_callM h_law_draw room guards (by decide) (pv 0) (xa_cons xd_int xa_nil) (ar_cons ar_nil)) rfl (.inl rfl)) (xs_cons (xs_set sc_law_any.nd (xd_cat (xd_mul (xd_callM h_law_draw room guards (by decide) (pv 0) (xa_cons (xd_pow xd_int xd_int) xa_nil) (ar_cons ar_nil)) (xd_pow xd_int xd_int)) (xd_callM h_law_draw room guards (by decide) (pv 0) (xa_cons (xd_pow xd_int xd_int) xa_nil) (ar_cons ar_nil))) rfl (.inl rfl)) (xs_cons (xs_set sc_law_any.nd (xd_item (xd_lst (xa_cons (xd_sub (xd_callM h_law_draw room guards (by decide) (pv 0) (xa_cons xd_int xa_nil) (ar_cons ar_nil)) xd_int) (xa_cons (xd_sub (xd_callM h_law_draw room guards (by decide) (pv 0) (xa_cons xd_int xa_nil) (ar_cons ar_nil)) xd_int) (xa_cons xd_int (xa_cons xd_int (xa_cons (xd_neg xd_int) (xa_cons (xd_rd (pv 2)) (xa_cons (xd_sub xd_int (xd_rd (pv 2))) (xa_cons (xd_callM h_law_draw room guards (by decide) (pv 0) (xa_cons xd_int xa_nil) (ar_cons ar_nil)) xa_nil))))))))) (xd_rd (pv 1))) rfl (.inl rfl)) (xs_cons (xs_set sc_law_any.nd (xd_item (xd_lst (xa_cons xd_int (xa_cons xd_int (xa_cons (xd_cat xd_int (xd_callM h_law_draw room guards (by decide) (pv 0) (xa_cons xd_int xa_nil) (ar_cons ar_nil))) (xa_cons xd_int (xa_cons xd_int (xa_cons (xd_cat xd_int (xd_callM h_law_draw room guards (by decide) (pv 0) (xa_cons (xd_pow xd_int xd_int) xa_nil) (ar_cons ar_nil))) (xa_cons xd_int (xa_cons (xd_sub (xd_pow xd_int xd_int) xd_int) xa_nil))))))))) (xd_callM h_law_draw room guards (by decide) (pv 0) (xa_cons xd_int xa_nil) (ar_cons ar_nil))) rfl (.inl rfl)) (xs_one (xs_ret (xd_call h_law_share room guards (by decide) (xa_cons (xd_rd (pv 3)) (xa_cons (xd_item (xd_lst (xa_cons (xd_rd (pv 4)) (xa_cons (xd_cat xd_int (xd_mod (xd_rd (pv 4)) xd_int)) xa_nil))) (xd_toint b_int (xd_gt (xd_callM h_law_draw room guards (by decide) (pv 0) (xa_cons xd_int xa_nil) (ar_cons ar_nil)) xd_int))) xa_nil)) (ar_cons (ar_cons ar_nil)))))))))
abbrev s_law_over_right : Stmt := topS 19
theorem sc_law_over_right : FnScope ["_law_a", "_law_b", "_law_refused", "_law_found"] ["_law_a", "_law_b"] (defScope s_law_over_right) := ⟨rfl, rfl, rfl, by decide +kernel, rfl, by decide +kernel, by decide +kernel⟩
theorem w_law_over_right {C_NoShare : Addr} (T : Dn K "_law_over_right" s_law_over_right [] f fd) (b_repr : mg "repr" = none) (x_NoShare : ExC K mg "NoShare" C_NoShare [.type "ZeroDivisionError", .type "ArithmeticError", .type "Exception", .type "BaseException", .type "object"] "ZeroDivisionError.__new__") (xm_NoShare_NoShare : PySem.W.exmOne K (.ref C_NoShare) (.ref C_NoShare) = some true) (h_over_x : Has P w K mg base 3 "over" 2 [] mx_over) (h_law_share : Has P w K mg base 2 "_law_share" 2 [] mf_law_share) (h_over_k0_other_share : HasK P w K mg base 3 "over" 2 0 ["other", "share"] [.inr 1, .inr 0] mf_over) : FnG P w K mg base (CXM P w) 4 f fd ["_law_a", "_law_b"] (spP ⟨K, P, w, mg⟩ 2 mf_law_over_right) :=
  defX g_law_over_right T sc_law_over_right rfl (by decide) e_law_over_right fun C cdv A outer s H E hW room guards =>
    (xs_cons (xs_set sc_law_over_right.nd xd_bl rfl (.inl rfl)) (xs_cons (xs_set sc_law_over_right.nd xd_non rfl (.inl rfl)) (xs_cons (xs_try rfl rfl ⟨rfl, by decide, .inl x_NoShare.mg⟩ (cx_takes hW) (ct1_ok x_NoShare.mg xm_NoShare_NoShare) (fun W pn xe tk1 ps1 => (xs_one (xs_setX sc_law_over_right.nd (xx_call h_over_x tk1 room guards (by decide) (xa_cons (xd_rd (pv 0)) (xa_cons (xd_rd (pv 1)) xa_nil)) (ar_cons (ar_cons ar_nil))) rfl (.inl rfl)))) (fun a oe cls d pn => (xs_one (xs_set sc_law_over_right.nd xd_bl rfl (.inl rfl))))) (xs_cons (xs_if (xt_eq room.units (xd_item (xd_rd (pv 1)) xd_int) xd_int) (xs_one (xs_ret (xd_rd (pv 2)))) xs_nil) (xs_one (xs_ret (xd_and (xd_not (xd_rd (pv 2))) (xd_and (xd_eq room.units (xd_repr (Room.u200 room) guards b_repr (xd_rd (pv 3))) (xd_repr (Room.u200 room) guards b_repr (xd_call h_law_share room guards (by decide) (xa_cons (xd_mul (xd_item (xd_rd (pv 0)) xd_int) (xd_item (xd_rd (pv 1)) xd_int)) (xa_cons (xd_mul (xd_item (xd_rd (pv 0)) xd_int) (xd_item (xd_rd (pv 1)) xd_int)) xa_nil)) (ar_cons (ar_cons ar_nil))))) (xd_one (xd_eq room.units (xd_rd (pv 3)) (xd_callK0 h_over_k0_other_share room guards (by decide) (xk_cons (xd_rd (pv 1)) (xk_cons (xd_rd (pv 0)) xk_nil)) (ar_cons (ar_cons ar_nil)))))))))))))
abbrev s_law_right : Stmt := topS 20
theorem sc_law_right : FnScope ["_law_a", "_law_b", "_law_due", "_law_told", "_law_more"] ["_law_a", "_law_b"] (defScope s_law_right) := ⟨rfl, rfl, rfl, by decide +kernel, rfl, by decide +kernel, by decide +kernel⟩
theorem w_law_right (T : Dn K "_law_right" s_law_right [] f fd) (b_repr : mg "repr" = none) (h_law_below : Has P w K mg base 1 "_law_below" 2 [] mf_law_below) (h_law_times : Has P w K mg base 3 "_law_times" 2 [] mf_law_times) (h_law_less : Has P w K mg base 3 "_law_less" 2 [] mf_law_less) (h_law_plus : Has P w K mg base 3 "_law_plus" 2 [] mf_law_plus) (h_is_less : Has P w K mg base 1 "is_less" 2 [] mf_is_less) (h_times : Has P w K mg base 3 "times" 2 [] mf_times) (h_less : Has P w K mg base 3 "less" 2 [] mf_less) (h_plus : Has P w K mg base 3 "plus" 2 [] mf_plus) (h_is_less_k0_other_share : HasK P w K mg base 1 "is_less" 2 0 ["other", "share"] [.inr 1, .inr 0] mf_is_less) (h_times_k0_share_other : HasK P w K mg base 3 "times" 2 0 ["share", "other"] [.inr 0, .inr 1] mf_times) (h_less_k0_other_share : HasK P w K mg base 3 "less" 2 0 ["other", "share"] [.inr 1, .inr 0] mf_less) (h_plus_k0_other_share : HasK P w K mg base 3 "plus" 2 0 ["other", "share"] [.inr 1, .inr 0] mf_plus) (h_law_over_right : Has P w K mg base 4 "_law_over_right" 2 [] mf_law_over_right) : FnG P w K mg base (CXM P w) 5 f fd ["_law_a", "_law_b"] (spP ⟨K, P, w, mg⟩ 2 mf_law_right) :=
  defP g_law_right T sc_law_right rfl (by decide) e_law_right fun C cdv A outer s H E room guards =>
    (xs_cons (xs_set sc_law_right.nd (xd_lst (xa_cons (xd_call h_law_plus room guards (by decide) (xa_cons (xd_rd (pv 0)) (xa_cons (xd_rd (pv 1)) xa_nil)) (ar_cons (ar_cons ar_nil))) (xa_cons (xd_call h_law_less room guards (by decide) (xa_cons (xd_rd (pv 0)) (xa_cons (xd_rd (pv 1)) xa_nil)) (ar_cons (ar_cons ar_nil))) (xa_cons (xd_call h_law_times room guards (by decide) (xa_cons (xd_rd (pv 0)) (xa_cons (xd_rd (pv 1)) xa_nil)) (ar_cons (ar_cons ar_nil))) (xa_cons (xd_call h_law_below room guards (by decide) (xa_cons (xd_rd (pv 0)) (xa_cons (xd_rd (pv 1)) xa_nil)) (ar_cons (ar_cons ar_nil))) xa_nil))))) rfl (.inl rfl)) (xs_cons (xs_set sc_law_right.nd (xd_lst (xa_cons (xd_call h_plus room guards (by decide) (xa_cons (xd_rd (pv 0)) (xa_cons (xd_rd (pv 1)) xa_nil)) (ar_cons (ar_cons ar_nil))) (xa_cons (xd_call h_less room guards (by decide) (xa_cons (xd_rd (pv 0)) (xa_cons (xd_rd (pv 1)) xa_nil)) (ar_cons (ar_cons ar_nil))) (xa_cons (xd_call h_times room guards (by decide) (xa_cons (xd_rd (pv 0)) (xa_cons (xd_rd (pv 1)) xa_nil)) (ar_cons (ar_cons ar_nil))) (xa_cons (xd_call h_is_less room guards (by decide) (xa_cons (xd_rd (pv 0)) (xa_cons (xd_rd (pv 1)) xa_nil)) (ar_cons (ar_cons ar_nil))) xa_nil))))) rfl (.inl rfl)) (xs_cons (xs_set sc_law_right.nd (xd_lst (xa_cons (xd_callK0 h_plus_k0_other_share room guards (by decide) (xk_cons (xd_rd (pv 1)) (xk_cons (xd_rd (pv 0)) xk_nil)) (ar_cons (ar_cons ar_nil))) (xa_cons (xd_callK0 h_less_k0_other_share room guards (by decide) (xk_cons (xd_rd (pv 1)) (xk_cons (xd_rd (pv 0)) xk_nil)) (ar_cons (ar_cons ar_nil))) (xa_cons (xd_callK0 h_times_k0_share_other room guards (by decide) (xk_cons (xd_rd (pv 0)) (xk_cons (xd_rd (pv 1)) xk_nil)) (ar_cons (ar_cons ar_nil))) (xa_cons (xd_callK0 h_is_less_k0_other_share room guards (by decide) (xk_cons (xd_rd (pv 1)) (xk_cons (xd_rd (pv 0)) xk_nil)) (ar_cons (ar_cons ar_nil))) xa_nil))))) rfl (.inl rfl)) (xs_one (xs_ret (xd_and (xd_eq room.units (xd_repr (Room.u200 room) guards b_repr (xd_rd (pv 3))) (xd_repr (Room.u200 room) guards b_repr (xd_rd (pv 2)))) (xd_and (xd_eq room.units (xd_repr (Room.u200 room) guards b_repr (xd_rd (pv 4))) (xd_repr (Room.u200 room) guards b_repr (xd_rd (pv 2)))) (xd_one (xd_call h_law_over_right room guards (by decide) (xa_cons (xd_rd (pv 0)) (xa_cons (xd_rd (pv 1)) xa_nil)) (ar_cons (ar_cons ar_nil)))))))))))
abbrev s_law : Stmt := topS 21
theorem sc_law : FnScope ["_law_script", "_law_pen", "_law_many", "_law_turn", "_law_a", "_law_near_it", "_law_b"] ["_law_script"] (defScope s_law) := ⟨rfl, rfl, rfl, by decide +kernel, rfl, by decide +kernel, by decide +kernel⟩
theorem w_law (T : Dn K "law" s_law [] f fd) (b_list : mg "list" = none) (b_range : mg "range" = none) (h_law_draw : HasQ P w K mg base 1 "_law_draw" 2 mq_law_draw) (h_law_right : Has P w K mg base 5 "_law_right" 2 [] mf_law_right) (h_law_any : HasQ P w K mg base 3 "_law_any" 1 mq_law_any) (h_law_share : Has P w K mg base 2 "_law_share" 2 [] mf_law_share) : FnG P w K mg base (CXM P w) 6 f fd ["_law_script"] (spP ⟨K, P, w, mg⟩ 1 mf_law) :=
  defP g_law T sc_law rfl (by decide) e_law fun C cdv A outer s H E room guards =>
    (xs_cons (xs_setN sc_law.nd (xn_lst (xa_cons (xd_tolist b_list (xd_slice (xd_rd (pv 0)) xo_none (xo_some xd_int))) (xa_cons xd_int (xa_cons xd_int xa_nil)))) rfl (.inl rfl)) (xs_cons (xs_set sc_law.nd (xd_cat (xd_pow xd_int xd_int) (xd_callM h_law_draw room guards (by decide) (pv 1) (xa_cons (xd_pow xd_int xd_int) xa_nil) (ar_cons ar_nil))) rfl (.inl rfl)) (xs_cons (xs_if (xt_not (xt_val (xd_call h_law_right room guards (by decide) (xa_cons (xd_tup (xa_cons (xd_rd (pv 2)) (xa_cons (xd_cat (xd_rd (pv 2)) xd_int) xa_nil))) (xa_cons (xd_tup (xa_cons (xd_cat (xd_rd (pv 2)) xd_int) (xa_cons (xd_cat (xd_rd (pv 2)) xd_int) xa_nil))) xa_nil)) (ar_cons (ar_cons ar_nil))))) (xs_one (xs_ret xd_bl)) xs_nil) (xs_cons (xs_for PassesOwn.never rfl (xi_range1 b_range xd_int) (xg_name sc_law.nd rfl (.inl rfl)) (xss_clr [3, 4, 5, 6] (xs_cons (xs_set sc_law.nd (xd_callM h_law_any room guards (by decide) (pv 1) xa_nil ar_nil) rfl (.inl rfl)) (xs_cons (xs_set sc_law.nd (xd_call h_law_share room guards (by decide) (xa_cons (xd_cat (xd_mul (xd_item (xd_rd (pv 4)) xd_int) (xd_cat (xd_pow xd_int xd_int) xd_int)) xd_int) (xa_cons (xd_mul (xd_item (xd_rd (pv 4)) xd_int) (xd_cat (xd_pow xd_int xd_int) xd_int)) xa_nil)) (ar_cons (ar_cons ar_nil))) rfl (.inl rfl)) (xs_cons (xs_set sc_law.nd (xd_item (xd_lst (xa_cons (xd_callM h_law_any room guards (by decide) (pv 1) xa_nil ar_nil) (xa_cons (xd_rd (pv 4)) (xa_cons (xd_tup (xa_cons (xd_sub xd_int (xd_item (xd_rd (pv 4)) xd_int)) (xa_cons (xd_item (xd_rd (pv 4)) xd_int) xa_nil))) (xa_cons (xd_rd (pv 5)) (xa_cons (xd_tup (xa_cons xd_int (xa_cons xd_int xa_nil))) (xa_cons (xd_tup (xa_cons xd_int (xa_cons xd_int xa_nil))) xa_nil))))))) (xd_callM h_law_draw room guards (by decide) (pv 1) (xa_cons xd_int xa_nil) (ar_cons ar_nil))) rfl (.inl rfl)) (xs_one (xs_if (xt_w (xw_or (xt_not (xt_val (xd_call h_law_right room guards (by decide) (xa_cons (xd_rd (pv 4)) (xa_cons (xd_rd (pv 6)) xa_nil)) (ar_cons (ar_cons ar_nil))))) (xw_or1 (xt_not (xt_val (xd_call h_law_right room guards (by decide) (xa_cons (xd_rd (pv 6)) (xa_cons (xd_rd (pv 4)) xa_nil)) (ar_cons (ar_cons ar_nil)))))))) (xs_one (xs_ret xd_bl)) xs_nil))))))) (xs_one (xs_ret xd_bl))))))
end
/-! ### what the top has left -/
theorem all_mk {l : PySem.W.OpenLaw} {w : World} {K : PySem.W.Frag} {h : Heap} {mg : Str → Option Value} {fa : Addr} (X : K.In h) (G : h.Ns mainGlobals mg) (hfa : mg "law" = some (.ref fa))
    {f_common : Addr} {od_common an_common : Option Addr} {sl_common : Array (Option Value)} {oc_common kV_common dc_common pm_common cd_common ct_common : Value}
    {f_is_less : Addr} {od_is_less an_is_less : Option Addr} {sl_is_less : Array (Option Value)} {oc_is_less kV_is_less dc_is_less pm_is_less cd_is_less ct_is_less : Value}
    {f_law_draw : Addr} {od_law_draw an_law_draw : Option Addr} {sl_law_draw : Array (Option Value)} {oc_law_draw kV_law_draw dc_law_draw pm_law_draw cd_law_draw ct_law_draw : Value}
    {f_law_common : Addr} {od_law_common an_law_common : Option Addr} {sl_law_common : Array (Option Value)} {oc_law_common kV_law_common dc_law_common pm_law_common cd_law_common ct_law_common : Value}
    {f_law_below : Addr} {od_law_below an_law_below : Option Addr} {sl_law_below : Array (Option Value)} {oc_law_below kV_law_below dc_law_below pm_law_below cd_law_below ct_law_below : Value}
    {f_share_of : Addr} {od_share_of an_share_of : Option Addr} {sl_share_of : Array (Option Value)} {oc_share_of kV_share_of dc_share_of pm_share_of cd_share_of ct_share_of : Value}
    {T_share_of : Addr} {oT_share_of : Value} {dT_share_of : Option Addr} {sT_share_of : Array (Option Value)} {t_share_of : Tok} {n_share_of : Nat}
    {f_law_share : Addr} {od_law_share an_law_share : Option Addr} {sl_law_share : Array (Option Value)} {oc_law_share kV_law_share dc_law_share pm_law_share cd_law_share ct_law_share : Value}
    {f_plus : Addr} {od_plus an_plus : Option Addr} {sl_plus : Array (Option Value)} {oc_plus kV_plus dc_plus pm_plus cd_plus ct_plus : Value}
    {f_less : Addr} {od_less an_less : Option Addr} {sl_less : Array (Option Value)} {oc_less kV_less dc_less pm_less cd_less ct_less : Value}
    {f_times : Addr} {od_times an_times : Option Addr} {sl_times : Array (Option Value)} {oc_times kV_times dc_times pm_times cd_times ct_times : Value}
    {f_over : Addr} {od_over an_over : Option Addr} {sl_over : Array (Option Value)} {oc_over kV_over dc_over pm_over cd_over ct_over : Value}
    {f_law_plus : Addr} {od_law_plus an_law_plus : Option Addr} {sl_law_plus : Array (Option Value)} {oc_law_plus kV_law_plus dc_law_plus pm_law_plus cd_law_plus ct_law_plus : Value}
    {f_law_less : Addr} {od_law_less an_law_less : Option Addr} {sl_law_less : Array (Option Value)} {oc_law_less kV_law_less dc_law_less pm_law_less cd_law_less ct_law_less : Value}
    {f_law_times : Addr} {od_law_times an_law_times : Option Addr} {sl_law_times : Array (Option Value)} {oc_law_times kV_law_times dc_law_times pm_law_times cd_law_times ct_law_times : Value}
    {f_law_any : Addr} {od_law_any an_law_any : Option Addr} {sl_law_any : Array (Option Value)} {oc_law_any kV_law_any dc_law_any pm_law_any cd_law_any ct_law_any : Value}
    {f_law_over_right : Addr} {od_law_over_right an_law_over_right : Option Addr} {sl_law_over_right : Array (Option Value)} {oc_law_over_right kV_law_over_right dc_law_over_right pm_law_over_right cd_law_over_right ct_law_over_right : Value}
    {f_law_right : Addr} {od_law_right an_law_right : Option Addr} {sl_law_right : Array (Option Value)} {oc_law_right kV_law_right dc_law_right pm_law_right cd_law_right ct_law_right : Value}
    {f_law : Addr} {od_law an_law : Option Addr} {sl_law : Array (Option Value)} {oc_law kV_law dc_law pm_law cd_law ct_law : Value}
    {C_NoShare N_NoShare : Addr} {nm_NoShare qq_NoShare : Str} {bs_NoShare : List Value} {hd_NoShare : Bool} {sn_NoShare : List Str} {su_NoShare : List Value} {ab_NoShare : Bool} {co_NoShare : Option Bool} {dd_NoShare dN_NoShare : Option Addr} {k0_NoShare k1_NoShare k2_NoShare k3_NoShare k5_NoShare : Option Value} {cN_NoShare : Value} {es_NoShare : Array DictEntry} {nN_NoShare : Nat} {sN_NoShare : Array (Option Value)}
    (a_common : PySem.W.nsIn K mainGlobals "common" = some (some (.ref f_common)))
    (l_common : K.lookup f_common = some ⟨oc_common, od_common, .func (PySem.W.fnOf "common" "common" (defArgs s_common) (defBody s_common) (defScope s_common) .none kV_common dc_common pm_common an_common cd_common ct_common), sl_common⟩)
    (c_common : PySem.W.codeIn K cd_common "common" = true)
    (k_common : PySem.W.keepIn K (.ref f_common) = true)
    (a_is_less : PySem.W.nsIn K mainGlobals "is_less" = some (some (.ref f_is_less)))
    (l_is_less : K.lookup f_is_less = some ⟨oc_is_less, od_is_less, .func (PySem.W.fnOf "is_less" "is_less" (defArgs s_is_less) (defBody s_is_less) (defScope s_is_less) .none kV_is_less dc_is_less pm_is_less an_is_less cd_is_less ct_is_less), sl_is_less⟩)
    (c_is_less : PySem.W.codeIn K cd_is_less "is_less" = true)
    (k_is_less : PySem.W.keepIn K (.ref f_is_less) = true)
    (a_law_draw : PySem.W.nsIn K mainGlobals "_law_draw" = some (some (.ref f_law_draw)))
    (l_law_draw : K.lookup f_law_draw = some ⟨oc_law_draw, od_law_draw, .func (PySem.W.fnOf "_law_draw" "_law_draw" (defArgs s_law_draw) (defBody s_law_draw) (defScope s_law_draw) .none kV_law_draw dc_law_draw pm_law_draw an_law_draw cd_law_draw ct_law_draw), sl_law_draw⟩)
    (c_law_draw : PySem.W.codeIn K cd_law_draw "_law_draw" = true)
    (k_law_draw : PySem.W.keepIn K (.ref f_law_draw) = true)
    (a_law_common : PySem.W.nsIn K mainGlobals "_law_common" = some (some (.ref f_law_common)))
    (l_law_common : K.lookup f_law_common = some ⟨oc_law_common, od_law_common, .func (PySem.W.fnOf "_law_common" "_law_common" (defArgs s_law_common) (defBody s_law_common) (defScope s_law_common) .none kV_law_common dc_law_common pm_law_common an_law_common cd_law_common ct_law_common), sl_law_common⟩)
    (c_law_common : PySem.W.codeIn K cd_law_common "_law_common" = true)
    (k_law_common : PySem.W.keepIn K (.ref f_law_common) = true)
    (a_law_below : PySem.W.nsIn K mainGlobals "_law_below" = some (some (.ref f_law_below)))
    (l_law_below : K.lookup f_law_below = some ⟨oc_law_below, od_law_below, .func (PySem.W.fnOf "_law_below" "_law_below" (defArgs s_law_below) (defBody s_law_below) (defScope s_law_below) .none kV_law_below dc_law_below pm_law_below an_law_below cd_law_below ct_law_below), sl_law_below⟩)
    (c_law_below : PySem.W.codeIn K cd_law_below "_law_below" = true)
    (k_law_below : PySem.W.keepIn K (.ref f_law_below) = true)
    (a_share_of : PySem.W.nsIn K mainGlobals "share_of" = some (some (.ref f_share_of)))
    (l_share_of : K.lookup f_share_of = some ⟨oc_share_of, od_share_of, .func (PySem.W.fnOf "share_of" "share_of" (defArgs s_share_of) (defBody s_share_of) (defScope s_share_of) (.ref T_share_of) kV_share_of dc_share_of pm_share_of an_share_of cd_share_of ct_share_of), sl_share_of⟩)
    (c_share_of : PySem.W.codeIn K cd_share_of "share_of" = true)
    (k_share_of : PySem.W.keepIn K (.ref f_share_of) = true)
    (q_share_of : K.lookup T_share_of = some ⟨oT_share_of, dT_share_of, .seq #[.int 1 t_share_of] n_share_of, sT_share_of⟩)
    (a_law_share : PySem.W.nsIn K mainGlobals "_law_share" = some (some (.ref f_law_share)))
    (l_law_share : K.lookup f_law_share = some ⟨oc_law_share, od_law_share, .func (PySem.W.fnOf "_law_share" "_law_share" (defArgs s_law_share) (defBody s_law_share) (defScope s_law_share) .none kV_law_share dc_law_share pm_law_share an_law_share cd_law_share ct_law_share), sl_law_share⟩)
    (c_law_share : PySem.W.codeIn K cd_law_share "_law_share" = true)
    (k_law_share : PySem.W.keepIn K (.ref f_law_share) = true)
    (a_plus : PySem.W.nsIn K mainGlobals "plus" = some (some (.ref f_plus)))
    (l_plus : K.lookup f_plus = some ⟨oc_plus, od_plus, .func (PySem.W.fnOf "plus" "plus" (defArgs s_plus) (defBody s_plus) (defScope s_plus) .none kV_plus dc_plus pm_plus an_plus cd_plus ct_plus), sl_plus⟩)
    (c_plus : PySem.W.codeIn K cd_plus "plus" = true)
    (k_plus : PySem.W.keepIn K (.ref f_plus) = true)
    (a_less : PySem.W.nsIn K mainGlobals "less" = some (some (.ref f_less)))
    (l_less : K.lookup f_less = some ⟨oc_less, od_less, .func (PySem.W.fnOf "less" "less" (defArgs s_less) (defBody s_less) (defScope s_less) .none kV_less dc_less pm_less an_less cd_less ct_less), sl_less⟩)
    (c_less : PySem.W.codeIn K cd_less "less" = true)
    (k_less : PySem.W.keepIn K (.ref f_less) = true)
    (a_times : PySem.W.nsIn K mainGlobals "times" = some (some (.ref f_times)))
    (l_times : K.lookup f_times = some ⟨oc_times, od_times, .func (PySem.W.fnOf "times" "times" (defArgs s_times) (defBody s_times) (defScope s_times) .none kV_times dc_times pm_times an_times cd_times ct_times), sl_times⟩)
    (c_times : PySem.W.codeIn K cd_times "times" = true)
    (k_times : PySem.W.keepIn K (.ref f_times) = true)
    (a_over : PySem.W.nsIn K mainGlobals "over" = some (some (.ref f_over)))
    (l_over : K.lookup f_over = some ⟨oc_over, od_over, .func (PySem.W.fnOf "over" "over" (defArgs s_over) (defBody s_over) (defScope s_over) .none kV_over dc_over pm_over an_over cd_over ct_over), sl_over⟩)
    (c_over : PySem.W.codeIn K cd_over "over" = true)
    (k_over : PySem.W.keepIn K (.ref f_over) = true)
    (a_law_plus : PySem.W.nsIn K mainGlobals "_law_plus" = some (some (.ref f_law_plus)))
    (l_law_plus : K.lookup f_law_plus = some ⟨oc_law_plus, od_law_plus, .func (PySem.W.fnOf "_law_plus" "_law_plus" (defArgs s_law_plus) (defBody s_law_plus) (defScope s_law_plus) .none kV_law_plus dc_law_plus pm_law_plus an_law_plus cd_law_plus ct_law_plus), sl_law_plus⟩)
    (c_law_plus : PySem.W.codeIn K cd_law_plus "_law_plus" = true)
    (k_law_plus : PySem.W.keepIn K (.ref f_law_plus) = true)
    (a_law_less : PySem.W.nsIn K mainGlobals "_law_less" = some (some (.ref f_law_less)))
    (l_law_less : K.lookup f_law_less = some ⟨oc_law_less, od_law_less, .func (PySem.W.fnOf "_law_less" "_law_less" (defArgs s_law_less) (defBody s_law_less) (defScope s_law_less) .none kV_law_less dc_law_less pm_law_less an_law_less cd_law_less ct_law_less), sl_law_less⟩)
    (c_law_less : PySem.W.codeIn K cd_law_less "_law_less" = true)
    (k_law_less : PySem.W.keepIn K (.ref f_law_less) = true)
    (a_law_times : PySem.W.nsIn K mainGlobals "_law_times" = some (some (.ref f_law_times)))
    (l_law_times : K.lookup f_law_times = some ⟨oc_law_times, od_law_times, .func (PySem.W.fnOf "_law_times" "_law_times" (defArgs s_law_times) (defBody s_law_times) (defScope s_law_times) .none kV_law_times dc_law_times pm_law_times an_law_times cd_law_times ct_law_times), sl_law_times⟩)
    (c_law_times : PySem.W.codeIn K cd_law_times "_law_times" = true)
    (k_law_times : PySem.W.keepIn K (.ref f_law_times) = true)
    (a_law_any : PySem.W.nsIn K mainGlobals "_law_any" = some (some (.ref f_law_any)))
    (l_law_any : K.lookup f_law_any = some ⟨oc_law_any, od_law_any, .func (PySem.W.fnOf "_law_any" "_law_any" (defArgs s_law_any) (defBody s_law_any) (defScope s_law_any) .none kV_law_any dc_law_any pm_law_any an_law_any cd_law_any ct_law_any), sl_law_any⟩)
    (c_law_any : PySem.W.codeIn K cd_law_any "_law_any" = true)
    (k_law_any : PySem.W.keepIn K (.ref f_law_any) = true)
    (a_law_over_right : PySem.W.nsIn K mainGlobals "_law_over_right" = some (some (.ref f_law_over_right)))
    (l_law_over_right : K.lookup f_law_over_right = some ⟨oc_law_over_right, od_law_over_right, .func (PySem.W.fnOf "_law_over_right" "_law_over_right" (defArgs s_law_over_right) (defBody s_law_over_right) (defScope s_law_over_right) .none kV_law_over_right dc_law_over_right pm_law_over_right an_law_over_right cd_law_over_right ct_law_over_right), sl_law_over_right⟩)
    (c_law_over_right : PySem.W.codeIn K cd_law_over_right "_law_over_right" = true)
    (k_law_over_right : PySem.W.keepIn K (.ref f_law_over_right) = true)
    (a_law_right : PySem.W.nsIn K mainGlobals "_law_right" = some (some (.ref f_law_right)))
    (l_law_right : K.lookup f_law_right = some ⟨oc_law_right, od_law_right, .func (PySem.W.fnOf "_law_right" "_law_right" (defArgs s_law_right) (defBody s_law_right) (defScope s_law_right) .none kV_law_right dc_law_right pm_law_right an_law_right cd_law_right ct_law_right), sl_law_right⟩)
    (c_law_right : PySem.W.codeIn K cd_law_right "_law_right" = true)
    (k_law_right : PySem.W.keepIn K (.ref f_law_right) = true)
    (a_law : PySem.W.nsIn K mainGlobals "law" = some (some (.ref f_law)))
    (l_law : K.lookup f_law = some ⟨oc_law, od_law, .func (PySem.W.fnOf "law" "law" (defArgs s_law) (defBody s_law) (defScope s_law) .none kV_law dc_law pm_law an_law cd_law ct_law), sl_law⟩)
    (c_law : PySem.W.codeIn K cd_law "law" = true)
    (k_law : PySem.W.keepIn K (.ref f_law) = true)
    (z_abs : PySem.W.nsIn K mainGlobals "abs" = some none)
    (z_int : PySem.W.nsIn K mainGlobals "int" = some none)
    (z_len : PySem.W.nsIn K mainGlobals "len" = some none)
    (z_list : PySem.W.nsIn K mainGlobals "list" = some none)
    (z_range : PySem.W.nsIn K mainGlobals "range" = some none)
    (z_repr : PySem.W.nsIn K mainGlobals "repr" = some none)
    (aX_NoShare : PySem.W.nsIn K mainGlobals "NoShare" = some (some (.ref C_NoShare)))
    (lX_NoShare : K.lookup C_NoShare = some (excClassObj nm_NoShare qq_NoShare C_NoShare N_NoShare bs_NoShare [.type "ZeroDivisionError", .type "ArithmeticError", .type "Exception", .type "BaseException", .type "object"] hd_NoShare sn_NoShare su_NoShare ab_NoShare co_NoShare dd_NoShare k0_NoShare k1_NoShare k2_NoShare k3_NoShare k5_NoShare "ZeroDivisionError.__new__"))
    (nX_NoShare : K.lookup N_NoShare = some ⟨cN_NoShare, dN_NoShare, .dict es_NoShare nN_NoShare, sN_NoShare⟩)
    (rX_NoShare : (es_NoShare.toList.all fun e => match e.key with | .str _ _ => true | _ => false) = true)
    (iX_NoShare : PySem.W.nsIn K N_NoShare "__init__" = some none)
    (kX_NoShare : PySem.W.keepIn K (.ref C_NoShare) = true)
    (sX_NoShare : PySem.W.subIn K (.ref C_NoShare) (.type "BaseException") = some true)
    (tX_NoShare : PySem.W.typeIn K (.ref C_NoShare) = some (.type "type"))
    (jX_NoShare : PySem.W.isClsIn K C_NoShare = true)
    (sX_NoShare_NoShare : PySem.W.subIn K (.ref C_NoShare) (.ref C_NoShare) = some true) :
    ∃ fd : FuncData, (∀ (s : Shared) (v : Value), BindsTo s fd ⟨[v], []⟩ [("_law_script", v)]) ∧ ∀ base : Heap, K.In base → base.Ns mainGlobals mg → FnG l.prog w K mg base (CXM l.prog w) 6 fa fd ["_law_script"] (spP ⟨K, l.prog, w, mg⟩ 1 mf_law) := by
  cases hfa.symm.trans (PySem.W.mg_of X G a_law)
  have D_common := (dn_mk (st := s_common) l_common c_common k_common)
  have D_is_less := (dn_mk (st := s_is_less) l_is_less c_is_less k_is_less)
  have D_law_draw := (dn_mk (st := s_law_draw) l_law_draw c_law_draw k_law_draw)
  have D_law_common := (dn_mk (st := s_law_common) l_law_common c_law_common k_law_common)
  have D_law_below := (dn_mk (st := s_law_below) l_law_below c_law_below k_law_below)
  have D_share_of := (dn_mk1 (st := s_share_of) l_share_of c_share_of k_share_of q_share_of)
  have D_law_share := (dn_mk (st := s_law_share) l_law_share c_law_share k_law_share)
  have D_plus := (dn_mk (st := s_plus) l_plus c_plus k_plus)
  have D_less := (dn_mk (st := s_less) l_less c_less k_less)
  have D_times := (dn_mk (st := s_times) l_times c_times k_times)
  have D_over := (dn_mk (st := s_over) l_over c_over k_over)
  have D_law_plus := (dn_mk (st := s_law_plus) l_law_plus c_law_plus k_law_plus)
  have D_law_less := (dn_mk (st := s_law_less) l_law_less c_law_less k_law_less)
  have D_law_times := (dn_mk (st := s_law_times) l_law_times c_law_times k_law_times)
  have D_law_any := (dn_mk (st := s_law_any) l_law_any c_law_any k_law_any)
  have D_law_over_right := (dn_mk (st := s_law_over_right) l_law_over_right c_law_over_right k_law_over_right)
  have D_law_right := (dn_mk (st := s_law_right) l_law_right c_law_right k_law_right)
  have D_law := (dn_mk (st := s_law) l_law c_law k_law)
  refine ⟨_, fun s v => D_law.bindsA (ps := ["_law_script"]) (fun _ _ _ _ _ _ us hl => match us, hl with | [_], _ => rfl) s [v] rfl, fun base _ _ => ?_⟩
  have b_abs := PySem.W.mg_none_of X G z_abs
  have b_int := PySem.W.mg_none_of X G z_int
  have b_len := PySem.W.mg_none_of X G z_len
  have b_list := PySem.W.mg_none_of X G z_list
  have b_range := PySem.W.mg_none_of X G z_range
  have b_repr := PySem.W.mg_none_of X G z_repr
  have x_NoShare : ExC K mg "NoShare" C_NoShare [.type "ZeroDivisionError", .type "ArithmeticError", .type "Exception", .type "BaseException", .type "object"] "ZeroDivisionError.__new__" := ⟨PySem.W.mg_of X G aX_NoShare, excIn_mk lX_NoShare nX_NoShare rX_NoShare iX_NoShare rfl, kX_NoShare, sX_NoShare, tX_NoShare⟩
  have xm_NoShare_NoShare := exm_of sX_NoShare jX_NoShare tX_NoShare sX_NoShare_NoShare
  have W_common : FnG l.prog w K mg base (CXM l.prog w) _ _ _ _ _ := w_common D_common b_abs
  have h_common : Has l.prog w K mg base 1 "common" 2 [] mf_common := ⟨_, _, _, [], [], W_common, PySem.W.mg_of X G a_common, k_common, D_common.bindsN (fun _ _ _ _ _ _ us hl => match us, hl with | [_, _], _ => rfl), .nil, fun _ => .nil⟩
  have W_is_less : FnG l.prog w K mg base (CXM l.prog w) _ _ _ _ _ := w_is_less D_is_less
  have h_is_less : Has l.prog w K mg base 1 "is_less" 2 [] mf_is_less := ⟨_, _, _, [], [], W_is_less, PySem.W.mg_of X G a_is_less, k_is_less, D_is_less.bindsN (fun _ _ _ _ _ _ us hl => match us, hl with | [_, _], _ => rfl), .nil, fun _ => .nil⟩
  have h_is_less_k0_other_share : HasK l.prog w K mg base 1 "is_less" 2 0 ["other", "share"] [.inr 1, .inr 0] mf_is_less := ⟨⟨_, _, _, W_is_less, PySem.W.mg_of X G a_is_less, k_is_less, rfl, dn_kw D_is_less fun _ _ _ _ _ _ us ws l1 l2 => match us, ws, l1, l2 with | [], [_, _], _, _ => rfl⟩⟩
  have W_law_draw : FnG l.prog w K mg base (CXM l.prog w) _ _ _ _ _ := w_law_draw D_law_draw b_abs b_len
  have h_law_draw : HasQ l.prog w K mg base 1 "_law_draw" 2 mq_law_draw := ⟨_, _, _, W_law_draw, PySem.W.mg_of X G a_law_draw, k_law_draw, D_law_draw.bindsN fun _ _ _ _ _ _ us hl => match us, hl with | [_, _], _ => rfl⟩
  have W_law_common : FnG l.prog w K mg base (CXM l.prog w) _ _ _ _ _ := w_law_common D_law_common b_abs
  have h_law_common : Has l.prog w K mg base 1 "_law_common" 2 [] mf_law_common := ⟨_, _, _, [], [], W_law_common, PySem.W.mg_of X G a_law_common, k_law_common, D_law_common.bindsN (fun _ _ _ _ _ _ us hl => match us, hl with | [_, _], _ => rfl), .nil, fun _ => .nil⟩
  have W_law_below : FnG l.prog w K mg base (CXM l.prog w) _ _ _ _ _ := w_law_below D_law_below
  have h_law_below : Has l.prog w K mg base 1 "_law_below" 2 [] mf_law_below := ⟨_, _, _, [], [], W_law_below, PySem.W.mg_of X G a_law_below, k_law_below, D_law_below.bindsN (fun _ _ _ _ _ _ us hl => match us, hl with | [_, _], _ => rfl), .nil, fun _ => .nil⟩
  have W_share_of : FnG l.prog w K mg base (CXM l.prog w) _ _ _ _ _ := w_share_of D_share_of x_NoShare h_common
  have h_share_of : Has l.prog w K mg base 2 "share_of" 2 [] mf_share_of := by
    obtain ⟨ds, v, b⟩ := D_share_of.binds1 (ps := ["top", "bottom"]) 2 1 (by simp) rfl (fun _ _ _ _ _ _ _ us its hl hl2 => match us, its, hl, hl2 with | [_, _], [_], _, _ => ⟨_, rfl, rfl⟩)
    cases v
    exact Has.sub (mf' := mx_share_of) sub_share_of ⟨_, _, _, [], [], W_share_of, PySem.W.mg_of X G a_share_of, k_share_of, b, .nil, fun _ => .nil⟩
  have h_share_of_x : Has l.prog w K mg base 2 "share_of" 2 [] mx_share_of := by
    obtain ⟨ds, v, b⟩ := D_share_of.binds1 (ps := ["top", "bottom"]) 2 1 (by simp) rfl (fun _ _ _ _ _ _ _ us its hl hl2 => match us, its, hl, hl2 with | [_, _], [_], _, _ => ⟨_, rfl, rfl⟩)
    cases v
    exact ⟨_, _, _, [], [], W_share_of, PySem.W.mg_of X G a_share_of, k_share_of, b, .nil, fun _ => .nil⟩
  have W_law_share : FnG l.prog w K mg base (CXM l.prog w) _ _ _ _ _ := w_law_share D_law_share h_law_common
  have h_law_share : Has l.prog w K mg base 2 "_law_share" 2 [] mf_law_share := ⟨_, _, _, [], [], W_law_share, PySem.W.mg_of X G a_law_share, k_law_share, D_law_share.bindsN (fun _ _ _ _ _ _ us hl => match us, hl with | [_, _], _ => rfl), .nil, fun _ => .nil⟩
  have W_plus : FnG l.prog w K mg base (CXM l.prog w) _ _ _ _ _ := w_plus D_plus h_share_of
  have h_plus : Has l.prog w K mg base 3 "plus" 2 [] mf_plus := ⟨_, _, _, [], [], W_plus, PySem.W.mg_of X G a_plus, k_plus, D_plus.bindsN (fun _ _ _ _ _ _ us hl => match us, hl with | [_, _], _ => rfl), .nil, fun _ => .nil⟩
  have h_plus_k0_other_share : HasK l.prog w K mg base 3 "plus" 2 0 ["other", "share"] [.inr 1, .inr 0] mf_plus := ⟨⟨_, _, _, W_plus, PySem.W.mg_of X G a_plus, k_plus, rfl, dn_kw D_plus fun _ _ _ _ _ _ us ws l1 l2 => match us, ws, l1, l2 with | [], [_, _], _, _ => rfl⟩⟩
  have W_less : FnG l.prog w K mg base (CXM l.prog w) _ _ _ _ _ := w_less D_less h_share_of
  have h_less : Has l.prog w K mg base 3 "less" 2 [] mf_less := ⟨_, _, _, [], [], W_less, PySem.W.mg_of X G a_less, k_less, D_less.bindsN (fun _ _ _ _ _ _ us hl => match us, hl with | [_, _], _ => rfl), .nil, fun _ => .nil⟩
  have h_less_k0_other_share : HasK l.prog w K mg base 3 "less" 2 0 ["other", "share"] [.inr 1, .inr 0] mf_less := ⟨⟨_, _, _, W_less, PySem.W.mg_of X G a_less, k_less, rfl, dn_kw D_less fun _ _ _ _ _ _ us ws l1 l2 => match us, ws, l1, l2 with | [], [_, _], _, _ => rfl⟩⟩
  have W_times : FnG l.prog w K mg base (CXM l.prog w) _ _ _ _ _ := w_times D_times h_share_of
  have h_times : Has l.prog w K mg base 3 "times" 2 [] mf_times := ⟨_, _, _, [], [], W_times, PySem.W.mg_of X G a_times, k_times, D_times.bindsN (fun _ _ _ _ _ _ us hl => match us, hl with | [_, _], _ => rfl), .nil, fun _ => .nil⟩
  have h_times_k0_share_other : HasK l.prog w K mg base 3 "times" 2 0 ["share", "other"] [.inr 0, .inr 1] mf_times := ⟨⟨_, _, _, W_times, PySem.W.mg_of X G a_times, k_times, rfl, dn_kw D_times fun _ _ _ _ _ _ us ws l1 l2 => match us, ws, l1, l2 with | [], [_, _], _, _ => rfl⟩⟩
  have W_over : FnG l.prog w K mg base (CXM l.prog w) _ _ _ _ _ := w_over D_over h_share_of_x
  have h_over_k0_other_share : HasK l.prog w K mg base 3 "over" 2 0 ["other", "share"] [.inr 1, .inr 0] mf_over := ⟨⟨_, _, _, FnG.sub (mf' := mx_over) sub_over W_over, PySem.W.mg_of X G a_over, k_over, rfl, dn_kw D_over fun _ _ _ _ _ _ us ws l1 l2 => match us, ws, l1, l2 with | [], [_, _], _, _ => rfl⟩⟩
  have h_over_x : Has l.prog w K mg base 3 "over" 2 [] mx_over := ⟨_, _, _, [], [], W_over, PySem.W.mg_of X G a_over, k_over, D_over.bindsN (fun _ _ _ _ _ _ us hl => match us, hl with | [_, _], _ => rfl), .nil, fun _ => .nil⟩
  have W_law_plus : FnG l.prog w K mg base (CXM l.prog w) _ _ _ _ _ := w_law_plus D_law_plus h_law_share
  have h_law_plus : Has l.prog w K mg base 3 "_law_plus" 2 [] mf_law_plus := ⟨_, _, _, [], [], W_law_plus, PySem.W.mg_of X G a_law_plus, k_law_plus, D_law_plus.bindsN (fun _ _ _ _ _ _ us hl => match us, hl with | [_, _], _ => rfl), .nil, fun _ => .nil⟩
  have W_law_less : FnG l.prog w K mg base (CXM l.prog w) _ _ _ _ _ := w_law_less D_law_less h_law_share
  have h_law_less : Has l.prog w K mg base 3 "_law_less" 2 [] mf_law_less := ⟨_, _, _, [], [], W_law_less, PySem.W.mg_of X G a_law_less, k_law_less, D_law_less.bindsN (fun _ _ _ _ _ _ us hl => match us, hl with | [_, _], _ => rfl), .nil, fun _ => .nil⟩
  have W_law_times : FnG l.prog w K mg base (CXM l.prog w) _ _ _ _ _ := w_law_times D_law_times h_law_share
  have h_law_times : Has l.prog w K mg base 3 "_law_times" 2 [] mf_law_times := ⟨_, _, _, [], [], W_law_times, PySem.W.mg_of X G a_law_times, k_law_times, D_law_times.bindsN (fun _ _ _ _ _ _ us hl => match us, hl with | [_, _], _ => rfl), .nil, fun _ => .nil⟩
  have W_law_any : FnG l.prog w K mg base (CXM l.prog w) _ _ _ _ _ := w_law_any D_law_any b_int h_law_draw h_law_share
  have h_law_any : HasQ l.prog w K mg base 3 "_law_any" 1 mq_law_any := ⟨_, _, _, W_law_any, PySem.W.mg_of X G a_law_any, k_law_any, D_law_any.bindsN fun _ _ _ _ _ _ us hl => match us, hl with | [_], _ => rfl⟩
  have W_law_over_right : FnG l.prog w K mg base (CXM l.prog w) _ _ _ _ _ := w_law_over_right D_law_over_right b_repr x_NoShare xm_NoShare_NoShare h_over_x h_law_share h_over_k0_other_share
  have h_law_over_right : Has l.prog w K mg base 4 "_law_over_right" 2 [] mf_law_over_right := ⟨_, _, _, [], [], W_law_over_right, PySem.W.mg_of X G a_law_over_right, k_law_over_right, D_law_over_right.bindsN (fun _ _ _ _ _ _ us hl => match us, hl with | [_, _], _ => rfl), .nil, fun _ => .nil⟩
  have W_law_right : FnG l.prog w K mg base (CXM l.prog w) _ _ _ _ _ := w_law_right D_law_right b_repr h_law_below h_law_times h_law_less h_law_plus h_is_less h_times h_less h_plus h_is_less_k0_other_share h_times_k0_share_other h_less_k0_other_share h_plus_k0_other_share h_law_over_right
  have h_law_right : Has l.prog w K mg base 5 "_law_right" 2 [] mf_law_right := ⟨_, _, _, [], [], W_law_right, PySem.W.mg_of X G a_law_right, k_law_right, D_law_right.bindsN (fun _ _ _ _ _ _ us hl => match us, hl with | [_, _], _ => rfl), .nil, fun _ => .nil⟩
  exact w_law D_law b_list b_range h_law_draw h_law_right h_law_any h_law_share
end K02

set_option Elab.async false
set_option linter.all false
set_option maxRecDepth 100000
open PySem PySem.W PyProof.Rows
set_option maxHeartbeats 0 in
theorem PySem.Challenge.cw_crossmarks_k02_shares_reckoned_holds : PySem.Challenge.rw_crossmarks_k02_shares_reckoned.Holds := by
  w_on; o_law; k_head; (case hw => w_witness2)
  k_fill
  refine Xm.walkG (l := PySem.Challenge.rw_crossmarks_k02_shares_reckoned) (n := 63) (k := 6) (x := "_law_script") (mf := K02.mf_law) rfl (by decide) rfl ⟨rfl, by decide, by decide⟩ (fun w h Y => PySem.W.kIn_of Y) ?F K02.law_true
  case F =>
    intro w mg fa h KX G hmg
    refine' K02.all_mk KX G hmg ?a_common ?l_common ?c_common ?k_common ?a_is_less ?l_is_less ?c_is_less ?k_is_less ?a_law_draw ?l_law_draw ?c_law_draw ?k_law_draw ?a_law_common ?l_law_common ?c_law_common ?k_law_common ?a_law_below ?l_law_below ?c_law_below ?k_law_below ?a_share_of ?l_share_of ?c_share_of ?k_share_of ?q_share_of ?a_law_share ?l_law_share ?c_law_share ?k_law_share ?a_plus ?l_plus ?c_plus ?k_plus ?a_less ?l_less ?c_less ?k_less ?a_times ?l_times ?c_times ?k_times ?a_over ?l_over ?c_over ?k_over ?a_law_plus ?l_law_plus ?c_law_plus ?k_law_plus ?a_law_less ?l_law_less ?c_law_less ?k_law_less ?a_law_times ?l_law_times ?c_law_times ?k_law_times ?a_law_any ?l_law_any ?c_law_any ?k_law_any ?a_law_over_right ?l_law_over_right ?c_law_over_right ?k_law_over_right ?a_law_right ?l_law_right ?c_law_right ?k_law_right ?a_law ?l_law ?c_law ?k_law ?z_abs ?z_int ?z_len ?z_list ?z_range ?z_repr ?aX_NoShare ?lX_NoShare ?nX_NoShare ?rX_NoShare ?iX_NoShare ?kX_NoShare ?sX_NoShare ?tX_NoShare ?jX_NoShare ?sX_NoShare_NoShare
    (case a_common => k_is); (case l_common => k_is); (case c_common => k_is); (case k_common => k_is); (case a_is_less => k_is); (case l_is_less => k_is); (case c_is_less => k_is); (case k_is_less => k_is); (case a_law_draw => k_is); (case l_law_draw => k_is); (case c_law_draw => k_is); (case k_law_draw => k_is); (case a_law_common => k_is); (case l_law_common => k_is); (case c_law_common => k_is); (case k_law_common => k_is); (case a_law_below => k_is); (case l_law_below => k_is); (case c_law_below => k_is); (case k_law_below => k_is); (case a_share_of => k_is); (case l_share_of => k_is); (case c_share_of => k_is); (case k_share_of => k_is); (case q_share_of => k_is); (case a_law_share => k_is); (case l_law_share => k_is); (case c_law_share => k_is); (case k_law_share => k_is); (case a_plus => k_is); (case l_plus => k_is); (case c_plus => k_is); (case k_plus => k_is); (case a_less => k_is); (case l_less => k_is); (case c_less => k_is); (case k_less => k_is); (case a_times => k_is); (case l_times => k_is); (case c_times => k_is); (case k_times => k_is); (case a_over => k_is); (case l_over => k_is); (case c_over => k_is); (case k_over => k_is); (case a_law_plus => k_is); (case l_law_plus => k_is); (case c_law_plus => k_is); (case k_law_plus => k_is); (case a_law_less => k_is); (case l_law_less => k_is); (case c_law_less => k_is); (case k_law_less => k_is); (case a_law_times => k_is); (case l_law_times => k_is); (case c_law_times => k_is); (case k_law_times => k_is); (case a_law_any => k_is); (case l_law_any => k_is); (case c_law_any => k_is); (case k_law_any => k_is); (case a_law_over_right => k_is); (case l_law_over_right => k_is); (case c_law_over_right => k_is); (case k_law_over_right => k_is); (case a_law_right => k_is); (case l_law_right => k_is); (case c_law_right => k_is); (case k_law_right => k_is); (case a_law => k_is); (case l_law => k_is); (case c_law => k_is); (case k_law => k_is); (case z_abs => k_is); (case z_int => k_is); (case z_len => k_is); (case z_list => k_is); (case z_range => k_is); (case z_repr => k_is); (case aX_NoShare => k_is); (case lX_NoShare => k_is); (case nX_NoShare => k_is); (case rX_NoShare => rfl); (case iX_NoShare => k_is); (case kX_NoShare => k_is); (case sX_NoShare => k_is); (case tX_NoShare => k_is); (case jX_NoShare => k_is); (case sX_NoShare_NoShare => k_is)
