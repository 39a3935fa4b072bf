import PyProof.Rows.All
import Wide.All
import OpenK.AllK
import Wide.FinOn
import HandS.ForMost
import HandS.Wide
import HandS.EndBits
import HandS.ForExc
import HandS.NoneIn
import HandS.Lambda
import KE.KDictKeyed
import KE.KDictWalk
import HandS.TupAny
import HandS.TupMul
import HandS.Dict
import HandS.TupLen
import PyProof.Rows.SeqItemCall
import KE.DataEq
import HandS.Deep
import HandS.Style
import HandS.Defaults
import PyProof.ReprRoads
import PyProof.ReprLen
import HandS.SortInts
import KE.SortData
import HandS.Zip
import HandS.AnyAll
import HandS.IsInst
import HandS.Iter
import KE.DataFind
import HandS.Conv
import HandS.ExcOwn
import HandS.TryOnly
import PyProof.ExcBaseAll.ZeroDivisionError
import HandS.Flow
import KE.KDictCopyH
import HandS.DictComp
import KE.DataMinMax
import KE.GoesEnum
import HandS.TupLe
import HandS.Sort
import PyProof.StrLawsRepr
import KE.KTryMore
import HandS.ExcValue
import KE.KExcIs
import HandS.ExcIs
import HandS.ExcField
import KE.KUnpackStar
import KE.GoesMore
import KE.GoesEnumKw
import HandS.SortKw
import KE.KDictItemsList
import KE.KDictPairs
import HandS.EndTab
import KE.KNestM
import HandS.Exc
import HandS.ExcInit
import KE.KExcInit
import PyProof.ExcBaseAll.LookupError
import HandS.ClsMeth
import HandS.Set
import PySem.Challenge.RW_crossmarks_k01_shares_known_and_made
set_option Elab.async false
set_option linter.all false
set_option maxRecDepth 100000
namespace Xm
open PySem PySem.Spec PyProof.Rows L2
abbrev D := PyData
structure Kx where
  K : PySem.W.Frag
  P : Program
  w : World
  mg : Str → Option Value
abbrev kxOf (X : Cx) : Kx := ⟨X.K, X.prog, X.w, X.mg⟩
structure Ex where
  cls : Str
  fs : List (Str × D)
inductive Ob where
  | nkd (ps : List (Option Key × D))
  | exc (x : Ex)
  | fnc (a : Addr)
inductive Slot where
  | no
  | dat (d : D)
  | own (xs : List D)
  | pen (xs : List D)
  | dct (kvs : List (D × D))
  | pdc (kvs : List (D × D))
  | obj (o : Ob)
abbrev AS := List Slot
abbrev EF := AS → Option (D × AS)
abbrev BF := AS → Option (Bool × AS)
abbrev LF := AS → Option (List D × AS)
structure Ct where
  H0 : Hp
  F0 : Hp
  pen : Option Addr
  W : WX
  tb : Option Str := none
theorem same_rd {F G : Hp} {a : Addr} {u : HO} (e : Same F G) (h : Rd F a u) : Rd G a u := by
  rcases h with h | ⟨o, h⟩
  · exact .inl (e _ _ h)
  · exact .inr ⟨o, e _ _ h⟩
def TupQ (K : PySem.W.Frag) (H : Hp) (a : Addr) (xs : List V) : Prop :=
  (∃ o : Obj, H a = some (.frz o (.tup xs)) ∧ o.dict = none) ∨
    ∃ (o : Obj) (its : Array Value) (n : Nat), K.lookup a = some o ∧ o.cls = .type "tuple" ∧ o.dict = none ∧ o.data = .seq its n ∧ its.size ≤ sizeLine ∧ Vals xs its.toList
theorem TupQ.sq {K : PySem.W.Frag} {H : Hp} {a : Addr} {xs : List V} (h : TupQ K H a xs) : SqT K H a xs := by
  rcases h with ⟨o, h, _⟩ | ⟨o, its, n, h1, h2, _, h3, h4, h5⟩
  · exact .inl (.inr ⟨o, h⟩)
  · exact .inr ⟨o, its, n, h1, h2, h3, h4, h5⟩
theorem TupQ.up {K : PySem.W.Frag} {F G : Hp} {a : Addr} {xs : List V} (h : TupQ K F a xs) (e : Same F G) : TupQ K G a xs := by
  rcases h with ⟨o, h, d⟩ | h
  · exact .inl ⟨o, e _ _ h, d⟩
  · exact .inr h
theorem sqt_up {K : Kx} {F G : Hp} {a : Addr} {xs : List V} (e : Same F G) (h : TupQ K.K F a xs) : SqT K.K G a xs := (h.up e).sq
abbrev tupO (its : List Value) : Obj := { cls := .type "tuple", data := .seq its.toArray }
theorem TupQ.new {K : PySem.W.Frag} {H : Hp} {a : Addr} {xs : List V} {its : List Value} (h : H a = some (.frz (tupO its) (.tup xs))) : TupQ K H a xs := .inl ⟨_, h, rfl⟩
theorem tupN_ok {P : Program} {w : World} {H : Hp} {h : Heap} {a : Addr} {xs : List V} {its : List Value} (hz : xs.length ≤ sizeLine) (r : Vals xs its) (e : h.get? a = some (tupO its)) : ObjOk P w H h a (.frz (tupO its) (.tup xs)) := ⟨e, hz, its, r, ⟨_, e, rfl, _, rfl⟩⟩
theorem sql_up {K : Kx} {F G : Hp} {a : Addr} {xs : List V} (e : Same F G) (h : SqL K.K F a xs) : SqL K.K G a xs := by
  rcases h with h | h
  · exact .inl (same_rd e h)
  · exact .inr h
mutual
def keyOf : D → Option NestedKey
  | .none => some .none
  | .bool b => some (.num (if b = true then 1 else 0))
  | .int i => some (.num i)
  | .str x => some (.text x)
  | .tuple ds => (keysOf ds).map .tup
  | .list _ => none
  | .dict _ => none
def keysOf : List D → Option (List NestedKey)
  | [] => some []
  | d :: ds => (keyOf d).bind fun k => (keysOf ds).map (k :: ·)
end
def keyD : Key → D
  | .inl i => .int i
  | .inr x => .str x
abbrev Row := NestedKey × Addr × V
def dtO (K : Kx) (a : Addr) (rows : List Row) : HO := .ext fun h => (a == sysModules) = false ∧ (rows.map (·.1)).Nodup ∧ ∃ (o : Obj) (es : Array DictEntry) (ep : Nat) (xs : List (NestedKey × Addr × Value)),
  h.get? a = some o ∧ o.ExactDict ∧ o.data = .dict es ep ∧ es.toList = xs.map (entryOfKey (nestedKind K.P K.w)) ∧ Paired (fun (r : Row) (x : NestedKey × Addr × Value) => r.1 = x.1 ∧ r.2.1 = x.2.1 ∧ RelV r.2.2 x.2.2) rows xs
mutual
inductive Dp (K : Kx) (H : Hp) : V → D → Prop
  | non : Dp K H .non .none
  | bl (b : Bool) : Dp K H (.bl b) (.bool b)
  | int (i : Int) : Dp K H (.int i) (.int i)
  | str (x : Str) : Dp K H (.str x) (.str x)
  | lst {a : Addr} {xs : List V} {ds : List D} : SqL K.K H a xs → DpAll K H xs ds → Dp K H (.ref a) (.list ds)
  | tup {a : Addr} {xs : List V} {ds : List D} : TupQ K.K H a xs → DpAll K H xs ds → Dp K H (.ref a) (.tuple ds)
  | dtp {a : Addr} {od : Obj} {rows : List Row} {kvs : List (D × D)} {ks vs : List D} {ws : List V} : H a = some (.frz od (dtO K a rows)) → ks = kvs.map (·.1) → vs = kvs.map (·.2) → rows.length ≤ sizeLine → keysOf ks = some (rows.map (·.1)) → (∀ r ∈ rows, r.1.depth ≤ 8) →
      ws = rows.map (fun r => V.ref r.2.1) → DpAll K H ws ks → DpAll K H (rows.map (·.2.2)) vs → Dp K H (.ref a) (.dict kvs)
  | dky {a : Addr} {od : Obj} {ps : List (Key × V)} {kvs : List (D × D)} {vs : List D} : H a = some (.frz od (.dK ps)) → kvs.map (·.1) = ps.map (fun p => keyD p.1) → vs = kvs.map (·.2) → ps.length ≤ sizeLine → DpAll K H (ps.map (·.2)) vs → Dp K H (.ref a) (.dict kvs)
inductive DpAll (K : Kx) (H : Hp) : List V → List D → Prop
  | nil : DpAll K H [] []
  | cons {v : V} {vs : List V} {d : D} {ds : List D} : Dp K H v d → DpAll K H vs ds → DpAll K H (v :: vs) (d :: ds)
end
mutual
theorem Dp_up {K : Kx} {F G : Hp} {d : D} {v : V} (h : Dp K F v d) (e : Same F G) : Dp K G v d := match h with
  | .non => .non
  | .bl b => .bl b
  | .int i => .int i
  | .str x => .str x
  | .lst hs ha => .lst (sql_up e hs) (DpAll_up ha e)
  | .tup hs ha => .tup (hs.up e) (DpAll_up ha e)
  | .dtp ha e1 e2 hl hk hd e3 h1 h2 => .dtp (e _ _ ha) e1 e2 hl hk hd e3 (DpAll_up h1 e) (DpAll_up h2 e)
  | .dky ha e1 e2 hl h2 => .dky (e _ _ ha) e1 e2 hl (DpAll_up h2 e)
theorem DpAll_up {K : Kx} {F G : Hp} {ds : List D} {vs : List V} (h : DpAll K F vs ds) (e : Same F G) : DpAll K G vs ds := match h with
  | .nil => .nil
  | .cons h1 h2 => .cons (Dp_up h1 e) (DpAll_up h2 e)
end
theorem DpAll_len {K : Kx} {F : Hp} : ∀ {vs : List V} {ds : List D}, DpAll K F vs ds → vs.length = ds.length
  | _, _, .nil => rfl
  | _, _, .cons _ h => by simp [DpAll_len h]
theorem DpAll_get {K : Kx} {F : Hp} : ∀ {vs : List V} {ds : List D} {i : Nat} {d : D}, DpAll K F vs ds → ds[i]? = some d → ∃ v, vs[i]? = some v ∧ Dp K F v d
  | _, _, _, _, .nil, e => by simp at e
  | _, _, 0, _, .cons h _, e => by simp at e; subst e; exact ⟨_, rfl, h⟩
  | _, _, i + 1, _, .cons _ h, e => by
    obtain ⟨v, h1, h2⟩ := DpAll_get (i := i) h (by simpa using e)
    exact ⟨v, by simpa using h1, h2⟩
theorem DpAll_app {K : Kx} {F : Hp} : ∀ {vs us : List V} {ds es : List D}, DpAll K F vs ds → DpAll K F us es → DpAll K F (vs ++ us) (ds ++ es)
  | _, _, _, _, .nil, h => h
  | _, _, _, _, .cons h1 h2, h => .cons h1 (DpAll_app h2 h)
theorem DpAll_set {K : Kx} {F : Hp} : ∀ {vs : List V} {ds : List D} {v : V} {d : D} (i : Nat), DpAll K F vs ds → Dp K F v d → DpAll K F (vs.set i v) (ds.set i d)
  | _, _, _, _, _, .nil, _ => .nil
  | _, _, _, _, 0, .cons _ h2, h => .cons h h2
  | _, _, _, _, i + 1, .cons h1 h2, h => .cons h1 (DpAll_set i h2 h)
theorem DpAll_take {K : Kx} {F : Hp} : ∀ {vs : List V} {ds : List D} (n : Nat), DpAll K F vs ds → DpAll K F (vs.take n) (ds.take n)
  | _, _, 0, _ => .nil
  | _, _, _ + 1, .nil => .nil
  | _, _, n + 1, .cons h1 h2 => .cons h1 (DpAll_take n h2)
theorem DpAll_drop {K : Kx} {F : Hp} : ∀ {vs : List V} {ds : List D} (n : Nat), DpAll K F vs ds → DpAll K F (vs.drop n) (ds.drop n)
  | _, _, 0, h => h
  | _, _, _ + 1, .nil => .nil
  | _, _, n + 1, .cons h1 h2 => DpAll_drop n h2
structure Gr (F H F' H' : Hp) : Prop where
  ff : Same F F'
  fh : Same F' H'
  hh : Same H H'
  nw : ∀ a, F' a ≠ none → F a ≠ none ∨ H a = none
theorem Gr.refl {F H : Hp} (e : Same F H) : Gr F H F H := ⟨Same.refl _, e, Same.refl _, fun _ h => .inl h⟩
theorem Gr.trans {F H F1 H1 F2 H2 : Hp} (a : Gr F H F1 H1) (b : Gr F1 H1 F2 H2) : Gr F H F2 H2 :=
  ⟨a.ff.trans b.ff, b.fh, a.hh.trans b.hh, fun x h => (b.nw x h).elim (a.nw x) fun e => .inr (a.hh.free e)⟩
theorem same_upd {H : Hp} {p : Addr} {o : HO} (h : H p = none) : Same H (upd H p o) := fun b x e => by
  rw [upd_ne (ne_of_none e h)]
  exact e
theorem upd_mono {F H : Hp} {p : Addr} {o : HO} (e : Same F H) (h : H p = none) : Same (upd F p o) (upd H p o) := fun b x q => by
  by_cases hb : b = p
  · subst hb
    rw [upd_same] at q ⊢
    exact q
  · rw [upd_ne hb] at q ⊢
    exact e b x q
theorem Gr.new {F H : Hp} {p : Addr} {o : HO} (e : Same F H) (h : H p = none) : Gr F H (upd F p o) (upd H p o) :=
  ⟨same_upd (e.free h), upd_mono e h, same_upd h, fun a q => by
    by_cases ha : a = p
    · subst ha; exact .inr h
    · rw [upd_ne ha] at q; exact .inl q⟩
def Lst (K : Kx) (F H : Hp) (a : Addr) (xs : List D) : Prop := F a = none ∧ ∃ vs, H a = some (.lst vs) ∧ DpAll K F vs xs
def DR (K : Kx) (F : Hp) (a : Addr) (u : HO) (kvs : List (D × D)) : Prop :=
  (∃ rows : List Row, u = dtO K a rows ∧ rows.length ≤ sizeLine ∧ keysOf (kvs.map (·.1)) = some (rows.map (·.1)) ∧ (∀ r ∈ rows, r.1.depth ≤ 8) ∧ DpAll K F (rows.map fun r => V.ref r.2.1) (kvs.map (·.1)) ∧ DpAll K F (rows.map (·.2.2)) (kvs.map (·.2))) ∨
  ∃ ps : List (Key × V), u = .dK ps ∧ kvs.map (·.1) = ps.map (fun p => keyD p.1) ∧ ps.length ≤ sizeLine ∧ DpAll K F (ps.map (·.2)) (kvs.map (·.2))
def Dct (K : Kx) (F H : Hp) (a : Addr) (kvs : List (D × D)) : Prop := F a = none ∧ ∃ u, H a = some u ∧ DR K F a u kvs
theorem DR.up {K : Kx} {F G : Hp} {a : Addr} {u : HO} {kvs : List (D × D)} (h : DR K F a u kvs) (e : Same F G) : DR K G a u kvs := by
  rcases h with ⟨rows, h1, h2, h3, h4, h5, h6⟩ | ⟨ps, h1, h2, h3, h4⟩
  · exact .inl ⟨rows, h1, h2, h3, h4, DpAll_up h5 e, DpAll_up h6 e⟩
  · exact .inr ⟨ps, h1, h2, h3, DpAll_up h4 e⟩
theorem DR.dp {K : Kx} {F G : Hp} {a : Addr} {u : HO} {od : Obj} {kvs : List (D × D)} (h : DR K F a u kvs) (e : Same F G) (ha : G a = some (.frz od u)) : Dp K G (.ref a) (.dict kvs) := by
  rcases h with ⟨rows, rfl, h2, h3, h4, h5, h6⟩ | ⟨ps, rfl, h2, h3, h4⟩
  · exact .dtp ha rfl rfl h2 h3 h4 rfl (DpAll_up h5 e) (DpAll_up h6 e)
  · exact .dky ha h2 rfl h3 (DpAll_up h4 e)
def ExOk (K : Kx) (F : Hp) (x : Ex) (cls : Value) (d : Option Addr) : Prop :=
  K.mg x.cls = some cls ∧ ((x.fs = [] ∧ d = none) ∨ ∃ (dd : Addr) (fs : List (Str × V)), d = some dd ∧ F dd = some (.xd fs) ∧ fs.map (·.1) = x.fs.map (·.1) ∧ DpAll K F (fs.map (·.2)) (x.fs.map (·.2)))
theorem ExOk.up {K : Kx} {F G : Hp} {x : Ex} {cls : Value} {d : Option Addr} (h : ExOk K F x cls d) (e : Same F G) : ExOk K G x cls d := by
  obtain ⟨h1, h2 | ⟨dd, fs, e1, e2, e3, e4⟩⟩ := h
  · exact ⟨h1, .inl h2⟩
  · exact ⟨h1, .inr ⟨dd, fs, e1, e _ _ e2, e3, DpAll_up e4 e⟩⟩
def keptO (cls : Value) (d : Option Addr) (a : Addr) : HO := .ext fun h => ∃ (oe : Obj) (vs : Array Value), h.get? a = some oe ∧ Zc cls d oe ∧ oe.data = .fields vs
def nkO (K : Kx) (a : Addr) (rows : List (Option Key × V)) : HO := .ext fun h => (a == sysModules) = false ∧ ∃ vs : List (Option Key × Value), Paired (fun (r : Option Key × V) (v : Option Key × Value) => r.1 = v.1 ∧ RelV r.2 v.2) rows vs ∧ h.DictOf (noneKind K.P K.w) a vs
def ObOk (K : Kx) (F : Hp) (a : Addr) : Ob → Prop
  | .nkd ps => ∃ (od : Obj) (rows : List (Option Key × V)), F a = some (.frz od (nkO K a rows)) ∧ rows.map (·.1) = ps.map (·.1) ∧ DpAll K F (rows.map (·.2)) (ps.map (·.2))
  | .exc x => ∃ (cls : Value) (d : Option Addr), F a = some (keptO cls d a) ∧ ExOk K F x cls d
  | .fnc f => a = f
theorem ObOk.up {K : Kx} {F G : Hp} {a : Addr} : ∀ {o : Ob}, ObOk K F a o → Same F G → ObOk K G a o
  | .nkd ps, ⟨od, rows, h1, h2, h3⟩, e => ⟨od, rows, e _ _ h1, h2, DpAll_up h3 e⟩
  | .exc x, ⟨cls, d, h1, h2⟩, e => ⟨cls, d, e _ _ h1, h2.up e⟩
  | .fnc f, h, _ => h
def SlotOk (K : Kx) (C : Ct) (F H : Hp) : Slot → Option (Option V) → Prop
  | .no, _ => True
  | .dat d, x => ∃ v, x = some (some v) ∧ Dp K F v d
  | .own xs, x => ∃ a, x = some (some (.ref a)) ∧ C.H0 a = none ∧ Lst K F H a xs
  | .pen xs, x => ∃ a, x = some (some (.ref a)) ∧ C.pen = some a ∧ Lst K F H a xs
  | .dct kvs, x => ∃ a, x = some (some (.ref a)) ∧ C.H0 a = none ∧ Dct K F H a kvs
  | .pdc kvs, x => ∃ a, x = some (some (.ref a)) ∧ C.pen = some a ∧ Dct K F H a kvs
  | .obj o, x => ∃ a, x = some (some (.ref a)) ∧ ObOk K F a o
def Slot.mu : Slot → Bool
  | .no => false
  | .dat _ => false
  | .own _ => true
  | .pen _ => true
  | .dct _ => true
  | .pdc _ => true
  | .obj _ => false
def Mu (st : AS) (i : Nat) : Prop := ∃ s : Slot, st[i]? = some s ∧ s.mu = true
def TabOk (C : Ct) (F H : Hp) : Prop := ∀ q, C.tb = some q → ∃ (P : Addr) (ps : Array Value), C.pen = some P ∧ C.F0 P = none ∧ H P = some (.tbl ps) ∧ TriplesOk ps.toList ∧ ∀ (pos : Pos) (cv : Value), codeAmong pos ps.toList = some cv → ∃ c, cv = .ref c ∧ F c = some (LamX.CodeO c q)
theorem TabOk.up {C : Ct} {F F' H H' : Hp} (h : TabOk C F H) (ff : Same F F') (hh : ∀ P ps, C.pen = some P → H P = some (.tbl ps) → H' P = some (.tbl ps)) : TabOk C F' H' := fun q e => by
  obtain ⟨P, ps, h1, h2, h4, h5, h6⟩ := h q e
  refine ⟨P, ps, h1, h2, hh P ps h1 h4, h5, fun pos cv hc => ?_⟩
  obtain ⟨c, e1, e2⟩ := h6 pos cv hc
  exact ⟨c, e1, ff _ _ e2⟩
structure Rel (K : Kx) (C : Ct) (F : Hp) (st : AS) (σ : L2.St) (H : Hp) : Prop where
  len : st.length = σ.length
  f0 : Same C.F0 F
  fh : Same F H
  old : ∀ a o, C.H0 a = some o → C.pen ≠ some a → H a = some o
  new : ∀ a, C.F0 a = none → C.H0 a ≠ none → F a = none
  slot : ∀ (i : Nat) (s : Slot), st[i]? = some s → SlotOk K C F H s σ[i]?
  apart : ∀ (i j : Nat) (a : Addr), Mu st i → Mu st j → σ[i]? = some (some (.ref a)) → σ[j]? = some (some (.ref a)) → i = j
  penh : ∀ p, C.pen = some p → C.H0 p ≠ none
  pent : ∀ p, C.pen = some p → H p ≠ none
  tab : TabOk C F H
section
variable {K : Kx} {C : Ct} {F F' H H' : Hp} {st : AS} {σ : L2.St}
theorem Lst.grow {a : Addr} {xs : List D} (h : Lst K F H a xs) (g : Gr F H F' H') : Lst K F' H' a xs := by
  obtain ⟨h1, vs, h2, h3⟩ := h
  refine ⟨?_, vs, g.hh _ _ h2, DpAll_up h3 g.ff⟩
  cases e : F' a with
  | none => rfl
  | some o =>
    rcases g.nw a (by rw [e]; simp) with z | z
    · exact absurd h1 z
    · rw [h2] at z; cases z
theorem Dct.grow {a : Addr} {kvs : List (D × D)} (h : Dct K F H a kvs) (g : Gr F H F' H') : Dct K F' H' a kvs := by
  obtain ⟨h1, u, h2, h3⟩ := h
  refine ⟨?_, u, g.hh _ _ h2, h3.up g.ff⟩
  cases e : F' a with
  | none => rfl
  | some o =>
    rcases g.nw a (by rw [e]; simp) with z | z
    · exact absurd h1 z
    · rw [h2] at z; cases z
theorem Rel.grow (R : Rel K C F st σ H) (g : Gr F H F' H') : Rel K C F' st σ H' where
  len := R.len
  f0 := R.f0.trans g.ff
  fh := g.fh
  old := fun a o h hp => g.hh _ _ (R.old a o h hp)
  new := fun a h0 h1 => by
    have hF := R.new a h0 h1
    cases e : F' a with
    | none => rfl
    | some o =>
      rcases g.nw a (by rw [e]; simp) with z | z
      · exact absurd hF z
      · by_cases hp : C.pen = some a
        · exfalso
          exact R.pent a hp z
        · cases q : C.H0 a with
          | none => exact absurd q h1
          | some u => rw [R.old a u q hp] at z; cases z
  slot := fun i s h => by
    have q := R.slot i s h
    cases s with
    | no => trivial
    | dat d =>
      obtain ⟨v, h1, h2⟩ := q
      exact ⟨v, h1, Dp_up h2 g.ff⟩
    | own xs =>
      obtain ⟨a, h1, h2, h3⟩ := q
      exact ⟨a, h1, h2, h3.grow g⟩
    | pen xs =>
      obtain ⟨a, h1, h2, h3⟩ := q
      exact ⟨a, h1, h2, h3.grow g⟩
    | dct kvs =>
      obtain ⟨a, h1, h2, h3⟩ := q
      exact ⟨a, h1, h2, h3.grow g⟩
    | pdc kvs =>
      obtain ⟨a, h1, h2, h3⟩ := q
      exact ⟨a, h1, h2, h3.grow g⟩
    | obj o =>
      obtain ⟨a, h1, h2⟩ := q
      exact ⟨a, h1, h2.up g.ff⟩
  apart := R.apart
  penh := R.penh
  pent := fun p hp => by
    cases e : H p with
    | none => exact absurd e (R.pent p hp)
    | some o => rw [g.hh _ _ e]; simp
  tab := R.tab.up g.ff fun P ps _ e => g.hh _ _ e
end
end Xm
set_option Elab.async false
set_option linter.all false
set_option maxRecDepth 100000
set_option maxHeartbeats 2000000
namespace Xm
open PySem PySem.Spec PyProof.Rows L2
section
variable {X : Cx}
def rSlN (K : PySem.W.Frag) : V → Option Int → Option Int → Hp → VK → Prop := fun x lo hi H Q => ∃ a xs, x = .ref a ∧ SqT K H a xs ∧
  (HT.sIx xs.length 0 lo = 0 ∧ HT.sIx xs.length xs.length hi = xs.length → Q (.ref a) H) ∧ (¬ (HT.sIx xs.length 0 lo = 0 ∧ HT.sIx xs.length xs.length hi = xs.length) → ∀ (p : Addr) (its : List Value), H p = none → Q (.ref p) (upd H p (.frz (tupO its) (.tup (cutV xs lo hi)))))
theorem sl_tupN : SlR X (rSlN X.K) := by
  intro pins s σ H x v vl vu lo hi sl Q I rx hs pl pu h
  obtain ⟨a, xs, rfl, hx, q1, q2⟩ := h
  cases rx
  obtain ⟨its, r, ht, hz⟩ := I.tuple hx
  have hlen : its.toArray.size = xs.length := by rw [List.size_toArray]; exact r.length.symm
  refine ⟨"tuple", _, PyProof.Rows.slot_tuple_getitem.lookup, ht.typeIs, ?_⟩
  by_cases hw : HT.sIx xs.length 0 lo = 0 ∧ HT.sIx xs.length xs.length hi = xs.length
  · exact getItem_tuple_whole ht hs pl pu (by rw [hlen]; exact hw) ⟨.ref a, H, I, rfl, q1 hw⟩
  · refine HT.getItem_tuple_cut ht hs pl pu (by rw [hlen]; exact hw) ?_ (by rw [hlen]; exact hz)
    rw [hlen]
    exact ⟨.ref s.heap.objs.size, _, I.laid (t' := s.toks) (fun b ob q => Heap.get?_push_of_some _ q) (Nat.le_refl _) (tupN_ok (Nat.le_trans (cutV_length xs lo hi) hz) ((r.drop (HT.sIx xs.length 0 lo)).take (HT.sIx xs.length xs.length hi - HT.sIx xs.length 0 lo)) (Heap.get?_push_size _ rfl)), rfl, q2 hw _ _ (I.hok.fresh (Nat.le_refl _))⟩
def rCatN (K : PySem.W.Frag) : R2 := fun x y H Q => ∃ a b xs ys, x = .ref a ∧ y = .ref b ∧ SqT K H a xs ∧ SqT K H b ys ∧ xs.length + ys.length ≤ sizeLine ∧
  (xs = [] → Q (.ref b) H) ∧ (xs ≠ [] → ys = [] → Q (.ref a) H) ∧ (xs ≠ [] → ys ≠ [] → ∀ (p : Addr) (its : List Value), H p = none → Q (.ref p) (upd H p (.frz (tupO its) (.tup (xs ++ ys)))))
theorem op_catN : OpR X (binaryOp .Add) (rCatN X.K) := by
  intro pins s σ H x y v u Q I rx ry h
  obtain ⟨a, b, xs, ys, rfl, rfl, ha, hb, hz, q0, q1, q2⟩ := h
  cases rx
  cases ry
  obtain ⟨its, r1, p1, _⟩ := I.tuple ha
  obtain ⟨its2, r2, p2, _⟩ := I.tuple hb
  by_cases hx : xs = []
  · subst hx
    cases r1
    exact cat_tup0 p1 p2 ⟨.ref b, H, I, rfl, q0 rfl⟩
  · refine HT.cat_tup p1 p2 (fun z => hx (r1.nil_iff.mp z)) (fun z => ⟨.ref a, H, I, rfl, q1 hx (r2.nil_iff.mp z)⟩) (fun z => ?_) (by rw [← r1.length, ← r2.length]; exact hz)
    exact ⟨.ref s.heap.objs.size, _, I.laid (t' := s.toks) (fun b ob q => Heap.get?_push_of_some _ q) (Nat.le_refl _) (tupN_ok (by rw [List.length_append]; exact hz) (r1.append r2) (Heap.get?_push_size _ rfl)), rfl, q2 hx (fun w => z (r2.nil_iff.mpr w)) _ _ (I.hok.fresh (Nat.le_refl _))⟩
end
end Xm
set_option Elab.async false
set_option linter.all false
set_option maxRecDepth 100000
set_option maxHeartbeats 2000000
namespace Xm
open PySem PySem.Spec PyProof.Rows L2
section
variable {X : Cx} {pins : List (Addr × Obj)} {σ : L2.St} {H : Hp} {s : Shared}
mutual
theorem Dp.nested (I : Inv X pins σ H s) : ∀ (d : D) (v : V) (u : Value) (k : NestedKey), keyOf d = some k → Dp (kxOf X) H v d → RelV v u → NestedIs s.heap k u
  | .none, _, _, _, e, h, r => by
    cases h
    cases r
    cases e
    exact .none
  | .bool b, _, _, _, e, h, r => by
    cases h
    cases r
    cases e
    exact .bool rfl
  | .int i, _, _, _, e, h, r => by
    cases h
    obtain ⟨t, rfl⟩ := r
    cases e
    exact .int i t
  | .str x, _, _, _, e, h, r => by
    cases h
    obtain ⟨t, rfl⟩ := r
    cases e
    exact .text x t
  | .tuple ds, _, _, k, e, h, r => by
    cases h with
    | tup hs ha =>
      cases r
      obtain ⟨its, rv, ⟨o, ho, hc, n, hd⟩, _⟩ := I.tuple hs.sq
      obtain ⟨ks, ek, rfl⟩ := Option.map_eq_some_iff.mp e
      exact .tup ho hc hd (by simpa using Dp.nestedAll I ds _ its ks ek ha rv)
  | .list _, _, _, _, e, _, _ => by cases e
  | .dict _, _, _, _, e, _, _ => by cases e
theorem Dp.nestedAll (I : Inv X pins σ H s) : ∀ (ds : List D) (vs : List V) (us : List Value) (ks : List NestedKey), keysOf ds = some ks → DpAll (kxOf X) H vs ds → Vals vs us → NestedAll s.heap ks us
  | [], _, _, _, e, h, r => by
    cases h
    cases r
    cases e
    exact .nil
  | d :: ds, _, _, ks, e, h, r => by
    cases h with
    | cons h1 h2 =>
      cases r with
      | cons r1 r2 =>
        simp only [keysOf] at e
        obtain ⟨k, e1, e⟩ := Option.bind_eq_some_iff.mp e
        obtain ⟨ks', e2, rfl⟩ := Option.map_eq_some_iff.mp e
        exact .cons (Dp.nested I d _ _ k e1 h1 r1) (Dp.nestedAll I ds _ _ ks' e2 h2 r2)
end
end
def atomK : D → Bool
  | .int _ => true
  | .str _ => true
  | _ => false
def tupK : D → Bool
  | .tuple ds => match keysOf ds with
    | some ks => decide ((NestedKey.tup ks).depth ≤ 8)
    | none => false
  | _ => false
def keyN : Key → NestedKey
  | .inl i => .num i
  | .inr x => .text x
theorem keyOf_keyD (k : Key) : keyOf (keyD k) = some (keyN k) := by cases k <;> rfl
theorem keyN_inj {a b : Key} (h : keyN a = keyN b) : a = b := by
  cases a <;> cases b <;> simp [keyN] at h <;> rw [h]
theorem atomK_key {d : D} (h : atomK d = true) : ∃ k, d = keyD k := by
  cases d with
  | int i => exact ⟨.inl i, rfl⟩
  | str x => exact ⟨.inr x, rfl⟩
  | _ => cases h
theorem tupK_key {d : D} (h : tupK d = true) : ∃ ds k, d = .tuple ds ∧ keyOf d = some k ∧ k.depth ≤ 8 := by
  cases d with
  | tuple ds =>
    have h : (match keysOf ds with | some ks => decide ((NestedKey.tup ks).depth ≤ 8) | none => false) = true := h
    cases e : keysOf ds with
    | none => rw [e] at h; cases h
    | some ks =>
      rw [e] at h
      exact ⟨ds, .tup ks, rfl, by simp [keyOf, e], of_decide_eq_true h⟩
  | _ => cases h
theorem tup_not_atom {d : D} (h : tupK d = true) : atomK d = false := by
  cases d <;> first | rfl | cases h
def dFind (kvs : List (D × D)) (k : D) : Option D := (kvs.find? fun p => decide (keyOf p.1 = keyOf k)).map (·.2)
def dGet (kvs : List (D × D)) (k : D) : Option (Option D) := if (atomK k && kvs.all fun p => atomK p.1) || (tupK k && kvs.all fun p => tupK p.1) then some (dFind kvs k) else none
def OptR (K : Kx) (F : Hp) : Option D → Option Value → Prop
  | some d, some w => ∃ v, RelV v w ∧ Dp K F v d
  | none, none => True
  | _, _ => False
def PairR {κ : Type} (K : Kx) (F : Hp) (kf : κ → NestedKey) (p : D × D) (q : κ × Value) : Prop := keyOf p.1 = some (kf q.1) ∧ ∃ v, RelV v q.2 ∧ Dp K F v p.2
theorem find_rel {κ : Type} [DecidableEq κ] {K : Kx} {F : Hp} {kf : κ → NestedKey} (inj : ∀ a b, kf a = kf b → a = b) {kvs : List (D × D)} {vs : List (κ × Value)} {kd : D} {k : κ} (r : Paired (PairR K F kf) kvs vs) (ek : keyOf kd = some (kf k)) : OptR K F (dFind kvs kd) (valueAt vs k) := by
  unfold dFind valueAt
  induction r with
  | nil => exact True.intro
  | @cons p q ps qs h t ih =>
    by_cases e : q.1 = k
    · have e2 : decide (keyOf p.1 = keyOf kd) = true := decide_eq_true (by rw [h.1, ek, e])
      rw [List.find?_cons_of_pos (p := fun p : D × D => decide (keyOf p.1 = keyOf kd)) e2, List.find?_cons_of_pos (p := fun kv : κ × Value => decide (kv.1 = k)) (decide_eq_true e)]
      exact h.2
    · have e2 : ¬ decide (keyOf p.1 = keyOf kd) = true := fun z => e (inj _ _ (Option.some.inj (by rw [← h.1, ← ek]; exact of_decide_eq_true z)))
      rw [List.find?_cons_of_neg (p := fun p : D × D => decide (keyOf p.1 = keyOf kd)) e2, List.find?_cons_of_neg (p := fun kv : κ × Value => decide (kv.1 = k)) (by simpa using e)]
      exact ih
structure MixAt (K : Kx) (F : Hp) (h : Heap) (a : Addr) (kvs : List (D × D)) (vs : List (Key × Value)) : Prop where
  sm : (a == sysModules) = false
  len : vs.length ≤ sizeLine
  at_ : h.DictOf (mixKind K.P K.w) a vs
  rel : Paired (PairR K F keyN) kvs vs
structure NestAt (K : Kx) (F : Hp) (h : Heap) (a : Addr) (kvs : List (D × D)) (vs : List (NestedKey × Value)) : Prop where
  sm : (a == sysModules) = false
  len : vs.length ≤ sizeLine
  at_ : h.DictKeyed (nestedKind K.P K.w) a vs
  rel : Paired (PairR K F id) kvs vs
section
variable {X : Cx} {pins : List (Addr × Obj)} {σ : L2.St} {H F : Hp} {s : Shared} {a : Addr} {u : HO} {kvs : List (D × D)}
theorem mix_empty {h : Heap} {P : Program} {w : World} {o : Obj} {es : Array DictEntry} {ep : Nat} (ho : h.get? a = some o) (hx : o.ExactDict) (hd : o.data = .dict es ep) (he : es.toList = []) : h.DictOf (mixKind P w) a [] := by
  have : es = #[] := by cases es; simpa using he
  subst this
  exact ⟨o, #[], ep, ho, hx, hd, fun j hj => by simp at hj, by rw [show (#[] : Array DictEntry).toList = [] from rfl]; exact .nil, List.nodup_nil⟩
theorem pair_keys {ps : List (Key × V)} {vs : List (Key × Value)} {kvs : List (D × D)} (r : KV ps vs) (e : kvs.map (·.1) = ps.map (fun p => keyD p.1)) (h : DpAll (kxOf X) F (ps.map (·.2)) (kvs.map (·.2))) : Paired (PairR (kxOf X) F keyN) kvs vs := by
  induction r generalizing kvs with
  | nil =>
    cases kvs with
    | nil => exact .nil
    | cons p q => cases e
  | @cons p q ps qs hq t ih =>
    cases kvs with
    | nil => cases e
    | cons k ks =>
      simp only [List.map_cons] at e h
      obtain ⟨e1, e2⟩ := List.cons.inj e
      cases h with
      | cons h1 h2 => exact .cons ⟨by rw [e1, keyOf_keyD, hq.1], p.2, hq.2, h1⟩ (ih e2 h2)
theorem rows_pair {rows : List Row} {xs : List (NestedKey × Addr × Value)} {kvs : List (D × D)} (r : Paired (fun (r : Row) (x : NestedKey × Addr × Value) => r.1 = x.1 ∧ r.2.1 = x.2.1 ∧ RelV r.2.2 x.2.2) rows xs) (ek : keysOf (kvs.map (·.1)) = some (rows.map (·.1)))
    (h : DpAll (kxOf X) F (rows.map (·.2.2)) (kvs.map (·.2))) : Paired (PairR (kxOf X) F id) kvs (pairsH xs) := by
  induction r generalizing kvs with
  | nil =>
    cases kvs with
    | nil => exact .nil
    | cons p q => cases h
  | @cons p q ps qs hq t ih =>
    cases kvs with
    | nil => cases h
    | cons k ks =>
      simp only [List.map_cons, keysOf] at ek h
      obtain ⟨k0, e1, e⟩ := Option.bind_eq_some_iff.mp ek
      obtain ⟨ks', e2, e3⟩ := Option.map_eq_some_iff.mp e
      obtain ⟨e4, e5⟩ := List.cons.inj e3
      cases h with
      | cons h1 h2 => exact .cons ⟨by rw [e1, e4, hq.1]; rfl, p.2.2, hq.2.2, h1⟩ (ih (by rw [e2, e5]) h2)
theorem rd_ok (I : Inv X pins σ H s) (hu : Rd H a u) : ObjOk X.prog X.w H s.heap a u := by
  rcases hu with hu | ⟨o, hu⟩
  · exact I.hok a _ hu
  · exact (show ObjOk X.prog X.w H s.heap a (.frz o u) from I.hok a _ hu).2
theorem dr_mix (I : Inv X pins σ H s) (hu : Rd H a u) (dr : DR (kxOf X) F a u kvs) (c : (kvs.all fun p => atomK p.1) = true) : ∃ vs, MixAt (kxOf X) F s.heap a kvs vs := by
  rcases dr with ⟨rows, rfl, h2, h3, h4, h5, h6⟩ | ⟨ps, rfl, h2, h3, h4⟩
  · obtain ⟨⟨sm, nd, o, es, ep, xs, ho, hx, hd, he, pr⟩, _⟩ := rd_ok I hu
    cases kvs with
    | nil =>
      have : rows = [] := by
        cases rows with
        | nil => rfl
        | cons r rs => cases h6
      subst this
      cases pr
      exact ⟨[], sm, Nat.zero_le _, mix_empty ho hx hd he, .nil⟩
    | cons p ps =>
      exfalso
      obtain ⟨k, ek⟩ := atomK_key (by simpa using (List.all_eq_true.mp c) p (.head _))
      cases rows with
      | nil => cases h6
      | cons r rs =>
        simp only [List.map_cons] at h5
        cases h5 with
        | cons h7 h8 =>
          rw [ek] at h7
          cases k <;> cases h7
  · obtain ⟨z, hd, vs, rel, dd⟩ := dk_rd I.hok hu
    exact ⟨vs, hd, by rw [← rel.length]; exact z, dd, pair_keys rel h2 h4⟩
theorem vals_all {rows : List Row} {xs : List (NestedKey × Addr × Value)} {ks : List D} (I : Inv X pins σ H s) (fh : Same F H) (r : Paired (fun (r : Row) (x : NestedKey × Addr × Value) => r.1 = x.1 ∧ r.2.1 = x.2.1 ∧ RelV r.2.2 x.2.2) rows xs) (ek : keysOf ks = some (rows.map (·.1))) (hd : ∀ r ∈ rows, r.1.depth ≤ 8)
    (h : DpAll (kxOf X) F (rows.map fun r => V.ref r.2.1) ks) : ∀ x ∈ xs, (nestedKind X.prog X.w).is s.heap x.1 x.2.1 := by
  induction r generalizing ks with
  | nil => exact fun x hx => nomatch hx
  | @cons p q ps qs hq t ih =>
    cases ks with
    | nil => cases h
    | cons k ks =>
      simp only [List.map_cons, keysOf] at ek h
      obtain ⟨k0, e1, e⟩ := Option.bind_eq_some_iff.mp ek
      obtain ⟨ks', e2, e3⟩ := Option.map_eq_some_iff.mp e
      obtain ⟨e4, e5⟩ := List.cons.inj e3
      cases h with
      | cons h1 h2 =>
        intro x hx
        rcases List.mem_cons.mp hx with z | hx
        · subst z
          refine ⟨?_, by rw [← hq.1]; exact hd p (.head _)⟩
          rw [← hq.1, ← hq.2.1, ← e4]
          exact Dp.nested I k _ _ k0 e1 (Dp_up h1 fh) rfl
        · exact ih (by rw [e2, e5]) (fun r hr => hd r (.tail _ hr)) h2 x hx
theorem rows_keys {rows : List Row} {xs : List (NestedKey × Addr × Value)} (pr : Paired (fun (r : Row) (x : NestedKey × Addr × Value) => r.1 = x.1 ∧ r.2.1 = x.2.1 ∧ RelV r.2.2 x.2.2) rows xs) : rows.map (·.1) = xs.map (·.1) := by
  induction pr with
  | nil => rfl
  | cons h t ih => simp only [List.map_cons, h.1, ih]
theorem dr_nest (I : Inv X pins σ H s) (fh : Same F H) (hu : Rd H a u) (dr : DR (kxOf X) F a u kvs) (c : (kvs.all fun p => tupK p.1) = true) : ∃ vs, NestAt (kxOf X) F s.heap a kvs vs := by
  rcases dr with ⟨rows, rfl, h2, h3, h4, h5, h6⟩ | ⟨ps, rfl, h2, h3, h4⟩
  · obtain ⟨⟨sm, nd, o, es, ep, xs, ho, hx, hd, he, pr⟩, _⟩ := rd_ok I hu
    have hn : (xs.map (·.1)).Nodup := by rw [← rows_keys pr]; exact nd
    exact ⟨pairsH xs, sm, by rw [pairsH_length, ← pr.length]; exact h2, ⟨xs, ⟨o, es, ep, ho, hx, hd, he, vals_all I fh pr h3 h4 h5, hn⟩, rfl⟩, rows_pair pr h3 h6⟩
  · obtain ⟨z, sm, vs, rel, dd⟩ := dk_rd I.hok hu
    cases kvs with
    | nil =>
      have : ps = [] := by
        cases ps with
        | nil => rfl
        | cons r rs => cases h2
      subst this
      cases rel
      obtain ⟨o, es, ep, ho, hx, hd, _, pr, _⟩ := dd
      have he : es.toList = [] := by
        have := pr.length
        simpa using this
      exact ⟨[], sm, Nat.zero_le _, ⟨[], ⟨o, es, ep, ho, hx, hd, by simpa using he, (fun x hx => nomatch hx), List.nodup_nil⟩, rfl⟩, .nil⟩
    | cons p q =>
      exfalso
      have := tup_not_atom (by simpa using (List.all_eq_true.mp c) p (.head _))
      cases ps with
      | nil => cases h2
      | cons r rs =>
        simp only [List.map_cons] at h2
        rw [(List.cons.inj h2).1] at this
        cases hk : r.1 <;> rw [hk] at this <;> cases this
end
theorem dGet_cases {kvs : List (D × D)} {k : D} {o : Option D} (e : dGet kvs k = some o) : o = dFind kvs k ∧ ((atomK k = true ∧ (kvs.all fun p => atomK p.1) = true) ∨ (tupK k = true ∧ (kvs.all fun p => tupK p.1) = true)) := by
  unfold dGet at e
  split at e
  · rename_i h
    cases e
    simp only [Bool.or_eq_true, Bool.and_eq_true] at h
    exact ⟨rfl, h⟩
  · cases e
theorem OptR.isSome {K : Kx} {F : Hp} {o : Option D} {x : Option Value} (h : OptR K F o x) : o.isSome = x.isSome := by
  cases o <;> cases x <;> first | rfl | exact h.elim
theorem room_nested {P : Program} {w : World} {A : Around} (h : A.units + 65 < cLine) : (nestedKind P w).room A.in1 := by
  show A.in1.units + 8 < cLine
  have : A.in1.units = A.units + 1 := rfl
  omega
section
variable {X : Cx} {pins : List (Addr × Obj)} {σ : L2.St} {H F : Hp} {s : Shared} {a : Addr} {u : HO} {kvs : List (D × D)} {A : Around} {E Q : Value → Shared → Prop} {k : D} {yv : V} {y : Value} {o : Option D}
theorem key_mix {d : D} {v : V} {y : Value} {F : Hp} {K : Kx} (h : atomK d = true) (hd : Dp K F v d) (r : RelV v y) : ∃ q : Key, d = keyD q ∧ RelV (kV q) y := by
  obtain ⟨q, rfl⟩ := atomK_key h
  cases q <;> (cases hd; exact ⟨_, rfl, r⟩)
theorem key_nest (I : Inv X pins σ H s) (fh : Same F H) (h : tupK k = true) (hd : Dp (kxOf X) F yv k) (r : RelV yv y) : ∃ (b : Addr) (q : NestedKey), y = .ref b ∧ keyOf k = some q ∧ (nestedKind X.prog X.w).is s.heap q b := by
  obtain ⟨ds, q, rfl, e, hl⟩ := tupK_key h
  have hd2 := Dp_up hd fh
  have n := Dp.nested I _ _ _ q e hd2 r
  cases hd with
  | tup hs ha =>
    cases r
    exact ⟨_, q, rfl, e, n, hl⟩
theorem d_item {d : D} (I : Inv X pins σ H s) (fh : Same F H) (ha : Rd H a u) (dr : DR (kxOf X) F a u kvs) (hk : Dp (kxOf X) F yv k) (ry : RelV yv y) (e : dGet kvs k = some (some d)) :
    ∃ v w, RelV v w ∧ Dp (kxOf X) F v d ∧ ∀ {A : Around} {E Q : Value → Shared → Prop}, A.units + 65 < cLine → (∀ s', Inv X pins σ H s' → Q w s') → wpAny (model X.prog X.w) A (getItem (.ref a) y) Q E s := by
  obtain ⟨eo, ⟨h1, h2⟩ | ⟨h1, h2⟩⟩ := dGet_cases e
  · obtain ⟨vs, m⟩ := dr_mix I ha dr h2
    obtain ⟨q, rfl, rq⟩ := key_mix h1 hk ry
    have fr := find_rel (fun _ _ => keyN_inj) m.rel (keyOf_keyD q)
    rw [← eo] at fr
    cases ew : valueAt vs q with
    | none => rw [ew] at fr; exact fr.elim
    | some w =>
      rw [ew] at fr
      obtain ⟨v, rv, dv⟩ := fr
      exact ⟨v, w, rv, dv, fun hu h => wpAny_getItem_of (kV_is rq) m.at_.mapOf ew (h _ (I.tok _))⟩
  · obtain ⟨vs, m⟩ := dr_nest I fh ha dr h2
    obtain ⟨b, q, rfl, eq, hq⟩ := key_nest I fh h1 hk ry
    have fr := find_rel (kf := id) (fun _ _ z => z) m.rel eq
    rw [← eo] at fr
    cases ew : valueAt vs q with
    | none => rw [ew] at fr; exact fr.elim
    | some w =>
      rw [ew] at fr
      obtain ⟨v, rv, dv⟩ := fr
      exact ⟨v, w, rv, dv, fun hu h => getItem_keyed (room_nested hu) hq m.at_ ew (h _ (I.tok _))⟩
theorem dr_obj (I : Inv X pins σ H s) (ha : Rd H a u) (dr : DR (kxOf X) F a u kvs) : s.TypeIs (.ref a) "dict" ∧ (∃ ob, s.heap.get? a = some ob ∧ ob.dict = none) ∧ (a == sysModules) = false := by
  rcases dr with ⟨rows, rfl, h2, h3, h4, h5, h6⟩ | ⟨ps, rfl, h2, h3, h4⟩
  · obtain ⟨⟨sm, nd, o, es, ep, xs, ho, hx, hd, he, pr⟩, _⟩ := rd_ok I ha
    exact ⟨⟨o, ho, hx.1⟩, ⟨o, ho, hx.2.1⟩, sm⟩
  · obtain ⟨z, hd, vs, rel, dd⟩ := dk_rd I.hok ha
    refine ⟨dd.typeIs, ?_, hd⟩
    obtain ⟨ob, _, _, h1, h2, _⟩ := dd
    exact ⟨ob, h1, h2.2.1⟩
theorem d_len {Q : Value → Shared → Prop} (I : Inv X pins σ H s) (fh : Same F H) (ha : Rd H a u) (dr : DR (kxOf X) F a u kvs) (h : ∀ t s', Inv X pins σ H s' → Q (.int kvs.length t) s') : wpAny (model X.prog X.w) A (call (.builtin "len") [.ref a]) Q E s := by
  rcases dr with ⟨rows, rfl, h2, h3, h4, h5, h6⟩ | ⟨ps, rfl, h2, h3, h4⟩
  · obtain ⟨⟨sm, nd, o, es, ep, xs, ho, hx, hd, he, pr⟩, _⟩ := rd_ok I ha
    have hn : (xs.map (·.1)).Nodup := by rw [← rows_keys pr]; exact nd
    have hl : kvs.length = xs.length := by
      rw [← pr.length]
      have := DpAll_len h6
      simpa using this.symm
    refine call_len_dictH (knd := nestedKind X.prog X.w) sm ⟨o, es, ep, ho, hx, hd, he, vals_all I fh pr h3 h4 h5, hn⟩ (by rw [← pr.length]; rw [sizeLine_eq] at h2; omega) ?_
    rw [← hl]
    exact h _ _ (I.tok _)
  · have hl : kvs.length = ps.length := by
      have := congrArg List.length h2
      simpa using this
    rw [hl] at h
    exact L2.d_len I ha h
theorem OptR.getD {K : Kx} {F : Hp} {o : Option D} {x : Option Value} {d : D} {v : V} {w : Value} (h : OptR K F o x) (r : RelV v w) (hd : Dp K F v d) : ∃ v', RelV v' (x.getD w) ∧ Dp K F v' (o.getD d) := by
  cases o <;> cases x
  · exact ⟨v, r, hd⟩
  · exact h.elim
  · exact h.elim
  · exact h
end
theorem dp_dr {K : Kx} {F : Hp} {a : Addr} {kvs : List (D × D)} (h : Dp K F (.ref a) (.dict kvs)) : ∃ od u, F a = some (.frz od u) ∧ DR K F a u kvs := by
  cases h with
  | dtp ha e1 e2 hl hk hd e3 h1 h2 =>
    subst e1 e2 e3
    exact ⟨_, _, ha, .inl ⟨_, rfl, hl, hk, hd, h1, h2⟩⟩
  | dky ha e1 e2 hl h2 =>
    subst e2
    exact ⟨_, _, ha, .inr ⟨_, rfl, e1, hl, h2⟩⟩
theorem dp_dict {K : Kx} {F : Hp} {v : V} {kvs : List (D × D)} (h : Dp K F v (.dict kvs)) : ∃ a, v = .ref a := by
  cases h <;> exact ⟨_, rfl⟩
def RDict (K : Kx) (F H : Hp) (x : V) (kvs : List (D × D)) : Prop := ∃ a u, x = .ref a ∧ Rd H a u ∧ DR K F a u kvs ∧ Same F H
theorem rdict_of {K : Kx} {F H : Hp} {v : V} {kvs : List (D × D)} (h : Dp K F v (.dict kvs)) (fh : Same F H) : RDict K F H v kvs := by
  obtain ⟨a, rfl⟩ := dp_dict h
  obtain ⟨od, u, hu, dr⟩ := dp_dr h
  exact ⟨a, u, rfl, .inr ⟨od, fh _ _ hu⟩, dr, fh⟩
def rIxD (K : Kx) : R2 := fun x y H Q => ∃ F kvs k d, RDict K F H x kvs ∧ Dp K F y k ∧ dGet kvs k = some (some d) ∧ ∀ v, Dp K F v d → Q v H
section
variable {X : Cx}
theorem ix_dict (hu : X.A.units + 65 < cLine) : IxR X (rIxD (kxOf X)) := by
  intro value slice pins s σ H x y v u Q I rx ry h hs
  obtain ⟨F, kvs, k, d, ⟨a, o, rfl, ha, dr, fh⟩, hk, e, q⟩ := h
  cases rx
  obtain ⟨v, w, rv, dv, go⟩ := d_item I fh ha dr hk ry e
  exact subscriptTail_builtinR (x := w) (dr_obj I ha dr).1 PySem.F.slot_dict_getitem.lookup (go hu fun s' I' => ⟨rfl, v, H, I', rv, q v dv⟩) hs
theorem call_lenD : CallR X (.builtin "len") (fun xs H Q => ∃ x F kvs, xs = [x] ∧ RDict (kxOf X) F H x kvs ∧ Q (.int kvs.length) H) := by
  intro pins s σ H xs us Q I r h
  obtain ⟨x, F, kvs, rfl, ⟨a, ob, rfl, ha, dr, fh⟩, q⟩ := h
  obtain ⟨u, rfl, rx⟩ := vals1 r
  cases rx
  exact Xm.d_len I fh ha dr fun t s' I' => ⟨.int kvs.length, H, I', ⟨t, rfl⟩, q⟩
end
end Xm
set_option Elab.async false
set_option linter.all false
set_option maxRecDepth 100000
namespace Xm
open PySem PySem.Spec PyProof.Rows L2
section
variable (K : Kx) (C : Ct)
def dOf (f : EF) : TE := fun σ H Q => ∃ F st r, Rel K C F st σ H ∧ f st = some r ∧ ∀ v H' F', Same F F' → Rel K C F' r.2 σ H' → Dp K F' v r.1 → Q v H'
def nOf (f : LF) : TE := fun σ H Q => ∃ F st r, Rel K C F st σ H ∧ f st = some r ∧ ∀ (a : Addr) (vs : List V) H' F', Same F F' → Rel K C F' r.2 σ H' → C.H0 a = none → F' a = none → H' a = some (.lst vs) →
  (∀ j, Mu r.2 j → σ[j]? ≠ some (some (.ref a))) → DpAll K F' vs r.1 → Q (.ref a) H'
def bOf (f : BF) : TT := fun σ H Q => ∃ F st r, Rel K C F st σ H ∧ f st = some r ∧ ∀ H' F', Same F F' → Rel K C F' r.2 σ H' → Q r.1 H'
def aOf (f : LF) : TA := fun σ H Q => ∃ F st r, Rel K C F st σ H ∧ f st = some r ∧ ∀ vs H' F', Same F F' → Rel K C F' r.2 σ H' → DpAll K F' vs r.1 → Q vs H'
end
section
variable {X : Cx} {e : Expr} {es : List Expr}
theorem pe_wk {t t' : TE} (h : PE X e t) (w : ∀ σ H Q, t' σ H Q → t σ H Q) : PE X e t' := ⟨fun pins s σ H Q I q => h.run pins s σ H Q I (w σ H Q q)⟩
theorem pt_wk {t t' : TT} (h : PT X e t) (w : ∀ σ H Q, t' σ H Q → t σ H Q) : PT X e t' := ⟨fun pins s σ H Q I q => h.run pins s σ H Q I (w σ H Q q)⟩
theorem pw_wk {t t' : TT} (h : PW X e t) (w : ∀ σ H Q, t' σ H Q → t σ H Q) : PW X e t' := ⟨fun wh pins s σ H Q I q => h.run wh pins s σ H Q I (w σ H Q q)⟩
theorem pa_wk {t t' : TA} (h : PA X es t) (w : ∀ σ H Q, t' σ H Q → t σ H Q) : PA X es t' := ⟨fun pos pins s σ H Q I q => h.run pos pins s σ H Q I (w σ H Q q)⟩
theorem ps_wk {st : Stmt} {t t' : TS} (h : PS X st t) (w : ∀ D σ H, t' D σ H → t D σ H) : PS X st t' := ⟨fun pins s σ H D I q => h.run pins s σ H D I (w D σ H q)⟩
theorem pss_wk {st : List Stmt} {t t' : TS} (h : PSs X st t) (w : ∀ D σ H, t' D σ H → t D σ H) : PSs X st t' := ⟨fun pins s σ H D I q => h.run pins s σ H D I (w D σ H q)⟩
theorem pg_wk {t t' : TG} (h : PG X e t) (w : ∀ v σ H Q, t' v σ H Q → t v σ H Q) : PG X e t' := ⟨fun pins s σ H v u Q I r q => h.run pins s σ H v u Q I r (w v σ H Q q)⟩
theorem pi_wk {tg : Expr} {t t' : TI} (h : PI X tg e t) (w : ∀ σ H Q, t' σ H Q → t σ H Q) : PI X tg e t' := ⟨fun pins s σ H Q I q => h.run pins s σ H Q I (w σ H Q q)⟩
end
def cst (d : D) : EF := fun st => some (d, st)
def rd (i : Nat) : EF := fun st => match st[i]? with
  | some (.dat d) => some (d, st)
  | some (.own xs) => some (.list xs, st.set i (.dat (.list xs)))
  | _ => none
section
variable {K : Kx} {C : Ct} {F F' H H' : Hp} {st : AS} {σ : L2.St}
theorem mu_set_dat {i j : Nat} {d : D} (h : Mu (st.set i (.dat d)) j) : Mu st j ∧ j ≠ i := by
  obtain ⟨s, h, hm⟩ := h
  by_cases e : j = i
  · subst e
    exfalso
    rw [List.getElem?_set_self'] at h
    cases q : st[j]? with
    | none => rw [q] at h; simp at h
    | some u => rw [q] at h; simp at h; subst h; cases hm
  · rw [List.getElem?_set_ne (Ne.symm e)] at h
    exact ⟨⟨s, h, hm⟩, e⟩
theorem Rel.freeze {i : Nat} {xs : List D} (R : Rel K C F st σ H) (h : st[i]? = some (.own xs)) :
    ∃ v F', σ[i]? = some (some v) ∧ Same F F' ∧ Rel K C F' (st.set i (.dat (.list xs))) σ H ∧ Dp K F' v (.list xs) := by
  obtain ⟨a, ha, h0, hF, vs, hH, hv⟩ := R.slot i _ h
  have hff : Same F (upd F a (.lst vs)) := same_upd hF
  have hd : Dp K (upd F a (.lst vs)) (.ref a) (.list xs) := .lst (.inl (.inl upd_same)) (DpAll_up hv hff)
  have hi : i < st.length := (List.getElem?_eq_some_iff.mp h).1
  refine ⟨.ref a, upd F a (.lst vs), ha, hff, ⟨?_, R.f0.trans hff, ?_, R.old, ?_, ?_, ?_, R.penh, R.pent, R.tab.up hff fun _ _ _ e => e⟩, hd⟩
  · rw [List.length_set]; exact R.len
  · intro b o e
    by_cases hb : b = a
    · subst hb; rw [upd_same] at e; cases e; exact hH
    · rw [upd_ne hb] at e; exact R.fh _ _ e
  · intro b hb0 hb1
    have hb : b ≠ a := fun z => by subst z; exact hb1 h0
    rw [upd_ne hb]
    exact R.new b hb0 hb1
  · intro j s hj
    by_cases e : j = i
    · subst e
      rw [List.getElem?_set_self hi] at hj
      cases hj
      exact ⟨_, ha, hd⟩
    · rw [List.getElem?_set_ne (Ne.symm e)] at hj
      have q := R.slot j s hj
      cases s with
      | no => trivial
      | dat d => obtain ⟨v, q1, q2⟩ := q; exact ⟨v, q1, Dp_up q2 hff⟩
      | own ys =>
        obtain ⟨b, q1, q2, q3, us, q4, q5⟩ := q
        have hb : b ≠ a := fun z => by
          subst z
          exact e (R.apart j i b ⟨_, hj, rfl⟩ ⟨_, h, rfl⟩ q1 ha)
        exact ⟨b, q1, q2, by rw [upd_ne hb]; exact q3, us, q4, DpAll_up q5 hff⟩
      | pen ys =>
        obtain ⟨b, q1, q2, q3, us, q4, q5⟩ := q
        have hb : b ≠ a := fun z => by
          subst z
          exact R.penh b q2 h0
        exact ⟨b, q1, q2, by rw [upd_ne hb]; exact q3, us, q4, DpAll_up q5 hff⟩
      | dct kvs =>
        obtain ⟨b, q1, q2, q3, u, q4, q5⟩ := q
        have hb : b ≠ a := fun z => by
          subst z
          exact e (R.apart j i b ⟨_, hj, rfl⟩ ⟨_, h, rfl⟩ q1 ha)
        exact ⟨b, q1, q2, by rw [upd_ne hb]; exact q3, u, q4, q5.up hff⟩
      | pdc kvs =>
        obtain ⟨b, q1, q2, q3, u, q4, q5⟩ := q
        have hb : b ≠ a := fun z => by
          subst z
          exact R.penh b q2 h0
        exact ⟨b, q1, q2, by rw [upd_ne hb]; exact q3, u, q4, q5.up hff⟩
      | obj o =>
        obtain ⟨b, q1, q2⟩ := q
        exact ⟨b, q1, q2.up hff⟩
  · intro j k b hj hk
    exact R.apart j k b (mu_set_dat hj).1 (mu_set_dat hk).1
theorem rel_mono_slots {st' : AS} (R : Rel K C F st σ H) (hl : st'.length = st.length) (h : ∀ (i : Nat) (s : Slot), st'[i]? = some s → s = .no ∨ st[i]? = some s) : Rel K C F st' σ H where
  len := hl.trans R.len
  f0 := R.f0
  fh := R.fh
  old := R.old
  new := R.new
  slot := fun i s e => by
    rcases h i s e with z | z
    · subst z; trivial
    · exact R.slot i s z
  apart := fun i j a hi hj => R.apart i j a (by
      obtain ⟨s, e, m⟩ := hi
      rcases h i _ e with z | z
      · subst z; cases m
      · exact ⟨s, z, m⟩) (by
      obtain ⟨s, e, m⟩ := hj
      rcases h j _ e with z | z
      · subst z; cases m
      · exact ⟨s, z, m⟩)
  penh := R.penh
  pent := R.pent
  tab := R.tab
end
section
variable {X : Cx} {C : Ct} {pos : Pos}
theorem xd_c {e : Expr} {v : V} {d : D} (h : PE X e (tC v)) (hd : ∀ F, Dp (kxOf X) F v d) : PE X e (dOf (kxOf X) C (cst d)) := pe_wk h fun σ H Q q => by
  obtain ⟨F, st, r, R, e, k⟩ := q
  cases e
  exact k v H F (Same.refl _) R (hd F)
theorem xd_int {i j} : PE X (.Constant (.int i) j pos) (dOf (kxOf X) C (cst (.int i))) := xd_c pe_int fun _ => .int i
theorem xd_bl {b j} : PE X (.Constant (.bool b) j pos) (dOf (kxOf X) C (cst (.bool b))) := xd_c pe_bl fun _ => .bl b
theorem xd_non {j} : PE X (.Constant .none j pos) (dOf (kxOf X) C (cst .none)) := xd_c pe_non fun _ => .non
theorem xd_str {x j} : PE X (.Constant (.str x) j pos) (dOf (kxOf X) C (cst (.str x))) := xd_c pe_str fun _ => .str x
theorem xd_rd {i : Nat} {e : Expr} (h : PE X e (tVar i)) : PE X e (dOf (kxOf X) C (rd i)) := pe_wk h fun σ H Q q => by
  obtain ⟨F, st, r, R, e, k⟩ := q
  unfold rd at e
  split at e
  · rename_i d hd
    cases e
    obtain ⟨v, h1, h2⟩ := R.slot i _ hd
    exact ⟨v, h1, k v H F (Same.refl _) R h2⟩
  · rename_i xs hx
    cases e
    obtain ⟨v, F', h1, h2, h3, h4⟩ := R.freeze hx
    exact ⟨v, h1, k v H F' h2 h3 h4⟩
  · cases e
end
def bin2 (k : D → D → Option D) (f g : EF) : EF := fun st => (f st).bind fun a => (g a.2).bind fun b => (k a.1 b.1).map fun z => (z, b.2)
def Ok2 (K : Kx) (r : R2) (k : D → D → Option D) : Prop :=
  ∀ (F H : Hp) (x y : V) (a b z : D) (Q : VK), Same F H → Dp K F x a → Dp K F y b → k a b = some z → (∀ v F' H', Gr F H F' H' → Dp K F' v z → Q v H') → r x y H Q
theorem bin2_ok {K : Kx} {C : Ct} {r : R2} {k : D → D → Option D} {f g : EF} (ok : Ok2 K r k) {σ : L2.St} {H : Hp} {Q : VK} (q : dOf K C (bin2 k f g) σ H Q) : tOp r (dOf K C f) (dOf K C g) σ H Q := by
  obtain ⟨F, st, w, R, e, q⟩ := q
  unfold bin2 at e
  obtain ⟨a, ea, e⟩ := Option.bind_eq_some_iff.mp e
  obtain ⟨b, eb, e⟩ := Option.bind_eq_some_iff.mp e
  obtain ⟨z, ez, e⟩ := Option.map_eq_some_iff.mp e
  cases e
  refine ⟨F, st, a, R, ea, fun v H1 F1 s1 R1 d1 => ?_⟩
  refine ⟨F1, a.2, b, R1, eb, fun u H2 F2 s2 R2 d2 => ?_⟩
  exact ok F2 H2 v u a.1 b.1 z Q R2.fh (Dp_up d1 s2) d2 ez fun y F3 H3 g d3 => q y H3 F3 ((s1.trans s2).trans g.ff) (R2.grow g) d3
section
variable {X : Cx} {C : Ct} {pos : Pos} {a b : Expr} {f g : EF} {r : R2} {k : D → D → Option D}
theorem xd_op {op : Operator} (ho : OpR X (binaryOp op) r) (ok : Ok2 (kxOf X) r k) (ha : PE X a (dOf (kxOf X) C f)) (hb : PE X b (dOf (kxOf X) C g)) : PE X (.BinOp a op b pos) (dOf (kxOf X) C (bin2 k f g)) :=
  pe_wk (pe_op ho ha hb) fun _ _ _ q => bin2_ok ok q
theorem xd_cmp {op : CmpOp} (ho : OpR X (compareOp op) r) (ok : Ok2 (kxOf X) r k) (ha : PE X a (dOf (kxOf X) C f)) (hb : PE X b (dOf (kxOf X) C g)) (hm : behindInMarks op b = false) : PE X (.Compare a [op] [b] pos) (dOf (kxOf X) C (bin2 k f g)) :=
  pe_wk (pe_cmpR ho ha hb hm) fun _ _ _ q => bin2_ok ok q
theorem xd_ix (hr : IxR X r) (ok : Ok2 (kxOf X) r k) (ha : PE X a (dOf (kxOf X) C f)) (hb : PE X b (dOf (kxOf X) C g)) (hs : PlainIx b) : PE X (.Subscript a b pos) (dOf (kxOf X) C (bin2 k f g)) :=
  pe_wk (pe_ix hr ha hb hs) fun _ _ _ q => bin2_ok ok q
end
section
variable {X : Cx} {pins : List (Addr × Obj)} {σ : L2.St} {H : Hp} {s : Shared}
mutual
theorem Dp.reads (I : Inv X pins σ H s) : ∀ (d : D) (v : V) (u : Value), d.plain = true → Dp (kxOf X) H v d → RelV v u → ∃ as, Reads s.heap u d as
  | .none, _, _, _, h, r => by
    cases h
    cases r
    exact ⟨_, Reads.none⟩
  | .bool b, _, _, _, h, r => by
    cases h
    cases r
    exact ⟨_, Reads.bool b⟩
  | .int i, _, _, _, h, r => by
    cases h
    obtain ⟨t, rfl⟩ := r
    exact ⟨_, Reads.int i t⟩
  | .str x, _, _, _, h, r => by
    cases h
    obtain ⟨t, rfl⟩ := r
    exact ⟨_, Reads.str x t⟩
  | .list ds, _, _, c, h, r => by
    cases h with
    | lst hs ha =>
      cases r
      obtain ⟨its, rv, ⟨o, n, ho, hc, _, hd⟩, _⟩ := I.list hs
      obtain ⟨as, hr⟩ := Dp.readsAll I ds _ its (by simpa [PyData.plain] using c) ha rv
      exact ⟨_, Reads.list ho hc hd hr⟩
  | .tuple ds, _, _, c, h, r => by
    cases h with
    | tup hs ha =>
      cases r
      obtain ⟨its, rv, ⟨o, ho, hc, n, hd⟩, _⟩ := I.tuple hs.sq
      obtain ⟨as, hr⟩ := Dp.readsAll I ds _ its (by simpa [PyData.plain] using c) ha rv
      exact ⟨_, Reads.tuple ho hc hd hr⟩
  | .dict _, _, _, c, _, _ => by simp [PyData.plain] at c
theorem Dp.readsAll (I : Inv X pins σ H s) : ∀ (ds : List D) (vs : List V) (us : List Value), PyData.plainAll ds = true → DpAll (kxOf X) H vs ds → Vals vs us → ∃ as, ReadsAll s.heap us ds as
  | [], _, _, _, h, r => by
    cases h
    cases r
    exact ⟨_, ReadsAll.nil⟩
  | d :: ds, _, _, c, h, r => by
    have c2 : d.plain = true ∧ PyData.plainAll ds = true := by simpa [PyData.plainAll] using c
    cases h with
    | cons h1 h2 =>
      cases r with
      | cons r1 r2 =>
        obtain ⟨as, q1⟩ := Dp.reads I d _ _ c2.1 h1 r1
        obtain ⟨bs, q2⟩ := Dp.readsAll I ds _ _ c2.2 h2 r2
        exact ⟨_, ReadsAll.cons q1 q2⟩
end
theorem canLay_sh {d : D} (h : SeqAt.shaped d = true) : d.plain = true := PyData.plain_of_canLay0 d (SeqAt.canLay_of_shaped h)
def rEqD (K : Kx) : R2 := fun x y H Q => ∃ d e, Dp K H x d ∧ Dp K H y e ∧ SeqAt.shaped d = true ∧ SeqAt.shaped e = true ∧ Q (.bl (PyData.eqv d e)) H
def rNeD (K : Kx) : R2 := fun x y H Q => ∃ d e, Dp K H x d ∧ Dp K H y e ∧ SeqAt.shaped d = true ∧ SeqAt.shaped e = true ∧ Q (.bl (!PyData.eqv d e)) H
theorem op_eqD (hu : X.A.units + 64 < cLine) : OpR X (compareOp .Eq) (rEqD (kxOf X)) := by
  intro pins s σ H x y v u Q I rx ry h
  obtain ⟨d, e, hd, he, sd, se, q⟩ := h
  obtain ⟨as, r1⟩ := Dp.reads I d x v (canLay_sh sd) hd rx
  obtain ⟨bs, r2⟩ := Dp.reads I e y u (canLay_sh se) he ry
  exact SeqAt.compareEq_shaped r1 r2 sd se hu ⟨.bl _, H, I, rfl, q⟩
theorem op_neD (hu : X.A.units + 64 < cLine) : OpR X (compareOp .NotEq) (rNeD (kxOf X)) := by
  intro pins s σ H x y v u Q I rx ry h
  obtain ⟨d, e, hd, he, sd, se, q⟩ := h
  obtain ⟨as, r1⟩ := Dp.reads I d x v (canLay_sh sd) hd rx
  obtain ⟨bs, r2⟩ := Dp.reads I e y u (canLay_sh se) he ry
  exact SeqAt.compareNe_shaped r1 r2 sd se hu ⟨.bl _, H, I, rfl, q⟩
end
def kAdd : D → D → Option D
  | .int i, .int j => some (.int (i + j))
  | _, _ => none
def kSub : D → D → Option D
  | .int i, .int j => some (.int (i - j))
  | _, _ => none
def kMul : D → D → Option D
  | .int i, .int j => if i.natAbs.log2 + j.natAbs.log2 < 1000000 then some (.int (i * j)) else none
  | _, _ => none
def kDiv : D → D → Option D
  | .int i, .int j => if j ≠ 0 ∧ j.natAbs.log2 < 9000 then some (.int (i.fdiv j)) else none
  | _, _ => none
def kMod : D → D → Option D
  | .int i, .int j => if j ≠ 0 then some (.int (i.fmod j)) else none
  | _, _ => none
def kPow : D → D → Option D
  | .int i, .int j => if 0 ≤ j ∧ j ≤ 1000000 ∧ i.natAbs < 2 ^ 64 then some (.int (i ^ j.toNat)) else none
  | _, _ => none
def kLt : D → D → Option D
  | .int i, .int j => some (.bool (decide (i < j)))
  | _, _ => none
def kLe : D → D → Option D
  | .int i, .int j => some (.bool (decide (i ≤ j)))
  | _, _ => none
def kGt : D → D → Option D
  | .int i, .int j => some (.bool (decide (j < i)))
  | _, _ => none
def kGe : D → D → Option D
  | .int i, .int j => some (.bool (decide (j ≤ i)))
  | _, _ => none
def kEqD : D → D → Option D := fun a b => if SeqAt.shaped a = true ∧ SeqAt.shaped b = true then some (.bool (PyData.eqv a b)) else none
def kNeD : D → D → Option D := fun a b => if SeqAt.shaped a = true ∧ SeqAt.shaped b = true then some (.bool (!PyData.eqv a b)) else none
def kEq : D → D → Option D
  | .str x, .str y => some (.bool (decide (x = y)))
  | a, b => kEqD a b
def kNe : D → D → Option D
  | .str x, .str y => some (.bool (!decide (x = y)))
  | a, b => kNeD a b
theorem dp_int {K : Kx} {F : Hp} {v : V} {i : Int} (h : Dp K F v (.int i)) : v = .int i := by cases h; rfl
theorem dp_bl {K : Kx} {F : Hp} {v : V} {i : Bool} (h : Dp K F v (.bool i)) : v = .bl i := by cases h; rfl
theorem dp_str {K : Kx} {F : Hp} {v : V} {i : Str} (h : Dp K F v (.str i)) : v = .str i := by cases h; rfl
section
variable {K : Kx}
theorem okI0 {k : D → D → Option D} {g : Int → Int → V} {gd : Int → Int → D} (hk : ∀ a b z, k a b = some z → ∃ i j, a = .int i ∧ b = .int j ∧ z = gd i j) (hg : ∀ F i j, Dp K F (g i j) (gd i j)) : Ok2 K (rI0 g) k := by
  intro F H x y a b z Q fh ha hb e q
  obtain ⟨i, j, rfl, rfl, rfl⟩ := hk a b z e
  exact ⟨i, j, dp_int ha, dp_int hb, q _ F H (Gr.refl fh) (hg F i j)⟩
theorem okI {k : D → D → Option D} {c : Int → Int → Prop} {g : Int → Int → V} {gd : Int → Int → D} (hk : ∀ a b z, k a b = some z → ∃ i j, a = .int i ∧ b = .int j ∧ z = gd i j ∧ c i j) (hg : ∀ F i j, Dp K F (g i j) (gd i j)) : Ok2 K (rI c g) k := by
  intro F H x y a b z Q fh ha hb e q
  obtain ⟨i, j, rfl, rfl, rfl, hc⟩ := hk a b z e
  exact ⟨i, j, dp_int ha, dp_int hb, hc, q _ F H (Gr.refl fh) (hg F i j)⟩
theorem ok_sub : Ok2 K (rI0 fun i j => .int (i - j)) kSub := okI0 (gd := fun i j => .int (i - j)) (fun a b z e => by unfold kSub at e; split at e <;> cases e; exact ⟨_, _, rfl, rfl, rfl⟩) fun _ _ _ => .int _
theorem ok_lt : Ok2 K (rI0 fun i j => .bl (decide (i < j))) kLt := okI0 (gd := fun i j => .bool (decide (i < j))) (fun a b z e => by unfold kLt at e; split at e <;> cases e; exact ⟨_, _, rfl, rfl, rfl⟩) fun _ _ _ => .bl _
theorem ok_gt : Ok2 K (rI0 fun i j => .bl (decide (j < i))) kGt := okI0 (gd := fun i j => .bool (decide (j < i))) (fun a b z e => by unfold kGt at e; split at e <;> cases e; exact ⟨_, _, rfl, rfl, rfl⟩) fun _ _ _ => .bl _
theorem ok_ge : Ok2 K (rI0 fun i j => .bl (decide (j ≤ i))) kGe := okI0 (gd := fun i j => .bool (decide (j ≤ i))) (fun a b z e => by unfold kGe at e; split at e <;> cases e; exact ⟨_, _, rfl, rfl, rfl⟩) fun _ _ _ => .bl _
theorem ok_mul : Ok2 K (rI CMulW fun i j => .int (i * j)) kMul := okI (gd := fun i j => .int (i * j)) (fun a b z e => by
  unfold kMul at e; split at e
  · split at e <;> cases e
    rename_i h
    exact ⟨_, _, rfl, rfl, rfl, h⟩
  · cases e) fun _ _ _ => .int _
theorem ok_pow : Ok2 K (rI CPow fun i j => .int (i ^ j.toNat)) kPow := okI (gd := fun i j => .int (i ^ j.toNat)) (fun a b z e => by
  unfold kPow at e; split at e
  · split at e <;> cases e
    rename_i h
    exact ⟨_, _, rfl, rfl, rfl, h⟩
  · cases e) fun _ _ _ => .int _
def CDivG (_ j : Int) : Prop := j ≠ 0 ∧ j.natAbs.log2 < 9000
theorem op_fdivG {X : Cx} : OpR X (binaryOp .FloorDiv) (rI CDivG fun i j => .int (i.fdiv j)) := opI fun i j _ _ _ _ _ hc q => floordiv_int hc.1 q (.inl (PyProof.noPylong_of_log2 hc.2))
theorem ok_div : Ok2 K (rI CDivG fun i j => .int (i.fdiv j)) kDiv := okI (gd := fun i j => .int (i.fdiv j)) (fun a b z e => by
  unfold kDiv at e; split at e
  · split at e <;> cases e
    rename_i h
    exact ⟨_, _, rfl, rfl, rfl, h⟩
  · cases e) fun _ _ _ => .int _
theorem ok_mod : Ok2 K (rI (fun _ j => j ≠ 0) fun i j => .int (i.fmod j)) kMod := okI (gd := fun i j => .int (i.fmod j)) (fun a b z e => by
  unfold kMod at e; split at e
  · split at e <;> cases e
    rename_i h
    exact ⟨_, _, rfl, rfl, rfl, h⟩
  · cases e) fun _ _ _ => .int _
theorem ok_eqD : Ok2 K (rEqD K) kEqD := by
  intro F H x y a b z Q fh ha hb e q
  unfold kEqD at e
  split at e <;> cases e
  rename_i h
  exact ⟨a, b, Dp_up ha fh, Dp_up hb fh, h.1, h.2, q _ F H (Gr.refl fh) (.bl _)⟩
theorem ok_neD : Ok2 K (rNeD K) kNeD := by
  intro F H x y a b z Q fh ha hb e q
  unfold kNeD at e
  split at e <;> cases e
  rename_i h
  exact ⟨a, b, Dp_up ha fh, Dp_up hb fh, h.1, h.2, q _ F H (Gr.refl fh) (.bl _)⟩
theorem dec_strV (x y : Str) : decide (V.str x = V.str y) = decide (x = y) := by
  by_cases h : x = y
  · subst h; simp
  · rw [decide_eq_false h, decide_eq_false fun z => h (V.str.inj z)]
theorem ok_eq : Ok2 K (fun x y H Q => rEq x y H Q ∨ rEqD K x y H Q) kEq := by
  intro F H x y a b z Q fh ha hb e q
  unfold kEq at e
  split at e
  · cases e
    cases dp_str ha
    cases dp_str hb
    exact .inl ⟨rfl, by rw [dec_strV]; exact q _ F H (Gr.refl fh) (.bl _)⟩
  · exact .inr (ok_eqD F H x y a b z Q fh ha hb e q)
theorem ok_ne : Ok2 K (fun x y H Q => rNe x y H Q ∨ rNeD K x y H Q) kNe := by
  intro F H x y a b z Q fh ha hb e q
  unfold kNe at e
  split at e
  · cases e
    cases dp_str ha
    cases dp_str hb
    exact .inl ⟨rfl, by rw [dec_strV]; exact q _ F H (Gr.refl fh) (.bl _)⟩
  · exact .inr (ok_neD F H x y a b z Q fh ha hb e q)
end
section
variable {X : Cx} {C : Ct} {pos : Pos} {a b : Expr} {f g : EF}
theorem xd_sub (ha : PE X a (dOf (kxOf X) C f)) (hb : PE X b (dOf (kxOf X) C g)) : PE X (.BinOp a .Sub b pos) (dOf (kxOf X) C (bin2 kSub f g)) := xd_op op_sub ok_sub ha hb
theorem xd_mul (ha : PE X a (dOf (kxOf X) C f)) (hb : PE X b (dOf (kxOf X) C g)) : PE X (.BinOp a .Mult b pos) (dOf (kxOf X) C (bin2 kMul f g)) := xd_op op_mulW ok_mul ha hb
theorem xd_div (ha : PE X a (dOf (kxOf X) C f)) (hb : PE X b (dOf (kxOf X) C g)) : PE X (.BinOp a .FloorDiv b pos) (dOf (kxOf X) C (bin2 kDiv f g)) := xd_op op_fdivG ok_div ha hb
theorem xd_mod (ha : PE X a (dOf (kxOf X) C f)) (hb : PE X b (dOf (kxOf X) C g)) : PE X (.BinOp a .Mod b pos) (dOf (kxOf X) C (bin2 kMod f g)) := xd_op op_modN ok_mod ha hb
theorem xd_pow (ha : PE X a (dOf (kxOf X) C f)) (hb : PE X b (dOf (kxOf X) C g)) : PE X (.BinOp a .Pow b pos) (dOf (kxOf X) C (bin2 kPow f g)) := xd_op op_pow ok_pow ha hb
theorem xd_gt (ha : PE X a (dOf (kxOf X) C f)) (hb : PE X b (dOf (kxOf X) C g)) : PE X (.Compare a [.Gt] [b] pos) (dOf (kxOf X) C (bin2 kGt f g)) := xd_cmp op_gt ok_gt ha hb (nomark _)
theorem xd_eq (hu : X.A.units + 64 < cLine) (ha : PE X a (dOf (kxOf X) C f)) (hb : PE X b (dOf (kxOf X) C g)) : PE X (.Compare a [.Eq] [b] pos) (dOf (kxOf X) C (bin2 kEq f g)) := xd_cmp (op_eq.or (op_eqD hu)) ok_eq ha hb (nomark _)
end
def un1 (k : D → Option D) (f : EF) : EF := fun st => (f st).bind fun a => (k a.1).map fun z => (z, a.2)
def Ok1 (K : Kx) (r : V → Hp → VK → Prop) (k : D → Option D) : Prop :=
  ∀ (F H : Hp) (x : V) (a z : D) (Q : VK), Same F H → Dp K F x a → k a = some z → (∀ v F' H', Gr F H F' H' → Dp K F' v z → Q v H') → r x H Q
theorem un1_ok {K : Kx} {C : Ct} {r : V → Hp → VK → Prop} {k : D → Option D} {f : EF} (ok : Ok1 K r k) {σ : L2.St} {H : Hp} {Q : VK} (q : dOf K C (un1 k f) σ H Q) : dOf K C f σ H fun x H1 => r x H1 Q := by
  obtain ⟨F, st, w, R, e, q⟩ := q
  unfold un1 at e
  obtain ⟨a, ea, e⟩ := Option.bind_eq_some_iff.mp e
  obtain ⟨z, ez, e⟩ := Option.map_eq_some_iff.mp e
  cases e
  refine ⟨F, st, a, R, ea, fun v H1 F1 s1 R1 d1 => ?_⟩
  exact ok F1 H1 v a.1 z Q R1.fh d1 ez fun y F3 H3 g d3 => q y H3 F3 (s1.trans g.ff) (R1.grow g) d3
def kNeg : D → Option D
  | .int i => some (.int (-i))
  | _ => none
section
variable {X : Cx} {C : Ct} {pos : Pos} {a b : Expr} {f g : EF}
theorem xd_neg (ha : PE X a (dOf (kxOf X) C f)) : PE X (.UnaryOp .USub a pos) (dOf (kxOf X) C (un1 kNeg f)) := pe_wk (pe_un un_neg ha) fun σ H Q q => un1_ok (k := kNeg) (fun F H x a z Q fh ha e q => by
  unfold kNeg at e; split at e <;> cases e
  exact ⟨_, dp_int ha, q _ F H (Gr.refl fh) (.int _)⟩) q
theorem xd_b1 {id : String} {x : Str} {p : Pos} {r : List V → Hp → VK → Prop} {k : D → Option D} (hc : CallR X (.builtin id) r) (ok : Ok1 (kxOf X) (fun v => r [v]) k) (hm : X.mg x = none) (hv : bootBuiltins x = some (.builtin id)) (ha : PE X a (dOf (kxOf X) C f))
    (hg : Gl X x) (hn : x ≠ "__name__" := by decide) (hdb : (x == ("__debug__" : Str)) = false := by decide)
    (he : starEach [a] X.env = (false, eval a X.env) :: starEach [] X.env := by rfl) (hpl : (backTo pos (starEach [] X.env)).any (·.1) = false := by rfl) : PE X (.Call (.Name x p) [a] [] pos) (dOf (kxOf X) C (un1 k f)) :=
  pe_wk (pe_callB hc hg hm hv (pa_cons ha pa_nil he) hn hdb he hpl) fun σ H Q q => un1_ok ok q
theorem xd_t1 {T : String} {x : Str} {p : Pos} {r : List V → Hp → VK → Prop} {k : D → Option D} (hc : CallR X (.type T) r) (ok : Ok1 (kxOf X) (fun v => r [v]) k) (hm : X.mg x = none) (hv : bootBuiltins x = some (.type T)) (ha : PE X a (dOf (kxOf X) C f))
    (hg : Gl X x) (hn : x ≠ "__name__" := by decide) (hdb : (x == ("__debug__" : Str)) = false := by decide)
    (he : starEach [a] X.env = (false, eval a X.env) :: starEach [] X.env := by rfl) (hpl : (backTo pos (starEach [] X.env)).any (·.1) = false := by rfl) : PE X (.Call (.Name x p) [a] [] pos) (dOf (kxOf X) C (un1 k f)) :=
  pe_wk (pe_callTy hc hg hm hv (pa_cons ha pa_nil he) hn hdb he hpl) fun σ H Q q => un1_ok ok q
end
def kAbs : D → Option D
  | .int i => some (.int (if i < 0 then -i else i))
  | _ => none
theorem cr_or {X : Cx} {id : String} {r r' : List V → Hp → VK → Prop} (h : CallR X (.builtin id) r) (h' : CallR X (.builtin id) r') : CallR X (.builtin id) (fun xs H Q => r xs H Q ∨ r' xs H Q) := fun pins s σ H xs us Q I rv q => q.elim (fun q => h pins s σ H xs us Q I rv q) fun q => h' pins s σ H xs us Q I rv q
def kLen : D → Option D
  | .list xs => some (.int xs.length)
  | .tuple xs => some (.int xs.length)
  | .dict kvs => some (.int kvs.length)
  | _ => none
def kInt : D → Option D
  | .int i => some (.int i)
  | .bool b => some (.int (if b then 1 else 0))
  | _ => none
def kList : D → Option D
  | .list xs => some (.list xs)
  | .tuple xs => some (.list xs)
  | _ => none
def kTuple : D → Option D
  | .list xs => some (.tuple xs)
  | .tuple xs => some (.tuple xs)
  | _ => none
section
variable {X : Cx} {C : Ct} {pos p : Pos} {a b : Expr} {f g : EF}
theorem xd_abs (hm : X.mg "abs" = none) (ha : PE X a (dOf (kxOf X) C f)) (hg : Gl X "abs" := by rfl) (he : starEach [a] X.env = (false, eval a X.env) :: starEach [] X.env := by rfl) : PE X (.Call (.Name "abs" p) [a] [] pos) (dOf (kxOf X) C (un1 kAbs f)) :=
  xd_b1 call_abs (fun F H x a z Q fh ha e q => by
    unfold kAbs at e; split at e <;> cases e
    exact ⟨_, by rw [dp_int ha], q _ F H (Gr.refl fh) (.int _)⟩) hm (by decide +kernel) ha hg (he := he)
theorem xd_len (hm : X.mg "len" = none) (ha : PE X a (dOf (kxOf X) C f)) (hg : Gl X "len" := by rfl) (he : starEach [a] X.env = (false, eval a X.env) :: starEach [] X.env := by rfl) : PE X (.Call (.Name "len" p) [a] [] pos) (dOf (kxOf X) C (un1 kLen f)) :=
  xd_b1 (cr_or call_len_seq call_lenD) (fun F H x a z Q fh ha e q => by
    unfold kLen at e; split at e <;> cases e
    · cases ha with
      | lst hs hv => exact .inl ⟨_, _, rfl, .inl (sql_up fh hs), by rw [DpAll_len hv]; exact q _ F H (Gr.refl fh) (.int _)⟩
    · cases ha with
      | tup hs hv => exact .inl ⟨_, _, rfl, .inr (sqt_up fh hs), by rw [DpAll_len hv]; exact q _ F H (Gr.refl fh) (.int _)⟩
    · exact .inr ⟨_, F, _, rfl, rdict_of ha fh, q _ F H (Gr.refl fh) (.int _)⟩) hm (by decide +kernel) ha hg (he := he)
theorem xd_tolist (hm : X.mg "list" = none) (ha : PE X a (dOf (kxOf X) C f)) (hg : Gl X "list" := by rfl) (he : starEach [a] X.env = (false, eval a X.env) :: starEach [] X.env := by rfl) : PE X (.Call (.Name "list" p) [a] [] pos) (dOf (kxOf X) C (un1 kList f)) :=
  xd_t1 call_list_of (fun F H x a z Q fh ha e q => by
    unfold kList at e; split at e <;> cases e
    · cases ha with
      | lst hs hv => exact ⟨_, _, rfl, .inl (sql_up fh hs), fun l hl => q _ _ _ (Gr.new fh hl) (.lst (.inl (.inl upd_same)) (DpAll_up hv (same_upd (fh.free hl))))⟩
    · cases ha with
      | tup hs hv => exact ⟨_, _, rfl, .inr (sqt_up fh hs), fun l hl => q _ _ _ (Gr.new fh hl) (.lst (.inl (.inl upd_same)) (DpAll_up hv (same_upd (fh.free hl))))⟩) hm (by decide +kernel) ha hg (he := he)
end
def nilA : LF := fun st => some ([], st)
def consA (f : EF) (g : LF) : LF := fun st => (f st).bind fun a => (g a.2).map fun b => (a.1 :: b.1, b.2)
def tupF (g : LF) : EF := fun st => (g st).bind fun b => if b.1.length ≤ sizeLine then some (.tuple b.1, b.2) else none
def lstF (g : LF) : EF := fun st => (g st).bind fun b => if b.1.length ≤ sizeLine then some (.list b.1, b.2) else none
def newF (g : LF) : LF := fun st => (g st).bind fun b => if b.1.length ≤ sizeLine then some b else none
section
variable {X : Cx} {C : Ct} {pos : Pos} {e : Expr} {es : List Expr} {f : EF} {g : LF}
theorem xa_nil : PA X [] (aOf (kxOf X) C nilA) := pa_wk pa_nil fun σ H Q q => by
  obtain ⟨F, st, w, R, e, q⟩ := q
  cases e
  exact q [] H F (Same.refl _) R .nil
theorem xa_cons (ha : PE X e (dOf (kxOf X) C f)) (hr : PA X es (aOf (kxOf X) C g)) (hs : starEach (e :: es) X.env = (false, eval e X.env) :: starEach es X.env := by rfl) : PA X (e :: es) (aOf (kxOf X) C (consA f g)) :=
  pa_wk (pa_cons ha hr hs) fun σ H Q q => by
    obtain ⟨F, st, w, R, e, q⟩ := q
    obtain ⟨a, ea, e⟩ := Option.bind_eq_some_iff.mp e
    obtain ⟨b, eb, e⟩ := Option.map_eq_some_iff.mp e
    cases e
    refine ⟨F, st, a, R, ea, fun v H1 F1 s1 R1 d1 => ?_⟩
    exact ⟨F1, a.2, b, R1, eb, fun vs H2 F2 s2 R2 d2 => q (v :: vs) H2 F2 (s1.trans s2) R2 (.cons (Dp_up d1 s2) d2)⟩
theorem pe_tupN {x1 : Nat} {t : TA} (h : PA X es t) : PE X (.Tuple es x1 pos) (fun σ H Q => t σ H fun xs H1 => xs.length ≤ sizeLine ∧ ∀ (p : Addr) (its : List Value), H1 p = none → Q (.ref p) (upd H1 p (.frz (tupO its) (.tup xs)))) := by
  refine ⟨fun pins s σ H Q I hq => ?_⟩
  refine wpAny_Tuple_spliced (thn (h.run pos pins s σ H _ I hq) fun us s1 ⟨xs, H1, I1, r, z, q⟩ => ⟨by rw [← r.length]; exact z, ?_⟩)
  exact ⟨.ref s1.heap.objs.size, _, I1.laid (t' := s1.toks) (fun b u e => Heap.get?_push_of_some _ e) (Nat.le_refl _) (tupN_ok z r (Heap.get?_push_size _ rfl)), rfl, q _ us (I1.hok.fresh (Nat.le_refl _))⟩
theorem xd_tup {x1} (h : PA X es (aOf (kxOf X) C g)) : PE X (.Tuple es x1 pos) (dOf (kxOf X) C (tupF g)) := pe_wk (pe_tupN h) fun σ H Q q => by
  obtain ⟨F, st, w, R, e, q⟩ := q
  obtain ⟨b, eb, e⟩ := Option.bind_eq_some_iff.mp e
  split at e <;> cases e
  rename_i hl
  refine ⟨F, st, b, R, eb, fun vs H1 F1 s1 R1 d1 => ⟨by rw [DpAll_len d1]; exact hl, fun p its hp => ?_⟩⟩
  have gr := Gr.new (o := .frz (tupO its) (.tup vs)) R1.fh hp
  exact q _ _ _ (s1.trans gr.ff) (R1.grow gr) (.tup (TupQ.new upd_same) (DpAll_up d1 gr.ff))
theorem xd_lst (h : PA X es (aOf (kxOf X) C g)) : PE X (.List es pos) (dOf (kxOf X) C (lstF g)) := pe_wk (pe_lst h) fun σ H Q q => by
  obtain ⟨F, st, w, R, e, q⟩ := q
  obtain ⟨b, eb, e⟩ := Option.bind_eq_some_iff.mp e
  split at e <;> cases e
  rename_i hl
  refine ⟨F, st, b, R, eb, fun vs H1 F1 s1 R1 d1 => ⟨by rw [DpAll_len d1]; exact hl, fun p hp => ?_⟩⟩
  have gr := Gr.new (o := .lst vs) R1.fh hp
  exact q _ _ _ (s1.trans gr.ff) (R1.grow gr) (.lst (.inl (.inl upd_same)) (DpAll_up d1 gr.ff))
end
def kIx : D → D → Option D
  | .list xs, .int i => atI xs i
  | .tuple xs, .int i => atI xs i
  | .dict kvs, k => (dGet kvs k).bind id
  | _, _ => none
theorem atI_dp {K : Kx} {F : Hp} {vs : List V} {ds : List D} {i : Int} {d : D} (h : DpAll K F vs ds) (e : atI ds i = some d) : ∃ v, atI vs i = some v ∧ Dp K F v d := by
  unfold atI at e ⊢
  rw [DpAll_len h]
  obtain ⟨j, ej, e⟩ := Option.bind_eq_some_iff.mp e
  obtain ⟨v, h1, h2⟩ := DpAll_get h e
  exact ⟨v, by rw [ej]; exact h1, h2⟩
theorem ok_ix {K : Kx} : Ok2 K (fun x y H Q => (rIxL K.K x y H Q ∨ rIxT K.K x y H Q) ∨ rIxD K x y H Q) kIx := by
  intro F H x y a b z Q fh ha hb e q
  unfold kIx at e
  split at e
  · cases ha with
    | lst hs hv =>
      obtain ⟨v, h1, h2⟩ := atI_dp hv e
      exact .inl (.inl ⟨_, _, _, v, rfl, dp_int hb, sql_up fh hs, h1, q v F H (Gr.refl fh) h2⟩)
  · cases ha with
    | tup hs hv =>
      obtain ⟨v, h1, h2⟩ := atI_dp hv e
      exact .inl (.inr ⟨_, _, _, v, rfl, dp_int hb, sqt_up fh hs, h1, q v F H (Gr.refl fh) h2⟩)
  · obtain ⟨o, eo, e⟩ := Option.bind_eq_some_iff.mp e
    obtain rfl : o = some z := e
    exact .inr ⟨F, _, _, z, rdict_of ha fh, hb, eo, fun v dv => q v F H (Gr.refl fh) dv⟩
  · cases e
theorem ix_or {X : Cx} {r r' : R2} (h : IxR X r) (h' : IxR X r') : IxR X (fun x y H Q => r x y H Q ∨ r' x y H Q) := fun value slice pins s σ H x y v u Q I rx ry q hs =>
  q.elim (fun q => h value slice pins s σ H x y v u Q I rx ry q hs) fun q => h' value slice pins s σ H x y v u Q I rx ry q hs
section
variable {X : Cx} {C : Ct} {pos : Pos} {a b : Expr} {f g : EF}
theorem xd_item (hu : X.A.units + 65 < cLine) (ha : PE X a (dOf (kxOf X) C f)) (hb : PE X b (dOf (kxOf X) C g)) (hs : PlainIx b := by exact fun _ _ => rfl) : PE X (.Subscript a b pos) (dOf (kxOf X) C (bin2 kIx f g)) := xd_ix (ix_or (ix_or ix_list ix_tup) (ix_dict hu)) ok_ix ha hb hs
end
def muC (st : AS) (i : Nat) : Option (List D) := match st[i]? with
  | some (.own xs) => some xs
  | some (.pen xs) => some xs
  | _ => none
def putM (st : AS) (i : Nat) (xs : List D) : AS := match st[i]? with
  | some (.own _) => st.set i (.own xs)
  | some (.pen _) => st.set i (.pen xs)
  | _ => st
section
variable {K : Kx} {C : Ct} {F F' H H' : Hp} {st : AS} {σ : L2.St}
theorem mu_of {i : Nat} {xs : List D} (h : muC st i = some xs) : st[i]? = some (.own xs) ∨ st[i]? = some (.pen xs) := by
  unfold muC at h
  split at h <;> cases h
  · exact .inl (by assumption)
  · exact .inr (by assumption)
theorem mu_Mu {i : Nat} {xs : List D} (h : muC st i = some xs) : Mu st i := (mu_of h).elim (fun e => ⟨_, e, rfl⟩) fun e => ⟨_, e, rfl⟩
theorem Rel.mu {i : Nat} {xs : List D} (R : Rel K C F st σ H) (h : muC st i = some xs) : ∃ a, σ[i]? = some (some (.ref a)) ∧ Lst K F H a xs ∧ (C.H0 a = none ∨ C.pen = some a) := by
  rcases mu_of h with e | e
  · obtain ⟨a, h1, h2, h3⟩ := R.slot i _ e
    exact ⟨a, h1, h3, .inl h2⟩
  · obtain ⟨a, h1, h2, h3⟩ := R.slot i _ e
    exact ⟨a, h1, h3, .inr h2⟩
theorem putM_len (i : Nat) (xs : List D) : (putM st i xs).length = st.length := by
  unfold putM
  split <;> simp
theorem Rel.put {i : Nat} {xs ys : List D} {a : Addr} {us : List V} (R : Rel K C F st σ H) (h : muC st i = some xs) (ha : σ[i]? = some (some (.ref a))) (hu : DpAll K F us ys) : Rel K C F (putM st i ys) σ (upd H a (.lst us)) := by
  obtain ⟨b, h1, ⟨hF, vs, hH, hv⟩, h3⟩ := R.mu h
  rw [ha] at h1
  cases h1
  have hm : Mu st i := mu_Mu h
  have hi : i < st.length := by
    rcases mu_of h with e | e <;> exact (List.getElem?_eq_some_iff.mp e).1
  have put_ne : ∀ j, j ≠ i → (putM st i ys)[j]? = st[j]? := fun j e => by
    unfold putM
    split <;> first | rfl | rw [List.getElem?_set_ne (Ne.symm e)]
  have put_eq : (st[i]? = some (.own xs) ∧ (putM st i ys)[i]? = some (.own ys)) ∨ (st[i]? = some (.pen xs) ∧ (putM st i ys)[i]? = some (.pen ys)) := by
    rcases mu_of h with e | e
    · refine .inl ⟨e, ?_⟩
      unfold putM
      rw [e]
      exact List.getElem?_set_self hi
    · refine .inr ⟨e, ?_⟩
      unfold putM
      rw [e]
      exact List.getElem?_set_self hi
  have mu_back : ∀ j, Mu (putM st i ys) j → Mu st j := fun j hj => by
    by_cases e : j = i
    · subst e; exact hm
    · unfold Mu at hj ⊢
      rw [put_ne j e] at hj
      exact hj
  refine ⟨(putM_len i ys).trans R.len, R.f0, fun b o e => ?_, fun b o e hp => ?_, R.new, fun j s hj => ?_, fun j k b hj hk => R.apart j k b (mu_back j hj) (mu_back k hk), R.penh, fun p hp => ?_, R.tab.up (Same.refl _) fun P ps _ e => (upd_ne (fun z => by subst z; rw [hH] at e; cases e)).trans e⟩
  · rw [upd_ne (fun z => by subst z; rw [hF] at e; cases e)]
    exact R.fh b o e
  · have hb : b ≠ a := fun z => by
      subst z
      rcases h3 with q | q
      · rw [q] at e; cases e
      · exact hp q
    rw [upd_ne hb]
    exact R.old b o e hp
  · by_cases e : j = i
    · subst e
      rcases put_eq with ⟨e1, e2⟩ | ⟨e1, e2⟩
      · rw [e2] at hj
        cases hj
        obtain ⟨b, q1, q2, q3⟩ := R.slot j _ e1
        rw [ha] at q1
        cases q1
        exact ⟨a, ha, q2, hF, us, upd_same, hu⟩
      · rw [e2] at hj
        cases hj
        obtain ⟨b, q1, q2, q3⟩ := R.slot j _ e1
        rw [ha] at q1
        cases q1
        exact ⟨a, ha, q2, hF, us, upd_same, hu⟩
    · rw [put_ne j e] at hj
      have q := R.slot j s hj
      cases s with
      | no => trivial
      | dat d => exact q
      | own zs =>
        obtain ⟨b, q1, q2, q3, ws, q4, q5⟩ := q
        have hb : b ≠ a := fun z => by
          subst z
          exact e (R.apart j i b ⟨_, hj, rfl⟩ hm q1 ha)
        exact ⟨b, q1, q2, q3, ws, by rw [upd_ne hb]; exact q4, q5⟩
      | pen zs =>
        obtain ⟨b, q1, q2, q3, ws, q4, q5⟩ := q
        have hb : b ≠ a := fun z => by
          subst z
          exact e (R.apart j i b ⟨_, hj, rfl⟩ hm q1 ha)
        exact ⟨b, q1, q2, q3, ws, by rw [upd_ne hb]; exact q4, q5⟩
      | dct kvs =>
        obtain ⟨b, q1, q2, q3, w, q4, q5⟩ := q
        have hb : b ≠ a := fun z => by
          subst z
          exact e (R.apart j i b ⟨_, hj, rfl⟩ hm q1 ha)
        exact ⟨b, q1, q2, q3, w, by rw [upd_ne hb]; exact q4, q5⟩
      | pdc kvs =>
        obtain ⟨b, q1, q2, q3, w, q4, q5⟩ := q
        have hb : b ≠ a := fun z => by
          subst z
          exact e (R.apart j i b ⟨_, hj, rfl⟩ hm q1 ha)
        exact ⟨b, q1, q2, q3, w, by rw [upd_ne hb]; exact q4, q5⟩
      | obj o => exact q
  · by_cases e : p = a
    · subst e; rw [upd_same]; simp
    · rw [upd_ne e]; exact R.pent p hp
end
def ixM (i : Nat) (g : EF) : EF := fun st => (muC st i).bind fun _ => (g st).bind fun b => (muC b.2 i).bind fun xs => (kIx (.list xs) b.1).map fun z => (z, b.2)
def lenM (i : Nat) : EF := fun st => (muC st i).map fun xs => (.int xs.length, st)
def appM (i : Nat) (g : EF) : EF := fun st => (muC st i).bind fun _ => (g st).bind fun b => (muC b.2 i).bind fun xs => if xs.length < sizeLine then some (.none, putM b.2 i (xs ++ [b.1])) else none
section
variable {X : Cx} {C : Ct} {pos p apos : Pos} {a b : Expr} {f g : EF}
theorem xd_itemM {i : Nat} (ha : PE X a (tVar i)) (hb : PE X b (dOf (kxOf X) C g)) (hs : PlainIx b := by exact fun _ _ => rfl) : PE X (.Subscript a b pos) (dOf (kxOf X) C (ixM i g)) :=
  pe_wk (pe_ix ix_list ha hb hs) fun σ H Q q => by
    obtain ⟨F, st, w, R, e, q⟩ := q
    obtain ⟨x0, e0, e⟩ := Option.bind_eq_some_iff.mp e
    obtain ⟨b, eb, e⟩ := Option.bind_eq_some_iff.mp e
    obtain ⟨xs, ex, e⟩ := Option.bind_eq_some_iff.mp e
    obtain ⟨z, ez, e⟩ := Option.map_eq_some_iff.mp e
    cases e
    obtain ⟨p, h1, _, _⟩ := R.mu e0
    refine ⟨.ref p, h1, F, st, b, R, eb, fun y H1 F1 s1 R1 d1 => ?_⟩
    obtain ⟨p', h1', ⟨hF, vs, hH, hv⟩, _⟩ := R1.mu ex
    rw [h1] at h1'
    cases h1'
    unfold kIx at ez
    split at ez
    · rename_i e1 e2
      cases e1
      obtain ⟨v, h2, h3⟩ := atI_dp hv ez
      exact ⟨p, vs, _, v, rfl, dp_int (e2 ▸ d1), .inl (.inl hH), h2, q v H1 F1 s1 R1 h3⟩
    · rename_i e1 _
      cases e1
    · rename_i e1
      cases e1
    · cases ez
end
end Xm
set_option Elab.async false
set_option linter.all false
set_option maxRecDepth 100000
namespace Xm
open PySem PySem.Spec PyProof.Rows L2
def valB (f : EF) : BF := fun st => (f st).bind fun a => match a.1 with
  | .bool b => some (b, a.2)
  | _ => none
def andB (f g : BF) : BF := fun st => (f st).bind fun a => if a.1 = true then g a.2 else some (false, a.2)
def orB (f g : BF) : BF := fun st => (f st).bind fun a => if a.1 = true then some (true, a.2) else g a.2
def notB (f : BF) : BF := fun st => (f st).map fun a => (!a.1, a.2)
def boolE (f : BF) : EF := fun st => (f st).map fun a => (.bool a.1, a.2)
def ifE (c : BF) (f g : EF) : EF := fun st => (c st).bind fun a => if a.1 = true then f a.2 else g a.2
section
variable {X : Cx} {C : Ct} {pos : Pos} {a b c e : Expr} {rest : List Expr} {f g : EF} {u v : BF}
theorem xt_val (h : PE X e (dOf (kxOf X) C f)) (he : ∀ whole, isTrue e X.env whole = (do let v ← whole; standAt e.pos; holding [v] (truthy v)) := by intro _; rfl) : PT X e (bOf (kxOf X) C (valB f)) := pt_wk (pt_val h he) fun σ H Q q => by
  obtain ⟨F, st, w, R, e, q⟩ := q
  obtain ⟨a, ea, e⟩ := Option.bind_eq_some_iff.mp e
  split at e
  · rename_i b hb
    cases e
    exact ⟨F, st, a, R, ea, fun v H1 F1 s1 R1 d1 => ⟨b, dp_bl (hb ▸ d1), q H1 F1 s1 R1⟩⟩
  · cases e
theorem xt_cmp {op : CmpOp} {r : R2} {k : D → D → Option D} (ho : OpR X (compareOp op) r) (ok : Ok2 (kxOf X) r k) (ha : PE X a (dOf (kxOf X) C f)) (hb : PE X b (dOf (kxOf X) C g)) (hm : behindInMarks op b = false) : PT X (.Compare a [op] [b] pos) (bOf (kxOf X) C (valB (bin2 k f g))) :=
  pt_wk (pt_cmpR ho ha hb hm) fun σ H Q q => by
    obtain ⟨F, st, w, R, e, q⟩ := q
    obtain ⟨a, ea, e⟩ := Option.bind_eq_some_iff.mp e
    split at e
    · rename_i b hb
      cases e
      refine bin2_ok (C := C) ok ⟨F, st, a, R, ea, fun v H1 F1 s1 R1 d1 => ⟨b, dp_bl (hb ▸ d1), q H1 F1 s1 R1⟩⟩
    · cases e
theorem xt_lt (ha : PE X a (dOf (kxOf X) C f)) (hb : PE X b (dOf (kxOf X) C g)) : PT X (.Compare a [.Lt] [b] pos) (bOf (kxOf X) C (valB (bin2 kLt f g))) := xt_cmp op_lt ok_lt ha hb (nomark _)
theorem xt_gt (ha : PE X a (dOf (kxOf X) C f)) (hb : PE X b (dOf (kxOf X) C g)) : PT X (.Compare a [.Gt] [b] pos) (bOf (kxOf X) C (valB (bin2 kGt f g))) := xt_cmp op_gt ok_gt ha hb (nomark _)
theorem xt_ge (ha : PE X a (dOf (kxOf X) C f)) (hb : PE X b (dOf (kxOf X) C g)) : PT X (.Compare a [.GtE] [b] pos) (bOf (kxOf X) C (valB (bin2 kGe f g))) := xt_cmp op_ge ok_ge ha hb (nomark _)
theorem xt_eq (hu : X.A.units + 64 < cLine) (ha : PE X a (dOf (kxOf X) C f)) (hb : PE X b (dOf (kxOf X) C g)) : PT X (.Compare a [.Eq] [b] pos) (bOf (kxOf X) C (valB (bin2 kEq f g))) := xt_cmp (op_eq.or (op_eqD hu)) ok_eq ha hb (nomark _)
theorem xt_ne (hu : X.A.units + 64 < cLine) (ha : PE X a (dOf (kxOf X) C f)) (hb : PE X b (dOf (kxOf X) C g)) : PT X (.Compare a [.NotEq] [b] pos) (bOf (kxOf X) C (valB (bin2 kNe f g))) := xt_cmp (op_ne.or (op_neD hu)) ok_ne ha hb (nomark _)
theorem andB_ok {K : Kx} {σ : L2.St} {H : Hp} {Q : Bool → Hp → Prop} (q : bOf K C (andB u v) σ H Q) : tAnd (bOf K C u) (bOf K C v) σ H Q := by
  obtain ⟨F, st, w, R, e, q⟩ := q
  obtain ⟨a, ea, e⟩ := Option.bind_eq_some_iff.mp e
  refine ⟨F, st, a, R, ea, fun H1 F1 s1 R1 => ?_⟩
  dsimp only
  split
  · rename_i h
    rw [if_pos h] at e
    exact ⟨F1, a.2, w, R1, e, fun H2 F2 s2 R2 => q H2 F2 (s1.trans s2) R2⟩
  · rename_i h
    rw [if_neg h] at e
    cases e
    exact q H1 F1 s1 R1
theorem orB_ok {K : Kx} {σ : L2.St} {H : Hp} {Q : Bool → Hp → Prop} (q : bOf K C (orB u v) σ H Q) : tOr (bOf K C u) (bOf K C v) σ H Q := by
  obtain ⟨F, st, w, R, e, q⟩ := q
  obtain ⟨a, ea, e⟩ := Option.bind_eq_some_iff.mp e
  refine ⟨F, st, a, R, ea, fun H1 F1 s1 R1 => ?_⟩
  dsimp only
  split
  · rename_i h
    rw [if_pos h] at e
    cases e
    exact q H1 F1 s1 R1
  · rename_i h
    rw [if_neg h] at e
    exact ⟨F1, a.2, w, R1, e, fun H2 F2 s2 R2 => q H2 F2 (s1.trans s2) R2⟩
theorem xw_and1 (ha : PT X a (bOf (kxOf X) C u)) : PW X (.BoolOp .And [a] pos) (bOf (kxOf X) C u) := pw_and1 ha
theorem xw_or1 (ha : PT X a (bOf (kxOf X) C u)) : PW X (.BoolOp .Or [a] pos) (bOf (kxOf X) C u) := pw_or1 ha
theorem xw_and (ha : PT X a (bOf (kxOf X) C u)) (hb : PW X (.BoolOp .And (b :: rest) pos) (bOf (kxOf X) C v)) : PW X (.BoolOp .And (a :: b :: rest) pos) (bOf (kxOf X) C (andB u v)) := pw_wk (pw_and ha hb) fun _ _ _ q => andB_ok q
theorem xw_or (ha : PT X a (bOf (kxOf X) C u)) (hb : PW X (.BoolOp .Or (b :: rest) pos) (bOf (kxOf X) C v)) : PW X (.BoolOp .Or (a :: b :: rest) pos) (bOf (kxOf X) C (orB u v)) := pw_wk (pw_or ha hb) fun _ _ _ q => orB_ok q
theorem xt_w (h : PW X e (bOf (kxOf X) C u)) : PT X e (bOf (kxOf X) C u) := h.pt
theorem xt_not (ha : PT X a (bOf (kxOf X) C u)) : PT X (.UnaryOp .Not a pos) (bOf (kxOf X) C (notB u)) := pt_wk (pt_not ha) fun σ H Q q => by
  obtain ⟨F, st, w, R, e, q⟩ := q
  obtain ⟨a, ea, e⟩ := Option.map_eq_some_iff.mp e
  cases e
  exact ⟨F, st, a, R, ea, fun H1 F1 s1 R1 => q H1 F1 s1 R1⟩
theorem valB_ok {K : Kx} {σ : L2.St} {H : Hp} {Q : VK} {st : AS} {F : Hp} {w : Bool × AS} (R : Rel K C F st σ H) (e : valB f st = some w) (q : ∀ H' F', Same F F' → Rel K C F' w.2 σ H' → Q (.bl w.1) H') : dOf K C f σ H Q := by
  obtain ⟨a, ea, e⟩ := Option.bind_eq_some_iff.mp e
  split at e
  · rename_i b hb
    cases e
    exact ⟨F, st, a, R, ea, fun v H1 F1 s1 R1 d1 => by
      have hv := dp_bl (hb ▸ d1)
      subst hv
      exact q H1 F1 s1 R1⟩
  · cases e
theorem xd_one {op} (h : PE X a (dOf (kxOf X) C f)) : PE X (.BoolOp op [a] pos) (dOf (kxOf X) C (boolE (valB f))) := pe_wk (pe_one h) fun σ H Q q => by
  obtain ⟨F, st, w, R, e, q⟩ := q
  obtain ⟨a, ea, e⟩ := Option.map_eq_some_iff.mp e
  cases e
  exact valB_ok R ea fun H1 F1 s1 R1 => q _ H1 F1 s1 R1 (.bl _)
theorem xd_and (ha : PE X a (dOf (kxOf X) C f)) (hb : PE X (.BoolOp .And (b :: rest) pos) (dOf (kxOf X) C (boolE v))) : PE X (.BoolOp .And (a :: b :: rest) pos) (dOf (kxOf X) C (boolE (andB (valB f) v))) := pe_wk (pe_and ha hb) fun σ H Q q => by
  obtain ⟨F, st, w, R, e, q⟩ := q
  obtain ⟨a, ea, e⟩ := Option.map_eq_some_iff.mp e
  cases e
  obtain ⟨b, eb, e⟩ := Option.bind_eq_some_iff.mp ea
  refine valB_ok R eb fun H1 F1 s1 R1 => ⟨b.1, rfl, ?_⟩
  split
  · rename_i h
    rw [if_pos h] at e
    refine ⟨F1, b.2, (.bool a.1, a.2), R1, by unfold boolE; rw [e]; rfl, fun v H2 F2 s2 R2 d2 => q v H2 F2 (s1.trans s2) R2 d2⟩
  · rename_i h
    rw [if_neg h] at e
    cases e
    exact q _ H1 F1 s1 R1 (.bl _)
theorem xd_not (ha : PE X a (dOf (kxOf X) C f)) : PE X (.UnaryOp .Not a pos) (dOf (kxOf X) C (boolE (notB (valB f)))) := pe_wk (pe_not ha) fun σ H Q q => by
  obtain ⟨F, st, w, R, e, q⟩ := q
  obtain ⟨a, ea, e⟩ := Option.map_eq_some_iff.mp e
  cases e
  obtain ⟨b, eb, e⟩ := Option.map_eq_some_iff.mp ea
  cases e
  exact valB_ok R eb fun H1 F1 s1 R1 => ⟨b.1, rfl, q _ H1 F1 s1 R1 (.bl _)⟩
end
inductive RV where
  | val (d : D)
  | new (xs : List D)
  | dct (kvs : List (D × D))
  | exc (x : Ex)
inductive Fl where
  | nx
  | ret (r : RV)
  | brk
  | cont
abbrev SF := AS → Option (Fl × AS)
def ROk (K : Kx) (C : Ct) (F H : Hp) (v : V) : RV → Prop
  | .val d => Dp K F v d
  | .new xs => ∃ a, v = .ref a ∧ C.H0 a = none ∧ Lst K F H a xs
  | .dct kvs => ∃ a, v = .ref a ∧ C.H0 a = none ∧ Dct K F H a kvs
  | .exc _ => False
def RetQ (K : Kx) (C : Ct) (Z : Ends) (F : Hp) (st : AS) : RV → Prop
  | .exc x => ∀ cls d σ' H' F', Same F F' → Rel K C F' st σ' H' → ExOk K F' x cls d → C.W cls d σ' H'
  | .val d => ∀ v σ' H' F', Same F F' → Rel K C F' st σ' H' → ROk K C F' H' v (.val d) → Z.rt v H'
  | .new xs => ∀ v σ' H' F', Same F F' → Rel K C F' st σ' H' → ROk K C F' H' v (.new xs) → Z.rt v H'
  | .dct kvs => ∀ v σ' H' F', Same F F' → Rel K C F' st σ' H' → ROk K C F' H' v (.dct kvs) → Z.rt v H'
theorem RetQ.up {K : Kx} {C : Ct} {Z : Ends} {F F' : Hp} {st : AS} {r : RV} (q : RetQ K C Z F st r) (e : Same F F') : RetQ K C Z F' st r := by
  cases r with
  | exc x => exact fun cls d σ' H' F2 s2 => q cls d σ' H' F2 (e.trans s2)
  | val d => exact fun v σ' H' F2 s2 => q v σ' H' F2 (e.trans s2)
  | new d => exact fun v σ' H' F2 s2 => q v σ' H' F2 (e.trans s2)
  | dct d => exact fun v σ' H' F2 s2 => q v σ' H' F2 (e.trans s2)
section
variable (K : Kx) (C : Ct)
def sOf (g : SF) : TS := fun Z σ H => ∃ F st w, Rel K C F st σ H ∧ g st = some w ∧ match w.1 with
  | .nx => ∀ σ' H' F', Same F F' → Rel K C F' w.2 σ' H' → Z.nx σ' H'
  | .brk => ∀ σ' H' F', Same F F' → Rel K C F' w.2 σ' H' → Z.bk σ' H'
  | .cont => ∀ σ' H' F', Same F F' → Rel K C F' w.2 σ' H' → Z.ct σ' H'
  | .ret r => RetQ K C Z F w.2 r
def gOf (u : D → AS → Option AS) (ts : List Nat) : TG := fun v σ H Q => ∃ F st d st', Rel K C F st σ H ∧ Dp K F v d ∧ u d st = some st' ∧ ∀ σ' H' F', Same F F' → Rel K C F' st' σ' H' → σ'.length = σ.length → (∀ j, j ∉ ts → σ'[j]? = σ[j]?) → Q σ' H'
end
def seqS (f g : SF) : SF := fun st => (f st).bind fun w => match w.1 with
  | .nx => g w.2
  | _ => some w
def skipS : SF := fun st => some (.nx, st)
def neverS : SF := fun _ => none
def retS (f : EF) : SF := fun st => (f st).map fun a => (.ret (.val a.1), a.2)
def retN (g : LF) : SF := fun st => (g st).map fun a => (.ret (.new a.1), a.2)
def dropS (f : EF) : SF := fun st => (f st).map fun a => (.nx, a.2)
def ifS (c : BF) (f g : SF) : SF := fun st => (c st).bind fun a => if a.1 = true then f a.2 else g a.2
def setD (i : Nat) (d : D) (st : AS) : Option AS := match st[i]? with
  | some (.pen _) => none
  | some _ => some (st.set i (.dat d))
  | none => none
def setO (i : Nat) (xs : List D) (st : AS) : Option AS := match st[i]? with
  | some (.pen _) => none
  | some _ => some (st.set i (.own xs))
  | none => none
def asgS (i : Nat) (f : EF) : SF := fun st => (f st).bind fun a => (setD i a.1 a.2).map fun st' => (.nx, st')
def asgN (i : Nat) (g : LF) : SF := fun st => (g st).bind fun a => (setO i a.1 a.2).map fun st' => (.nx, st')
section
variable {K : Kx} {C : Ct} {F F' H H' : Hp} {st : AS} {σ : L2.St}
theorem Rel.setD {i : Nat} {d : D} {v : V} {st' : AS} (R : Rel K C F st σ H) (h : setD i d st = some st') (hv : Dp K F v d) : Rel K C F st' (σ.set i (some v)) H := by
  have e : st' = st.set i (.dat d) ∧ i < st.length := by
    unfold Xm.setD at h
    split at h <;> cases h
    exact ⟨rfl, (List.getElem?_eq_some_iff.mp ‹_›).1⟩
  obtain ⟨rfl, hi⟩ := e
  have hiσ : i < σ.length := by rw [← R.len]; exact hi
  refine ⟨by rw [List.length_set, List.length_set]; exact R.len, R.f0, R.fh, R.old, R.new, fun j s hj => ?_, fun j k b hj hk e1 e2 => ?_, R.penh, R.pent, R.tab⟩
  · by_cases e : j = i
    · subst e
      rw [List.getElem?_set_self hi] at hj
      cases hj
      exact ⟨v, List.getElem?_set_self hiσ, hv⟩
    · rw [List.getElem?_set_ne (Ne.symm e)] at hj
      rw [List.getElem?_set_ne (Ne.symm e)]
      exact R.slot j s hj
  · obtain ⟨m1, n1⟩ := mu_set_dat hj
    obtain ⟨m2, n2⟩ := mu_set_dat hk
    rw [List.getElem?_set_ne (Ne.symm n1)] at e1
    rw [List.getElem?_set_ne (Ne.symm n2)] at e2
    exact R.apart j k b m1 m2 e1 e2
theorem Rel.setO {i : Nat} {xs : List D} {a : Addr} {st' : AS} (R : Rel K C F st σ H) (h : setO i xs st = some st') (h0 : C.H0 a = none) (hl : Lst K F H a xs) (hap : ∀ j, Mu st j → σ[j]? ≠ some (some (.ref a))) :
    Rel K C F st' (σ.set i (some (.ref a))) H := by
  have e : st' = st.set i (.own xs) ∧ i < st.length := by
    unfold Xm.setO at h
    split at h <;> cases h
    exact ⟨rfl, (List.getElem?_eq_some_iff.mp ‹_›).1⟩
  obtain ⟨rfl, hi⟩ := e
  have hiσ : i < σ.length := by rw [← R.len]; exact hi
  have back : ∀ j, j ≠ i → Mu (st.set i (.own xs)) j → Mu st j := fun j e h => by
    unfold Mu at h ⊢
    rw [List.getElem?_set_ne (Ne.symm e)] at h
    exact h
  refine ⟨by rw [List.length_set, List.length_set]; exact R.len, R.f0, R.fh, R.old, R.new, fun j s hj => ?_, fun j k b hj hk e1 e2 => ?_, R.penh, R.pent, R.tab⟩
  · by_cases e : j = i
    · subst e
      rw [List.getElem?_set_self hi] at hj
      cases hj
      exact ⟨a, List.getElem?_set_self hiσ, h0, hl⟩
    · rw [List.getElem?_set_ne (Ne.symm e)] at hj
      rw [List.getElem?_set_ne (Ne.symm e)]
      exact R.slot j s hj
  · by_cases ej : j = i
    · subst ej
      by_cases ek : k = j
      · exact ek.symm
      · rw [List.getElem?_set_self hiσ] at e1
        rw [List.getElem?_set_ne (Ne.symm ek)] at e2
        cases e1
        exact absurd e2 (hap k (back k ek hk))
    · by_cases ek : k = i
      · subst ek
        rw [List.getElem?_set_self hiσ] at e2
        rw [List.getElem?_set_ne (Ne.symm ej)] at e1
        cases e2
        exact absurd e1 (hap j (back j ej hj))
      · rw [List.getElem?_set_ne (Ne.symm ej)] at e1
        rw [List.getElem?_set_ne (Ne.symm ek)] at e2
        exact R.apart j k b (back j ej hj) (back k ek hk) e1 e2
end
section
variable {X : Cx} {C : Ct} {pos : Pos} {e : Expr} {st : Stmt} {sts : List Stmt} {f : EF} {g : LF} {s u : SF} {c : BF}
theorem xs_nil : PSs X [] (sOf (kxOf X) C skipS) := pss_wk pss_nil fun Z σ H q => by
  obtain ⟨F, st, w, R, e, q⟩ := q
  cases e
  exact q σ H F (Same.refl _) R
theorem seqS_ok {K : Kx} {Z : Ends} {σ : L2.St} {H : Hp} (q : sOf K C (seqS s u) Z σ H) : tSeq (sOf K C s) (sOf K C u) Z σ H := by
  obtain ⟨F, st, w, R, e, q⟩ := q
  obtain ⟨a, ea, e⟩ := Option.bind_eq_some_iff.mp e
  refine ⟨F, st, a, R, ea, ?_⟩
  obtain ⟨fl, st1⟩ := a
  cases fl with
  | nx =>
    intro σ1 H1 F1 s1 R1
    refine ⟨F1, st1, w, R1, e, ?_⟩
    obtain ⟨fl2, st2⟩ := w
    cases fl2 with
    | nx => exact fun σ2 H2 F2 s2 R2 => q σ2 H2 F2 (s1.trans s2) R2
    | brk => exact fun σ2 H2 F2 s2 R2 => q σ2 H2 F2 (s1.trans s2) R2
    | cont => exact fun σ2 H2 F2 s2 R2 => q σ2 H2 F2 (s1.trans s2) R2
    | ret r => exact RetQ.up q s1
  | brk => cases e; exact q
  | cont => cases e; exact q
  | ret r => cases e; exact q
theorem xs_cons (h1 : PS X st (sOf (kxOf X) C s)) (h2 : PSs X sts (sOf (kxOf X) C u)) : PSs X (st :: sts) (sOf (kxOf X) C (seqS s u)) := pss_wk (pss_cons h1 h2) fun _ _ _ q => seqS_ok q
theorem xs_one (h1 : PS X st (sOf (kxOf X) C s)) : PSs X [st] (sOf (kxOf X) C s) := pss_one h1
theorem xs_ret (he : PE X e (dOf (kxOf X) C f)) : PS X (.Return (some e) pos) (sOf (kxOf X) C (retS f)) := ps_wk (ps_ret he) fun Z σ H q => by
  obtain ⟨F, st, w, R, e, q⟩ := q
  obtain ⟨a, ea, e⟩ := Option.map_eq_some_iff.mp e
  cases e
  exact ⟨F, st, a, R, ea, fun v H1 F1 s1 R1 d1 => q v σ H1 F1 s1 R1 d1⟩
theorem xs_drop (he : PE X e (dOf (kxOf X) C f)) (hs : swapsWith e none pos.line X.env = pure false := by rfl) : PS X (.Expr e pos) (sOf (kxOf X) C (dropS f)) := ps_wk (ps_expr he hs) fun Z σ H q => by
  obtain ⟨F, st, w, R, e, q⟩ := q
  obtain ⟨a, ea, e⟩ := Option.map_eq_some_iff.mp e
  cases e
  exact ⟨F, st, a, R, ea, fun v H1 F1 s1 R1 d1 => q σ H1 F1 s1 R1⟩
theorem xs_if {t : Expr} {a b : List Stmt} (hc : PT X t (bOf (kxOf X) C c)) (ha : PSs X a (sOf (kxOf X) C s)) (hb : PSs X b (sOf (kxOf X) C u)) : PS X (.If t a b pos) (sOf (kxOf X) C (ifS c s u)) := ps_wk (ps_if hc ha hb) fun Z σ H q => by
  obtain ⟨F, st, w, R, e, q⟩ := q
  obtain ⟨a, ea, e⟩ := Option.bind_eq_some_iff.mp e
  refine ⟨F, st, a, R, ea, fun H1 F1 s1 R1 => ?_⟩
  have fin : ∀ g : SF, g a.2 = some w → sOf (kxOf X) C g Z σ H1 := fun g eg => by
    refine ⟨F1, a.2, w, R1, eg, ?_⟩
    obtain ⟨fl2, st2⟩ := w
    cases fl2 with
    | nx => exact fun σ2 H2 F2 s2 R2 => q σ2 H2 F2 (s1.trans s2) R2
    | brk => exact fun σ2 H2 F2 s2 R2 => q σ2 H2 F2 (s1.trans s2) R2
    | cont => exact fun σ2 H2 F2 s2 R2 => q σ2 H2 F2 (s1.trans s2) R2
    | ret r => exact RetQ.up q s1
  dsimp only
  split
  · rename_i h
    rw [if_pos h] at e
    exact fin s e
  · rename_i h
    rw [if_neg h] at e
    exact fin u e
theorem xs_set {i : Nat} {x : Str} {pos' : Pos} (hN : X.N.Nodup) (he : PE X e (dOf (kxOf X) C f)) (hi : X.N[i]? = some x) (hx : Loc X.env.scope x) (hs : swapsWith e (some (.Name x pos')) pos.line X.env = pure false := by rfl) (hf : X.fn x = true ∨ X.env.scope.names.lookup x = some .local := by first | exact .inl rfl | exact .inr rfl | assumption) :
    PS X (.Assign [.Name x pos'] e pos) (sOf (kxOf X) C (asgS i f)) := ps_wk (ps_set hN hi hx he hs hf) fun Z σ H q => by
  obtain ⟨F, st, w, R, e, q⟩ := q
  obtain ⟨a, ea, e⟩ := Option.bind_eq_some_iff.mp e
  obtain ⟨st', es, e⟩ := Option.map_eq_some_iff.mp e
  cases e
  exact ⟨F, st, a, R, ea, fun v H1 F1 s1 R1 d1 => q _ H1 F1 s1 (R1.setD es d1)⟩
theorem xs_setN {i : Nat} {x : Str} {pos' : Pos} (hN : X.N.Nodup) (he : PE X e (nOf (kxOf X) C g)) (hi : X.N[i]? = some x) (hx : Loc X.env.scope x) (hs : swapsWith e (some (.Name x pos')) pos.line X.env = pure false := by rfl) (hf : X.fn x = true ∨ X.env.scope.names.lookup x = some .local := by first | exact .inl rfl | exact .inr rfl | assumption) :
    PS X (.Assign [.Name x pos'] e pos) (sOf (kxOf X) C (asgN i g)) := ps_wk (ps_set hN hi hx he hs hf) fun Z σ H q => by
  obtain ⟨F, st, w, R, e, q⟩ := q
  obtain ⟨a, ea, e⟩ := Option.bind_eq_some_iff.mp e
  obtain ⟨st', es, e⟩ := Option.map_eq_some_iff.mp e
  cases e
  exact ⟨F, st, a, R, ea, fun p vs H1 F1 s1 R1 h0 h1 h2 h3 d1 => q _ H1 F1 s1 (R1.setO es h0 ⟨h1, vs, h2, d1⟩ h3)⟩
end
end Xm
set_option Elab.async false
set_option linter.all false
set_option maxRecDepth 100000
namespace Xm
open PySem PySem.Spec PyProof.Rows L2
structure ItOk (K : Kx) (F : Hp) (J : It) (ds : List D) : Prop where
  go : ∀ i H, i < ds.length → Same F H → J.go i H
  stop : ∀ H, Same F H → J.stop ds.length H
  yld : ∀ i H x H' d, ds[i]? = some d → Same F H → J.yld i H x H' → ∃ G : Hp, (∀ a o, G a = some o → H' a = some o ∧ H a = none) ∧ Same H H' ∧ ∀ F1, Same F F1 → Same G F1 → Dp K F1 x d
def over (G F : Hp) : Hp := fun a => match F a with
  | some o => some o
  | none => G a
theorem over_gr {G F H H' : Hp} (fh : Same F H) (hg : ∀ a o, G a = some o → H' a = some o ∧ H a = none) (hh : Same H H') : Gr F H (over G F) H' ∧ Same G (over G F) := by
  refine ⟨⟨fun a o e => ?_, fun a o e => ?_, hh, fun a e => ?_⟩, fun a o e => ?_⟩
  · unfold over; rw [e]
  · unfold over at e
    split at e
    · rename_i u hu
      cases e
      exact hh _ _ (fh _ _ hu)
    · exact (hg a o e).1
  · unfold over at e
    split at e
    · rename_i u hu
      exact .inl (by rw [hu]; simp)
    · cases q : G a with
      | none => exact absurd q e
      | some o => exact .inr (hg a o q).2
  · unfold over
    have := (hg a o e).2
    rw [fh.free this]
    exact e
def iOf (K : Kx) (C : Ct) (f : LF) : TI := fun σ H R => ∃ F st r, Rel K C F st σ H ∧ f st = some r ∧ ∀ J H' F', Same F F' → Rel K C F' r.2 σ H' → ItOk K F' J r.1 → R J H'
def itD (f : EF) : LF := fun st => (f st).bind fun a => match a.1 with
  | .list xs => some (xs, a.2)
  | .tuple xs => some (xs, a.2)
  | _ => none
theorem itl_ok {K : Kx} {F : Hp} {a : Addr} {vs : List V} {ds : List D} (hs : SqL K.K F a vs) (hv : DpAll K F vs ds) : ItOk K F (Itl K.K a) ds where
  go := fun i H hi e => ⟨vs, vs[i]'(by rw [DpAll_len hv]; exact hi), sql_up e hs, by simp⟩
  stop := fun H e => ⟨vs, sql_up e hs, by rw [DpAll_len hv]; exact Nat.le_refl _⟩
  yld := fun i H x H' d hd e y => by
    obtain ⟨rfl, y⟩ := y
    obtain ⟨v, h1, h2⟩ := DpAll_get hv hd
    have := y vs (sql_up e hs)
    rw [h1] at this
    cases this
    exact ⟨fun _ => none, fun _ _ z => (nomatch z), Same.refl _, fun F1 s1 _ => Dp_up h2 s1⟩
theorem itt_ok {K : Kx} {F : Hp} {a : Addr} {vs : List V} {ds : List D} (hs : TupQ K.K F a vs) (hv : DpAll K F vs ds) : ItOk K F (Itt K.K a) ds where
  go := fun i H hi e => ⟨vs, vs[i]'(by rw [DpAll_len hv]; exact hi), sqt_up e hs, by simp⟩
  stop := fun H e => ⟨vs, sqt_up e hs, by rw [DpAll_len hv]; exact Nat.le_refl _⟩
  yld := fun i H x H' d hd e y => by
    obtain ⟨rfl, y⟩ := y
    obtain ⟨v, h1, h2⟩ := DpAll_get hv hd
    have := y vs (sqt_up e hs)
    rw [h1] at this
    cases this
    exact ⟨fun _ => none, fun _ _ z => (nomatch z), Same.refl _, fun F1 s1 _ => Dp_up h2 s1⟩
theorem itr_ok {K : Kx} {F : Hp} {lo : Int} {n : Nat} : ItOk K F (Itr lo n) ((List.range n).map fun (k : Nat) => .int (lo + (k : Int))) where
  go := fun i H hi _ => by
    have : i < n := by simpa using hi
    exact this
  stop := fun H _ => by show n ≤ _; simp
  yld := fun i H x H' d hd _ y => by
    obtain ⟨rfl, rfl⟩ := y
    rw [List.getElem?_map] at hd
    obtain ⟨k, hk, rfl⟩ := Option.map_eq_some_iff.mp hd
    have hk2 : k = i := by
      rw [List.getElem?_range (by
        have := (List.getElem?_eq_some_iff.mp hk).1
        simpa using this)] at hk
      exact (Option.some.inj hk).symm
    subst hk2
    exact ⟨fun _ => none, fun _ _ z => (nomatch z), Same.refl _, fun F1 _ _ => .int _⟩
def rngD (lo hi : Int) : List D := (List.range (hi - lo).toNat).map fun (k : Nat) => .int (lo + (k : Int))
def itR1 (f : EF) : LF := fun st => (f st).bind fun a => match a.1 with
  | .int j => if -(2 ^ 62) ≤ j ∧ j < 2 ^ 62 then some (rngD 0 j, a.2) else none
  | _ => none
section
variable {X : Cx} {C : Ct} {pos p : Pos} {tg e a b : Expr} {f g : EF}
def iSeq (K : Kx) (tl : TE) : TI := fun σ H R => tl σ H fun x H1 => ∃ a, x = .ref a ∧ ((∃ xs, SqL K.K H1 a xs) ∧ R (Itl K.K a) H1 ∨ (∃ xs, SqT K.K H1 a xs) ∧ R (Itt K.K a) H1)
theorem xi_seq0 {l : Expr} {tl : TE} (hl : PE X l tl) : PI X tg l (iSeq (kxOf X) tl) := by
  refine ⟨fun pins s σ H R I h => ?_⟩
  refine thn (hl.run pins s σ H _ I h) fun v s1 ⟨x, H1, I1, r1, a, ex, q1⟩ => ?_
  subst ex
  cases r1
  rcases q1 with ⟨⟨xs, hq⟩, q⟩ | ⟨⟨xs, hq⟩, q⟩
  · obtain ⟨its, rv, pl, hz⟩ := I1.list hq
    refine wpAny_pyIter_list pl.isList ?_
    refine ⟨s1.heap.objs.size, [s1.heap.objs.size], _, _, H1, rfl, I1.kept (t' := s1.toks) fun b o e => Heap.get?_push_of_some _ e, turn_list a _, ⟨_, Heap.get?_push_size _ rfl, rfl, rfl⟩, fun b hb => ?_, q⟩
    obtain rfl : b = s1.heap.objs.size := by simpa using hb
    exact I1.fpOk (Nat.le_refl _) (I1.hok.fresh (Nat.le_refl _))
  · obtain ⟨its, rv, pl, hz⟩ := I1.tuple hq
    refine wpAny_pyIter_tuple (show s1.heap.IsTuple a its.toArray from pl) ?_
    refine ⟨s1.heap.objs.size, [s1.heap.objs.size], _, _, H1, rfl, I1.kept (t' := s1.toks) fun b o e => Heap.get?_push_of_some _ e, turn_tuple a _, ⟨_, Heap.get?_push_size _ rfl, rfl, rfl⟩, fun b hb => ?_, q⟩
    obtain rfl : b = s1.heap.objs.size := by simpa using hb
    exact I1.fpOk (Nat.le_refl _) (I1.hok.fresh (Nat.le_refl _))
theorem xi_seq (h : PE X e (dOf (kxOf X) C f)) : PI X tg e (iOf (kxOf X) C (itD f)) := pi_wk (xi_seq0 h) fun σ H R q => by
  obtain ⟨F, st, w, Rl, ew, q⟩ := q
  obtain ⟨a, ea, ew⟩ := Option.bind_eq_some_iff.mp ew
  refine ⟨F, st, a, Rl, ea, fun v H1 F1 s1 R1 d1 => ?_⟩
  split at ew
  · rename_i xs hx
    cases ew
    rw [hx] at d1
    cases d1 with
    | lst hs hv => exact ⟨_, rfl, .inl ⟨⟨_, sql_up R1.fh hs⟩, q _ H1 F1 s1 R1 (itl_ok hs hv)⟩⟩
  · rename_i xs hx
    cases ew
    rw [hx] at d1
    cases d1 with
    | tup hs hv => exact ⟨_, rfl, .inr ⟨⟨_, sqt_up R1.fh hs⟩, q _ H1 F1 s1 R1 (itt_ok hs hv)⟩⟩
  · cases ew
theorem xi_range1 (hm : X.mg "range" = none) (ha : PE X a (dOf (kxOf X) C f)) (hg : Gl X "range" := by rfl) (hs : starEach [a] X.env = [(false, eval a X.env)] := by rfl) : PI X tg (.Call (.Name "range" p) [a] [] pos) (iOf (kxOf X) C (itR1 f)) :=
  pi_wk (pi_range1 hg hm (pa_cons ha pa_nil hs) hs) fun σ H R q => by
    obtain ⟨F, st, w, Rl, ew, q⟩ := q
    obtain ⟨a, ea, ew⟩ := Option.bind_eq_some_iff.mp ew
    refine ⟨F, st, a, Rl, ea, fun v H1 F1 s1 R1 d1 => ?_⟩
    split at ew
    · rename_i j hj
      split at ew
      · rename_i hb
        cases ew
        rw [hj] at d1
        refine ⟨j, by rw [dp_int d1], hb.1, hb.2, ?_⟩
        have z := q (Itr 0 j.toNat) H1 F1 s1 R1 (by
          unfold rngD
          rw [Int.sub_zero]
          exact itr_ok)
        exact z
      · cases ew
    · cases ew
end
def nilT : List D → AS → Option AS := fun ds st => match ds with
  | [] => some st
  | _ => none
def consT (u : D → AS → Option AS) (w : List D → AS → Option AS) : List D → AS → Option AS := fun ds st => match ds with
  | d :: r => (u d st).bind fun st' => w r st'
  | [] => none
section
variable {X : Cx} {C : Ct} {pos p : Pos} {e : Expr} {es : List Expr}
theorem xg_name {i : Nat} {x : Str} (hN : X.N.Nodup) (hi : X.N[i]? = some x) (hx : Loc X.env.scope x) (hf : X.fn x = true ∨ X.env.scope.names.lookup x = some .local := by first | exact .inl rfl | exact .inr rfl | assumption) : PG X (.Name x pos) (gOf (kxOf X) C (setD i) [i]) :=
  pg_wk (pg_name hN hi hx hf) fun v σ H Q q => by
    obtain ⟨F, st, d, st', R, hd, e, q⟩ := q
    exact q _ H F (Same.refl _) (R.setD e hd) (List.length_set ..) fun j hj => List.getElem?_set_ne fun z => hj (by simp [z])
end
def loopS (u : D → AS → Option AS) (b : SF) : List D → AS → Option (Fl × AS)
  | [], st => some (.nx, st)
  | d :: ds, st => (u d st).bind fun st1 => (b st1).bind fun w => match w.1 with
    | .nx => loopS u b ds w.2
    | .cont => loopS u b ds w.2
    | .brk => some (.nx, w.2)
    | .ret r => some (.ret r, w.2)
def forS (it : LF) (u : D → AS → Option AS) (b : SF) : SF := fun st => (it st).bind fun a => loopS u b a.1 a.2
section
variable {X : Cx} {C : Ct} {pos : Pos}
theorem xs_for {ts : List Nat} {tg iter : Expr} {body : List Stmt} {it : LF} {u : D → AS → Option AS} {b : SF} (hp : PassesOwn (model X.prog X.w) X.A X.env X.xe) (hc : X.calm = true) (hi : PI X tg iter (iOf (kxOf X) C it)) (hg : PG X tg (gOf (kxOf X) C u ts)) (hb : PSs X body (sOf (kxOf X) C b))
    (hs : ∀ x, foldedSetIterable iter X.env x = pure x := by intro _; rfl) : PS X (.For tg iter body [] pos) (sOf (kxOf X) C (forS it u b)) := ps_wk (ps_for hp hc hi hg hb hs) fun Z σ H q => by
  obtain ⟨F, st, w, R, e, q⟩ := q
  obtain ⟨a, ea, e⟩ := Option.bind_eq_some_iff.mp e
  refine ⟨F, st, a, R, ea, fun J H1 F1 s1 R1 J1 => ?_⟩
  refine ⟨fun i m σ H => m = a.1.length - i ∧ i ≤ a.1.length ∧ ∃ F2 st2, Same F1 F2 ∧ Rel (kxOf X) C F2 st2 σ H ∧ loopS u b (a.1.drop i) st2 = some w, ⟨a.1.length, by simp, Nat.zero_le _, F1, a.2, Same.refl _, R1, e⟩, ?_⟩
  rintro i m σ2 H2 ⟨rfl, hi, F2, st2, s2, R2, e2⟩
  by_cases hlt : i < a.1.length
  · refine .inr ⟨J1.go i H2 hlt (s2.trans R2.fh), ?_⟩
    have hd : a.1[i]? = some a.1[i] := List.getElem?_eq_getElem hlt
    rw [List.drop_eq_getElem_cons hlt] at e2
    obtain ⟨st3, e3, e4⟩ := Option.bind_eq_some_iff.mp e2
    obtain ⟨v, ev, e5⟩ := Option.bind_eq_some_iff.mp e4
    refine ⟨fun σ' H' => ∃ F4, Same F2 F4 ∧ Rel (kxOf X) C F4 v.2 σ' H' ∧ loopS u b (a.1.drop (i + 1)) v.2 = some w, fun σ' H' ⟨F4, s4, R4, e6⟩ => ⟨a.1.length - (i + 1), by omega, rfl, hlt, F4, v.2, s2.trans s4, R4, e6⟩, fun x H3 hy => ?_⟩
    obtain ⟨G, hG, hh, hx⟩ := J1.yld i H2 x H3 _ hd (s2.trans R2.fh) hy
    obtain ⟨gr, sg⟩ := over_gr R2.fh hG hh
    refine ⟨over G F2, st2, _, st3, R2.grow gr, hx _ (s2.trans gr.ff) sg, e3, fun σ4 H4 F4 s4 R4 _ _ => ?_⟩
    refine ⟨F4, st3, v, R4, ev, ?_⟩
    have up : Same F1 F4 := (s2.trans gr.ff).trans s4
    obtain ⟨fl, st5⟩ := v
    cases fl with
    | nx => exact fun σ5 H5 F5 s5 R5 => ⟨F5, (gr.ff.trans s4).trans s5, R5, e5⟩
    | cont => exact fun σ5 H5 F5 s5 R5 => ⟨F5, (gr.ff.trans s4).trans s5, R5, e5⟩
    | brk =>
      cases e5
      exact fun σ5 H5 F5 s5 R5 => q σ5 H5 F5 ((s1.trans up).trans s5) R5
    | ret r =>
      cases e5
      exact RetQ.up q (s1.trans up)
  · have e3 : i = a.1.length := by omega
    subst e3
    rw [List.drop_length] at e2
    cases e2
    exact .inl ⟨J1.stop H2 (s2.trans R2.fh), q σ2 H2 F2 (s1.trans s2) R2⟩
def whileN (c : BF) (b : SF) : Nat → AS → Option (Fl × AS)
  | 0, _ => none
  | n + 1, st => (c st).bind fun a => if a.1 = true then (b a.2).bind fun w => match w.1 with
      | .nx => whileN c b n w.2
      | .cont => whileN c b n w.2
      | .brk => some (.nx, w.2)
      | .ret r => some (.ret r, w.2)
    else some (.nx, a.2)
def whileS (c : BF) (b : SF) (n : AS → Nat) : SF := fun st => whileN c b (n st) st
theorem xs_while {t : Expr} {body : List Stmt} {c : BF} {b : SF} (n : AS → Nat) (hp : PassesOwn (model X.prog X.w) X.A X.env X.xe) (hc : PT X t (bOf (kxOf X) C c)) (hb : PSs X body (sOf (kxOf X) C b)) : PS X (.While t body [] pos) (sOf (kxOf X) C (whileS c b n)) := ps_wk (ps_while hp hc hb) fun Z σ H q => by
  obtain ⟨F, st, w, R, e, q⟩ := q
  refine ⟨fun m σ H => ∃ F2 st2, Same F F2 ∧ Rel (kxOf X) C F2 st2 σ H ∧ whileN c b m st2 = some w, ⟨n st, F, st, Same.refl _, R, e⟩, ?_⟩
  rintro m σ2 H2 ⟨F2, st2, s2, R2, e2⟩
  cases m with
  | zero => cases e2
  | succ m =>
    obtain ⟨a, ea, e2⟩ := Option.bind_eq_some_iff.mp e2
    refine ⟨F2, st2, a, R2, ea, fun H3 F3 s3 R3 => ?_⟩
    dsimp only
    split
    · rename_i h
      rw [if_pos h] at e2
      obtain ⟨v, ev, e5⟩ := Option.bind_eq_some_iff.mp e2
      refine ⟨fun σ' H' => ∃ F4, Same F F4 ∧ Rel (kxOf X) C F4 v.2 σ' H' ∧ whileN c b m v.2 = some w, fun σ' H' ⟨F4, s4, R4, e6⟩ => ⟨m, Nat.lt_succ_self m, F4, v.2, s4, R4, e6⟩, F3, a.2, v, R3, ev, ?_⟩
      have up : Same F F3 := s2.trans s3
      obtain ⟨fl, st5⟩ := v
      cases fl with
      | nx => exact fun σ5 H5 F5 s5 R5 => ⟨F5, up.trans s5, R5, e5⟩
      | cont => exact fun σ5 H5 F5 s5 R5 => ⟨F5, up.trans s5, R5, e5⟩
      | brk =>
        cases e5
        exact fun σ5 H5 F5 s5 R5 => q σ5 H5 F5 (up.trans s5) R5
      | ret r =>
        cases e5
        exact RetQ.up q up
    · rename_i h
      rw [if_neg h] at e2
      cases e2
      exact q σ2 H3 F3 (s2.trans s3) R3
end
end Xm
set_option Elab.async false
set_option linter.all false
set_option maxRecDepth 100000
namespace Xm
open PySem PySem.Spec PyProof.Rows L2
section
variable {K : Kx} {C : Ct} {F F' H H' : Hp} {st : AS} {σ τ : L2.St}
theorem Rel.freezeO {a : Addr} {o : HO} (R : Rel K C F st σ H) (h0 : C.H0 a = none) (hF : F a = none) (hH : H a = some o) (hap : ∀ j, Mu st j → σ[j]? ≠ some (some (.ref a))) :
    Same F (upd F a o) ∧ Rel K C (upd F a o) st σ H := by
  have hff : Same F (upd F a o) := same_upd hF
  refine ⟨hff, ⟨R.len, R.f0.trans hff, ?_, R.old, ?_, ?_, R.apart, R.penh, R.pent, R.tab.up hff fun _ _ _ e => e⟩⟩
  · intro b o e
    by_cases hb : b = a
    · subst hb; rw [upd_same] at e; cases e; exact hH
    · rw [upd_ne hb] at e; exact R.fh _ _ e
  · intro b hb0 hb1
    have hb : b ≠ a := fun z => by subst z; exact hb1 h0
    rw [upd_ne hb]
    exact R.new b hb0 hb1
  · intro j s hj
    have q := R.slot j s hj
    cases s with
    | no => trivial
    | dat d => obtain ⟨v, q1, q2⟩ := q; exact ⟨v, q1, Dp_up q2 hff⟩
    | own ys =>
      obtain ⟨b, q1, q2, q3, us, q4, q5⟩ := q
      have hb : b ≠ a := fun z => by subst z; exact hap j ⟨_, hj, rfl⟩ q1
      exact ⟨b, q1, q2, by rw [upd_ne hb]; exact q3, us, q4, DpAll_up q5 hff⟩
    | pen ys =>
      obtain ⟨b, q1, q2, q3, us, q4, q5⟩ := q
      have hb : b ≠ a := fun z => by subst z; exact hap j ⟨_, hj, rfl⟩ q1
      exact ⟨b, q1, q2, by rw [upd_ne hb]; exact q3, us, q4, DpAll_up q5 hff⟩
    | dct kvs =>
      obtain ⟨b, q1, q2, q3, u, q4, q5⟩ := q
      have hb : b ≠ a := fun z => by subst z; exact hap j ⟨_, hj, rfl⟩ q1
      exact ⟨b, q1, q2, by rw [upd_ne hb]; exact q3, u, q4, q5.up hff⟩
    | pdc kvs =>
      obtain ⟨b, q1, q2, q3, u, q4, q5⟩ := q
      have hb : b ≠ a := fun z => by subst z; exact hap j ⟨_, hj, rfl⟩ q1
      exact ⟨b, q1, q2, by rw [upd_ne hb]; exact q3, u, q4, q5.up hff⟩
    | obj o =>
      obtain ⟨b, q1, q2⟩ := q
      exact ⟨b, q1, q2.up hff⟩
theorem Rel.freezeNew {a : Addr} {vs : List V} {xs : List D} (R : Rel K C F st σ H) (h0 : C.H0 a = none) (hF : F a = none) (hH : H a = some (.lst vs)) (hap : ∀ j, Mu st j → σ[j]? ≠ some (some (.ref a))) (hv : DpAll K F vs xs) :
    Same F (upd F a (.lst vs)) ∧ Rel K C (upd F a (.lst vs)) st σ H ∧ Dp K (upd F a (.lst vs)) (.ref a) (.list xs) := by
  obtain ⟨hff, R2⟩ := R.freezeO h0 hF hH hap
  exact ⟨hff, R2, .lst (.inl (.inl upd_same)) (DpAll_up hv hff)⟩
theorem Rel.slots (R : Rel K C F st σ H) (hl : τ.length = σ.length) (h : ∀ i : Nat, st[i]? ≠ some Slot.no → τ[i]? = σ[i]?) : Rel K C F st τ H where
  len := R.len.trans hl.symm
  f0 := R.f0
  fh := R.fh
  old := R.old
  new := R.new
  slot := fun i s e => by
    cases s with
    | no => trivial
    | dat d => rw [h i (by rw [e]; simp)]; exact R.slot i _ e
    | own xs => rw [h i (by rw [e]; simp)]; exact R.slot i _ e
    | pen xs => rw [h i (by rw [e]; simp)]; exact R.slot i _ e
    | dct xs => rw [h i (by rw [e]; simp)]; exact R.slot i _ e
    | pdc xs => rw [h i (by rw [e]; simp)]; exact R.slot i _ e
    | obj o => rw [h i (by rw [e]; simp)]; exact R.slot i _ e
  apart := fun i j a hi hj e1 e2 => by
    have nn : ∀ k : Nat, Mu st k → st[k]? ≠ some Slot.no := fun k hk z => by
      obtain ⟨s, e, m⟩ := hk
      rw [z] at e
      cases e
      cases m
    rw [h i (nn i hi)] at e1
    rw [h j (nn j hj)] at e2
    exact R.apart i j a hi hj e1 e2
  penh := R.penh
  pent := R.pent
  tab := R.tab
theorem wipe_get {vs : List Nat} {i : Nat} : (wipe σ vs)[i]? = if i ∈ vs ∧ i < σ.length then some none else σ[i]? := by
  induction vs with
  | nil => simp [wipe]
  | cons v vs ih =>
    unfold wipe
    by_cases e : v = i
    · subst e
      by_cases hv : v < σ.length
      · rw [List.getElem?_set_self (by rw [wipe_length]; exact hv), if_pos ⟨by simp, hv⟩]
      · rw [if_neg (fun z => hv z.2), List.getElem?_eq_none_iff.mpr (by rw [List.length_set, wipe_length]; omega), List.getElem?_eq_none_iff.mpr (by omega)]
    · rw [List.getElem?_set_ne e, ih]
      by_cases hm : i ∈ vs
      · by_cases hi : i < σ.length
        · rw [if_pos ⟨hm, hi⟩, if_pos ⟨by simp [hm], hi⟩]
        · rw [if_neg (fun z => hi z.2), if_neg (fun z => hi z.2)]
      · rw [if_neg (fun z => hm z.1), if_neg (fun z => (List.mem_cons.mp z.1).elim (fun q => e q.symm) hm)]
abbrev Ct.atO (C : Ct) (D : Addr) (o : HO) : Ct := { C with H0 := upd C.H0 D o }
abbrev Ct.at (C : Ct) (D : Addr) (vs : List V) : Ct := C.atO D (.lst vs)
structure Aside (C : Ct) (F : Hp) (st : AS) (σ : L2.St) (a : Addr) : Prop where
  h0 : C.H0 a = none
  f : F a = none
  pn : C.pen ≠ some a
  ap : ∀ j, Mu st j → σ[j]? ≠ some (some (.ref a))
theorem Rel.write {a : Addr} {o : HO} (R : Rel K C F st σ H) (A : Aside C F st σ a) : Rel K C F st σ (upd H a o) where
  len := R.len
  f0 := R.f0
  fh := fun b u e => by
    have hb : b ≠ a := fun z => by subst z; rw [A.f] at e; cases e
    rw [upd_ne hb]; exact R.fh b u e
  old := fun b u e hp => by
    have hb : b ≠ a := fun z => by subst z; rw [A.h0] at e; cases e
    rw [upd_ne hb]; exact R.old b u e hp
  new := R.new
  slot := fun i s e => by
    have q := R.slot i s e
    cases s with
    | no => trivial
    | dat d => exact q
    | own ys =>
      obtain ⟨b, q1, q2, q3, us, q4, q5⟩ := q
      have hb : b ≠ a := fun z => by subst z; exact A.ap i (⟨_, e, rfl⟩) q1
      exact ⟨b, q1, q2, q3, us, by rw [upd_ne hb]; exact q4, q5⟩
    | pen ys =>
      obtain ⟨b, q1, q2, q3, us, q4, q5⟩ := q
      have hb : b ≠ a := fun z => by subst z; exact A.ap i (⟨_, e, rfl⟩) q1
      exact ⟨b, q1, q2, q3, us, by rw [upd_ne hb]; exact q4, q5⟩
    | dct ys =>
      obtain ⟨b, q1, q2, q3, us, q4, q5⟩ := q
      have hb : b ≠ a := fun z => by subst z; exact A.ap i ⟨_, e, rfl⟩ q1
      exact ⟨b, q1, q2, q3, us, by rw [upd_ne hb]; exact q4, q5⟩
    | pdc ys =>
      obtain ⟨b, q1, q2, q3, us, q4, q5⟩ := q
      have hb : b ≠ a := fun z => by subst z; exact A.ap i ⟨_, e, rfl⟩ q1
      exact ⟨b, q1, q2, q3, us, by rw [upd_ne hb]; exact q4, q5⟩
    | obj o => exact q
  apart := R.apart
  penh := R.penh
  pent := fun p hp => by
    by_cases hb : p = a
    · subst hb; rw [upd_same]; simp
    · rw [upd_ne hb]; exact R.pent p hp
  tab := R.tab.up (Same.refl _) fun P ps h1 e => (upd_ne (fun z : P = a => A.pn (by rw [← z]; exact h1))).trans e
theorem Rel.aside {a : Addr} (R : Rel K C F st σ H) (h : H a = none) : Aside C F st σ a ∧ C.F0 a = none := by
  have hF : F a = none := R.fh.free h
  have hpn : C.pen ≠ some a := fun z => R.pent a z h
  refine ⟨⟨?_, hF, hpn, fun j hj e => ?_⟩, R.f0.free hF⟩
  · cases q : C.H0 a with
    | none => rfl
    | some o => rw [R.old a o q hpn] at h; cases h
  · obtain ⟨s, hx, hm⟩ := hj
    have q := R.slot j _ hx
    cases s with
    | no => cases hm
    | dat d => cases hm
    | obj o => cases hm
    | own xs =>
      obtain ⟨b, q1, q2, q3, us, q4, q5⟩ := q
      rw [e] at q1
      cases q1
      rw [h] at q4; cases q4
    | pen xs =>
      obtain ⟨b, q1, q2, q3, us, q4, q5⟩ := q
      rw [e] at q1
      cases q1
      rw [h] at q4; cases q4
    | dct xs =>
      obtain ⟨b, q1, q2, q3, us, q4, q5⟩ := q
      rw [e] at q1
      cases q1
      rw [h] at q4; cases q4
    | pdc xs =>
      obtain ⟨b, q1, q2, q3, us, q4, q5⟩ := q
      rw [e] at q1
      cases q1
      rw [h] at q4; cases q4
end
def listE (g : LF) : EF := fun st => (g st).map fun a => (.list a.1, a.2)
section
variable {X : Cx} {C : Ct} {pos : Pos} {e : Expr} {es : List Expr} {g : LF}
theorem xn_lst (h : PA X es (aOf (kxOf X) C g)) : PE X (.List es pos) (nOf (kxOf X) C (newF g)) := pe_wk (pe_lst h) fun σ H Q q => by
  obtain ⟨F, st, w, R, e, q⟩ := q
  obtain ⟨b, eb, e⟩ := Option.bind_eq_some_iff.mp e
  split at e <;> cases e
  rename_i hl
  refine ⟨F, st, w, R, eb, fun vs H1 F1 s1 R1 d1 => ⟨by rw [DpAll_len d1]; exact hl, fun p hp => ?_⟩⟩
  obtain ⟨A, hf⟩ := R1.aside hp
  exact q p vs _ F1 s1 (R1.write A) A.h0 A.f upd_same A.ap d1
end
def clr (st : AS) : List Nat → AS
  | [] => st
  | v :: vs => (clr st vs).set v .no
theorem clr_len (st : AS) : ∀ vs, (clr st vs).length = st.length
  | [] => rfl
  | v :: vs => by unfold clr; rw [List.length_set, clr_len]
theorem clr_get {st : AS} {vs : List Nat} {i : Nat} : (clr st vs)[i]? = if i ∈ vs ∧ i < st.length then some .no else st[i]? := by
  induction vs with
  | nil => simp [clr]
  | cons v vs ih =>
    unfold clr
    by_cases e : v = i
    · subst e
      by_cases hv : v < st.length
      · rw [List.getElem?_set_self (by rw [clr_len]; exact hv), if_pos ⟨by simp, hv⟩]
      · rw [if_neg (fun z => hv z.2), List.getElem?_eq_none_iff.mpr (by rw [List.length_set, clr_len]; omega), List.getElem?_eq_none_iff.mpr (by omega)]
    · rw [List.getElem?_set_ne e, ih]
      by_cases hm : i ∈ vs
      · by_cases hi : i < st.length
        · rw [if_pos ⟨hm, hi⟩, if_pos ⟨by simp [hm], hi⟩]
        · rw [if_neg (fun z => hi z.2), if_neg (fun z => hi z.2)]
      · rw [if_neg (fun z => hm z.1), if_neg (fun z => (List.mem_cons.mp z.1).elim (fun q => e q.symm) hm)]
def noS : Option Slot → Bool
  | some .no => true
  | _ => false
def allNo (st : AS) (vs : List Nat) : Bool := vs.all fun i => noS st[i]?
def yesB : BF := fun st => some (true, st)
def compL (u : D → AS → Option AS) (tt : BF) (te : EF) (vs : List Nat) : List D → AS → Option (List D × AS)
  | [], st => some ([], st)
  | d :: ds, st => (u d st).bind fun st1 => (tt st1).bind fun c => if c.1 = true then (te c.2).bind fun x => (compL u tt te vs ds (clr x.2 vs)).map fun r => (x.1 :: r.1, r.2)
    else compL u tt te vs ds (clr c.2 vs)
def compF (it : LF) (u : D → AS → Option AS) (tt : BF) (te : EF) (vs : List Nat) : LF := fun st => (it st).bind fun a => if allNo a.2 vs = true ∧ a.1.length ≤ sizeLine then compL u tt te vs a.1 a.2 else none
section
variable {X : Cx} {C : Ct} {pos : Pos}
theorem Rel.clr {K : Kx} {C : Ct} {F H : Hp} {st : AS} {σ : L2.St} {vs : List Nat} (R : Rel K C F st σ H) : Rel K C F (Xm.clr st vs) (wipe σ vs) H := by
  have R1 : Rel K C F (Xm.clr st vs) σ H := rel_mono_slots R (clr_len st vs) fun i s e => by
    rw [clr_get] at e
    split at e
    · cases e; exact .inl rfl
    · exact .inr e
  refine R1.slots (wipe_length σ vs) fun i hi => ?_
  rw [wipe_get, if_neg]
  rintro ⟨z1, z2⟩
  exact hi (by rw [clr_get, if_pos ⟨z1, by rw [R.len]; exact z2⟩])
end
section
variable {X : Cx} {C : Ct} {pos : Pos} {elt tg iter : Expr} {ifs : List Expr} {scope : Scope} {own : List (Str × Nat)} {it : LF} {u : D → AS → Option AS} {ts : List Nat} {tt : BF} {te : EF} {vs : List Nat}
end
end Xm
set_option Elab.async false
set_option linter.all false
set_option maxRecDepth 100000
namespace Xm
open PySem PySem.Spec PyProof.Rows L2
section
variable {X : Cx} {C : Ct} {pos p apos cpos : Pos} {o e : Expr} {g : EF}
theorem xd_append {i : Nat} (ho : PE X o (tVar i)) (he : PE X e (dOf (kxOf X) C g)) (hs : starEach [e] X.env = (false, eval e X.env) :: starEach [] X.env := by rfl) (hbase : attributeBase o "append" X.env (eval o X.env) = eval o X.env := by rfl)
    (hfew : ((backTo cpos (starEach [e] X.env)).all (fun x => !x.1) && (backToKw cpos (keywordEach [] X.env)).all (fun x => x.1.isSome) && decide ([e].length + ([] : List Keyword).length + (if ([] : List Keyword).isEmpty then 0 else 1) < 30)) = true := by rfl)
    (hline : (apos.endLine == cpos.line) = true := by rfl) (hplain : (backTo cpos (starEach [] X.env)).any (·.1) = false := by rfl) :
    PE X (.Call (.Attribute o "append" apos) [e] [] cpos) (dOf (kxOf X) C (appM i g)) :=
  pe_wk (pe_bm PySem.F.plainAttrs_list PySem.F.slot_list_append PySem.F.type_list_append mt_append ho (pa_cons he pa_nil hs) hbase hfew hline hs hplain) fun σ H Q q => by
    obtain ⟨F, st, w, R, e, q⟩ := q
    obtain ⟨x0, e0, e⟩ := Option.bind_eq_some_iff.mp e
    obtain ⟨b, eb, e⟩ := Option.bind_eq_some_iff.mp e
    obtain ⟨xs, ex, e⟩ := Option.bind_eq_some_iff.mp e
    split at e
    · rename_i hl
      cases e
      obtain ⟨a, h1, ⟨hF0, vs0, hH0, hv0⟩, _⟩ := R.mu e0
      refine ⟨.ref a, h1, .inl ⟨rfl, _, .inl (.inl hH0)⟩, F, st, b, R, eb, fun y H1 F1 s1 R1 d1 => ?_⟩
      obtain ⟨a', h1', ⟨hF, vs, hH, hv⟩, _⟩ := R1.mu ex
      rw [h1] at h1'
      cases h1'
      exact ⟨a, vs, y, rfl, rfl, hH, by rw [DpAll_len hv]; exact hl, q .non _ F1 s1 (R1.put ex h1 (DpAll_app hv (.cons d1 .nil))) .non⟩
    · cases e
end
def setM (i : Nat) (f g : EF) : SF := fun st => (muC st i).bind fun _ => (f st).bind fun a => (muC a.2 i).bind fun _ => (g a.2).bind fun b => (muC b.2 i).bind fun xs => match b.1 with
  | .int k => (ixN xs.length k).map fun j => (.nx, putM b.2 i (xs.set j a.1))
  | _ => none
section
variable {X : Cx} {C : Ct} {pos spos : Pos} {o ix e : Expr} {f g : EF}
theorem xs_setItem {i : Nat} (ho : PE X o (tVar i)) (hx : PE X ix (dOf (kxOf X) C g)) (he : PE X e (dOf (kxOf X) C f))
    (ha : ∀ v, assign (.Subscript o ix spos) X.env v = (do
      let ov ← holding [v] (eval o X.env)
      let iv ← holding [v, ov] (eval ix X.env)
      standAt spos
      holding [v, ov, iv] (setItem ov iv v)
      release [v, ov, iv] []) := by intro _; rfl)
    (hs : swapsWithSole [.Subscript o ix spos] e pos.line X.env = pure false := by rfl) (hw : swappedStores [.Subscript o ix spos] e X.env = pure none := by rfl)
    (h1 : (assignEach [.Subscript o ix spos] X.env).map (·.2) = [assign (.Subscript o ix spos) X.env] := by rfl) : PS X (.Assign [.Subscript o ix spos] e pos) (sOf (kxOf X) C (setM i f g)) :=
  ps_wk (ps_asg he (pg_sub ho hx set_list ha) hs hw h1) fun Z σ H q => by
    obtain ⟨F, st, w, R, e, q⟩ := q
    obtain ⟨x0, e0, e⟩ := Option.bind_eq_some_iff.mp e
    obtain ⟨a, ea, e⟩ := Option.bind_eq_some_iff.mp e
    obtain ⟨y0, e1, e⟩ := Option.bind_eq_some_iff.mp e
    obtain ⟨b, eb, e⟩ := Option.bind_eq_some_iff.mp e
    obtain ⟨xs, ex, e⟩ := Option.bind_eq_some_iff.mp e
    split at e
    · rename_i k hk
      obtain ⟨j, ej, e⟩ := Option.map_eq_some_iff.mp e
      cases e
      refine ⟨F, st, a, R, ea, fun v H1 F1 s1 R1 d1 => ?_⟩
      obtain ⟨p, h1, ⟨hF0, vs0, hH0, hv0⟩, _⟩ := R1.mu e1
      refine ⟨.ref p, h1, F1, a.2, b, R1, eb, fun u H2 F2 s2 R2 d2 => ?_⟩
      obtain ⟨p', h1', ⟨hF, vs, hH, hv⟩, _⟩ := R2.mu ex
      rw [h1] at h1'
      cases h1'
      rw [hk] at d2
      exact ⟨p, vs, k, j, rfl, dp_int d2, hH, by rw [DpAll_len hv]; exact ej, q σ _ F2 (s1.trans s2) (R2.put ex h1 (DpAll_set j hv (Dp_up d1 s2)))⟩
    · cases e
end
abbrev CXM (P : Program) (w : World) : CXT := L2.CX P w
structure FnG (P : Program) (w : World) (K : PySem.W.Frag) (mg : Str → Option Value) (base : Heap) (CX : CXT) (k : Nat) (f : Addr) (fd : FuncData) (ps : List Str) (sp : Sp) : Prop where
  arity : ∀ vs H Q E, sp vs H Q E → vs.length = ps.length
  go : ∀ (A : Around) (outer : List Env) (s : Shared) (H : Hp) (args : Args) (us : List Value) (vs : List V) (Q : VK) (E : XK), Room k A → A.guards = some [] → Env0 P w K mg base A outer s H →
    BindsTo s fd args (ps.zip us) → Vals vs us → sp vs H Q E → codeAny (model P w) A (.call (.ref f) args) (CR CX outer P w H s Q E) s
section
variable {P : Program} {w : World} {K : PySem.W.Frag} {mg : Str → Option Value} {base : Heap} {CX : CXT} {k j : Nat} {f : Addr} {fd : FuncData} {ps N : List Str} {sp : Sp}
theorem FnG.mono (h : FnG P w K mg base CX j f fd ps sp) (l : j ≤ k) : FnG P w K mg base CX k f fd ps sp :=
  ⟨h.arity, fun A outer s H args us vs Q E hr hg => h.go A outer s H args us vs Q E (hr.mono l) hg⟩
end
section
variable {X : Cx} {CX : CXT} {k : Nat} {f : Addr} {fd : FuncData} {ps : List Str} {sp : Sp} {dvs : List V} {ds : List Value} {E : XK} {x : Str} {p pos : Pos} {e : Expr} {es : List Expr} {t : TA}
theorem runG {pins : List (Addr × Obj)} {σ : L2.St} {H : Hp} {s : Shared} {Q : VK} {us : List Value} {vs : List V} (G : FnG X.prog X.w X.K X.mg X.base CX k f fd ps sp) (hr : Room k X.A) (gd : X.A.guards = some []) (hb : Binds X.K fd ps ds) (hd : Vals dvs ds)
    (hx : Passes CX X E) (I : Inv X pins σ H s) (r : Vals vs us) (h : sp (vs ++ dvs) H Q E) : wpAny (model X.prog X.w) X.A (call (.ref f) us) (EP X pins σ Q) X.xe s := by
  have r2 : Vals (vs ++ dvs) (us ++ ds) := r.append hd
  have hl : (us ++ ds).length = ps.length := by rw [← r2.length, G.arity _ _ _ _ h]
  refine wpAny_call (codeAny_mono (G.go X.A X.stack s H ⟨us, []⟩ (us ++ ds) (vs ++ dvs) Q E hr gd I.env0 (hb s us I.kIn hl) r2 h) fun res s' hq => ?_)
  match res, hq with
  | .error e, hq => exact hx pins σ H s e s' I hq
  | .ok (.ret u), hq => exact I.after hq
theorem pe_callG (G : FnG X.prog X.w X.K X.mg X.base CX k f fd ps sp) (hr : Room k X.A) (gd : X.A.guards = some []) (hm : X.mg x = some (.ref f)) (hk : PySem.W.keepIn X.K (.ref f) = true) (hb : Binds X.K fd ps ds) (hd : Vals dvs ds) (hx : Passes CX X E)
    (ha : PA X (e :: es) t) (hg : Gl X x) (he : starEach (e :: es) X.env = (false, eval e X.env) :: starEach es X.env) (hpl : (backTo pos (starEach es X.env)).any (·.1) = false) (hdb : (x == ("__debug__" : Str)) = false) :
    PE X (.Call (.Name x p) (e :: es) [] pos) (tCall sp dvs E t) := by
  refine ⟨fun pins s σ H Q I h => wpAny_Call_Name_kw (ld_glob I hg hm ?_ hdb)⟩
  refine PySem.W.callWith_K (h₀ := X.base) I.ok.mod.kin hk (thn (ha.run pos pins s σ H _ I h) fun us s1 ⟨vs, H1, I1, r, q⟩ => ?_) he hpl
  exact ⟨I1.kIn, runG G hr gd hb hd hx I1 r q⟩
end
def RvOk (K : Kx) (H F' H' : Hp) (v : V) : RV → Prop
  | .val d => Dp K F' v d
  | .new xs => ∃ a, v = .ref a ∧ H a = none ∧ Lst K F' H' a xs
  | .dct kvs => ∃ a, v = .ref a ∧ H a = none ∧ Dct K F' H' a kvs
  | .exc _ => False
def spP (K : Kx) (n : Nat) (mf : List D → Option RV) : Sp := fun vs H Q E => vs.length = n ∧ ∃ F ds r, Same F H ∧ DpAll K F vs ds ∧ mf ds = some r ∧ (∀ v F' H', Gr F H F' H' → RvOk K H F' H' v r → Q v H') ∧
  ∀ x, r = .exc x → ∀ cls d F' H', Gr F H F' H' → ExOk K F' x cls d → E cls d H'
structure GrP (p : Addr) (F H F' H' : Hp) : Prop where
  ff : Same F F'
  fh : Same F' H'
  hh : ∀ a o, a ≠ p → H a = some o → H' a = some o
  nw : ∀ a, F' a ≠ none → F a ≠ none ∨ H a = none
def spQ (K : Kx) (n : Nat) (mf : List D → List D → Option (RV × List D)) : Sp := fun vs H Q _ => vs.length = n ∧ ∃ F p vs' us xs ds r, vs = .ref p :: vs' ∧ Same F H ∧ F p = none ∧ H p = some (.lst us) ∧ DpAll K F us xs ∧ DpAll K F vs' ds ∧ mf xs ds = some r ∧ (∀ x, r.1 ≠ .exc x) ∧
  ∀ v F' H' us', GrP p F H F' H' → F' p = none → H' p = some (.lst us') → DpAll K F' us' r.2 → RvOk K H F' H' v r.1 → Q v H'
def st0 (n : Nat) (ds : List D) : AS := ds.map Slot.dat ++ List.replicate (n - ds.length) Slot.no
def st1 (n : Nat) (xs : List D) (ds : List D) : AS := Slot.pen xs :: (ds.map Slot.dat ++ List.replicate (n - ds.length - 1) Slot.no)
def Leaves (g : SF) (st : AS) (r : RV) (last : AS → Prop) : Prop := ∃ st', (g st = some (.ret r, st') ∨ (g st = some (.nx, st') ∧ r = .val .none)) ∧ last st'
section
variable {P : Program} {w : World} {K : Kx} {mg : Str → Option Value} {base : Heap} {CX : CXT} {k : Nat} {f : Addr} {fd : FuncData} {ps N : List Str} {W : WX}
theorem start_get {N : List Str} {vs : List V} (h : vs.length ≤ N.length) {i : Nat} {v : V} (e : vs[i]? = some v) : (L2.start N vs)[i]? = some (some v) := by
  unfold L2.start
  have hi := (List.getElem?_eq_some_iff.mp e).1
  rw [List.getElem?_append_left (by simpa using hi), List.getElem?_map, e]
  rfl
theorem start_len {N : List Str} {vs : List V} (h : vs.length ≤ N.length) : (L2.start N vs).length = N.length := by
  unfold L2.start
  rw [List.length_append, List.length_map, List.length_replicate]
  omega
theorem rel0 {F H : Hp} {vs : List V} {ds : List D} (fh : Same F H) (h : DpAll K F vs ds) (hl : vs.length ≤ N.length) : Rel K ⟨H, F, none, W, none⟩ F (st0 N.length ds) (L2.start N vs) H where
  len := by
    unfold st0
    rw [start_len hl, List.length_append, List.length_map, List.length_replicate, ← DpAll_len h]
    omega
  f0 := Same.refl _
  fh := fh
  old := fun a o e _ => e
  new := fun a e _ => e
  slot := fun i s e => by
    unfold st0 at e
    by_cases hi : i < ds.length
    · rw [List.getElem?_append_left (by simpa using hi), List.getElem?_map] at e
      obtain ⟨d, hd, rfl⟩ := Option.map_eq_some_iff.mp e
      obtain ⟨v, h1, h2⟩ := DpAll_get h hd
      exact ⟨v, start_get hl h1, h2⟩
    · rw [List.getElem?_append_right (by simpa using hi), List.getElem?_replicate] at e
      split at e <;> cases e
      trivial
  apart := fun i j a hi _ _ _ => by
    exfalso
    have no : ∀ s, (st0 N.length ds)[i]? = some s → (∃ d, s = .dat d) ∨ s = .no := fun s e => by
      unfold st0 at e
      by_cases hi : i < ds.length
      · rw [List.getElem?_append_left (by simpa using hi), List.getElem?_map] at e
        obtain ⟨d, hd, rfl⟩ := Option.map_eq_some_iff.mp e
        exact .inl ⟨d, rfl⟩
      · rw [List.getElem?_append_right (by simpa using hi), List.getElem?_replicate] at e
        split at e <;> cases e
        exact .inr rfl
    obtain ⟨s0, e, hm⟩ := hi
    rcases no _ e with ⟨d, z⟩ | z <;> (subst z; cases hm)
  penh := fun p e => nomatch e
  pent := fun p e => nomatch e
  tab := fun q e => nomatch e
theorem Rel.gr {F H F' H' : Hp} {st : AS} {σ : L2.St} (R : Rel K ⟨H, F, none, W, none⟩ F' st σ H') : Gr F H F' H' :=
  ⟨R.f0, R.fh, fun a o e => R.old a o e (fun z => nomatch z), fun a e => by
    by_cases hF : F a = none
    · by_cases hH : H a = none
      · exact .inr hH
      · exact absurd (R.new a hF hH) e
    · exact .inl hF⟩
theorem rel1 {F H : Hp} {p : Addr} {us vs : List V} {xs ds : List D} (fh : Same F H) (hp : F p = none) (hH : H p = some (.lst us)) (hu : DpAll K F us xs) (h : DpAll K F vs ds) (hl : vs.length + 1 ≤ N.length) :
    Rel K ⟨H, F, some p, W, none⟩ F (st1 N.length xs ds) (L2.start N (.ref p :: vs)) H where
  len := by
    unfold st1
    rw [start_len (by simpa using hl), List.length_cons, List.length_append, List.length_map, List.length_replicate, ← DpAll_len h]
    omega
  f0 := Same.refl _
  fh := fh
  old := fun a o e _ => e
  new := fun a e _ => e
  slot := fun i s e => by
    unfold st1 at e
    cases i with
    | zero =>
      cases e
      exact ⟨p, start_get (by simpa using hl) rfl, rfl, hp, us, hH, hu⟩
    | succ i =>
      rw [List.getElem?_cons_succ] at e
      by_cases hi : i < ds.length
      · rw [List.getElem?_append_left (by simpa using hi), List.getElem?_map] at e
        obtain ⟨d, hd, rfl⟩ := Option.map_eq_some_iff.mp e
        obtain ⟨v, h1, h2⟩ := DpAll_get h hd
        exact ⟨v, start_get (vs := .ref p :: vs) (by simpa using hl) (by rw [List.getElem?_cons_succ]; exact h1), h2⟩
      · rw [List.getElem?_append_right (by simpa using hi), List.getElem?_replicate] at e
        split at e <;> cases e
        trivial
  apart := fun i j a hi hj _ _ => by
    have z : ∀ i, Mu (st1 N.length xs ds) i → i = 0 := fun i hi => by
      cases i with
      | zero => rfl
      | succ i =>
        exfalso
        have no : ∀ s, (st1 N.length xs ds)[i + 1]? = some s → (∃ d, s = .dat d) ∨ s = .no := fun s e => by
          unfold st1 at e
          rw [List.getElem?_cons_succ] at e
          by_cases hi : i < ds.length
          · rw [List.getElem?_append_left (by simpa using hi), List.getElem?_map] at e
            obtain ⟨d, hd, rfl⟩ := Option.map_eq_some_iff.mp e
            exact .inl ⟨d, rfl⟩
          · rw [List.getElem?_append_right (by simpa using hi), List.getElem?_replicate] at e
            split at e <;> cases e
            exact .inr rfl
        obtain ⟨s0, e, hm⟩ := hi
        rcases no _ e with ⟨d, z⟩ | z <;> (subst z; cases hm)
    rw [z i hi, z j hj]
  penh := fun q e => by
    cases e
    show H p ≠ none
    rw [hH]; simp
  pent := fun q e => by
    cases e
    rw [hH]; simp
  tab := fun q e => nomatch e
theorem Rel.grP {p : Addr} {F H F' H' : Hp} {st : AS} {σ : L2.St} (R : Rel K ⟨H, F, some p, W, none⟩ F' st σ H') : GrP p F H F' H' :=
  ⟨R.f0, R.fh, fun a o n e => R.old a o e (fun z => n (Option.some.inj z).symm), fun a e => by
    by_cases hF : F a = none
    · by_cases hH : H a = none
      · exact .inr hH
      · exact absurd (R.new a hF hH) e
    · exact .inl hF⟩
end
def callP (mf : List D → Option RV) (dvs : List D) (g : LF) : AS → Option (RV × AS) := fun st => (g st).bind fun a => (mf (a.1 ++ dvs)).map fun r => (r, a.2)
def rvD (c : AS → Option (RV × AS)) : EF := fun st => (c st).bind fun r => match r.1 with
  | .val d => some (d, r.2)
  | .new xs => some (.list xs, r.2)
  | .dct _ => none
  | .exc _ => none
def rvN (c : AS → Option (RV × AS)) : LF := fun st => (c st).bind fun r => match r.1 with
  | .new xs => some (xs, r.2)
  | _ => none
def callQ (mf : List D → List D → Option (RV × List D)) (i : Nat) (g : LF) : AS → Option (RV × AS) := fun st => (muC st i).bind fun _ => (g st).bind fun a => (muC a.2 i).bind fun xs => (mf xs a.1).map fun r => (r.1, putM a.2 i r.2)
section
variable {K : Kx} {C : Ct} {mf : List D → Option RV} {mq : List D → List D → Option (RV × List D)} {g : LF} {n : Nat} {σ : L2.St} {H : Hp} {Q : VK} {dvs : List V} {dds : List D} {E : XK}
theorem callP_d (hd : ∀ F, DpAll K F dvs dds) (hn : ∀ st r, g st = some r → (r.1 ++ dds).length = n) (q : dOf K C (rvD (callP mf dds g)) σ H Q) : tCall (spP K n mf) dvs E (aOf K C g) σ H Q := by
  obtain ⟨F, st, w, R, e, q⟩ := q
  obtain ⟨c, ec, e⟩ := Option.bind_eq_some_iff.mp e
  obtain ⟨a, ea, ec⟩ := Option.bind_eq_some_iff.mp ec
  obtain ⟨r, er, ec⟩ := Option.map_eq_some_iff.mp ec
  cases ec
  refine ⟨F, st, a, R, ea, fun vs H1 F1 s1 R1 d1 => ?_⟩
  have dd := DpAll_app d1 (hd F1)
  refine ⟨by rw [DpAll_len dd]; exact hn st a ea, F1, _, r, R1.fh, dd, er, fun v F2 H2 gr ok => ?_, fun x hx => by subst hx; cases e⟩
  have R2 := R1.grow gr
  cases r with
  | val d => cases e; exact q v H2 F2 (s1.trans gr.ff) R2 ok
  | new xs =>
    cases e
    obtain ⟨p, rfl, hp, hF, us, hH, hu⟩ := ok
    obtain ⟨A, _⟩ := R1.aside hp
    obtain ⟨k1, k2, k3⟩ := R2.freezeNew A.h0 hF hH (fun j hj => A.ap j hj) hu
    exact q _ H2 _ ((s1.trans gr.ff).trans k1) k2 k3
  | dct kvs => cases e
  | exc x => cases e
theorem Rel.growP {F F' H' : Hp} {st : AS} {i : Nat} {xs ys : List D} {p : Addr} {us us' : List V} (R : Rel K C F st σ H) (hx : muC st i = some xs) (hs : σ[i]? = some (some (.ref p))) (hH : H p = some (.lst us)) (gr : GrP p F H F' H') (hF' : F' p = none) (hH' : H' p = some (.lst us')) (hu : DpAll K F us xs) (hu' : DpAll K F' us' ys) :
    Rel K C F' (putM st i ys) σ H' := by
  have g2 : Gr F H F' (upd H' p (.lst us)) := ⟨gr.ff, fun a o e => by
      have hb : a ≠ p := fun z => by subst z; rw [hF'] at e; cases e
      rw [upd_ne hb]; exact gr.fh a o e, fun a o e => by
      by_cases hb : a = p
      · subst hb; rw [upd_same]; rw [hH] at e; exact e
      · rw [upd_ne hb]; exact gr.hh a o hb e, gr.nw⟩
  have R2 := (R.grow g2).put hx hs hu'
  rw [upd_upd] at R2
  have e : upd H' p (.lst us') = H' := by
    funext a
    by_cases hb : a = p
    · subst hb; rw [upd_same, hH']
    · rw [upd_ne hb]
  rw [e] at R2
  exact R2
theorem putM_apart {st : AS} {i : Nat} {xs ys : List D} {z : Addr} (ex : muC st i = some xs) (ap : ∀ j, Mu st j → σ[j]? ≠ some (some (.ref z))) : ∀ j, Mu (putM st i ys) j → σ[j]? ≠ some (some (.ref z)) := fun j hj => by
  refine ap j ?_
  by_cases ej : j = i
  · subst ej; exact mu_Mu ex
  · unfold Mu at hj ⊢
    have : (putM st i ys)[j]? = st[j]? := by
      unfold putM
      split <;> first | rfl | rw [List.getElem?_set_ne (Ne.symm ej)]
    rw [this] at hj
    exact hj
theorem callQ_d {i : Nat} (hn : ∀ st r, g st = some r → r.1.length + 1 = n) (q : dOf K C (rvD (callQ mq i g)) σ H Q) : tCall (spQ K n mq) [] E (tCons (tVar i) (aOf K C g)) σ H Q := by
  obtain ⟨F, st, w, R, e, q⟩ := q
  obtain ⟨c, ec, e⟩ := Option.bind_eq_some_iff.mp e
  obtain ⟨x0, e0, ec⟩ := Option.bind_eq_some_iff.mp ec
  obtain ⟨a, ea, ec⟩ := Option.bind_eq_some_iff.mp ec
  obtain ⟨xs, ex, ec⟩ := Option.bind_eq_some_iff.mp ec
  obtain ⟨r, er, ec⟩ := Option.map_eq_some_iff.mp ec
  obtain ⟨r1, r2⟩ := r
  cases ec
  obtain ⟨p, hp, _, _⟩ := R.mu e0
  refine ⟨.ref p, hp, F, st, a, R, ea, fun vs H1 F1 s1 R1 d1 => ?_⟩
  obtain ⟨p', hp', ⟨hF, us, hH, hu⟩, _⟩ := R1.mu ex
  rw [hp] at hp'
  cases hp'
  rw [List.append_nil]
  refine ⟨by rw [List.length_cons, DpAll_len d1]; exact hn st a ea, F1, p, vs, us, xs, a.1, (r1, r2), rfl, R1.fh, hF, hH, hu, d1, er, fun x hx => ?_, fun v F2 H2 us' gr k1 k2 k3 ok => ?_⟩
  · dsimp only at hx e
    subst hx
    cases e
  have R2 := R1.growP ex hp hH gr k1 k2 hu k3
  dsimp only at e ok
  cases r1 with
  | val d => cases e; exact q v H2 F2 (s1.trans gr.ff) R2 ok
  | exc x => cases e
  | new zs =>
    cases e
    obtain ⟨z, rfl, hz, hFz, ws, hHz, hw⟩ := ok
    obtain ⟨A, _⟩ := R1.aside hz
    obtain ⟨k4, k5, k6⟩ := R2.freezeNew A.h0 hFz hHz (putM_apart ex A.ap) hw
    exact q _ H2 _ ((s1.trans gr.ff).trans k4) k5 k6
  | dct zs => cases e
end
end Xm
set_option Elab.async false
set_option linter.all false
set_option maxRecDepth 100000
namespace Xm
open PySem PySem.Spec PyProof.Rows L2
def kIn : D → D → Option D
  | a, .list xs => if SeqAt.shaped a = true ∧ SeqAt.shaped (.list xs) = true then some (.bool (xs.any fun z => PyData.eqv z a)) else none
  | a, .tuple xs => if SeqAt.shaped a = true ∧ SeqAt.shaped (.tuple xs) = true then some (.bool (xs.any fun z => PyData.eqv z a)) else none
  | a, .dict kvs => (dGet kvs a).map fun o => .bool o.isSome
  | _, _ => none
def kNotIn (a b : D) : Option D := (kIn a b).bind fun r => match r with
  | .bool x => some (.bool (!x))
  | _ => none
section
variable {X : Cx}
variable {C : Ct} {pos : Pos} {a b : Expr} {f g : EF}
end
def cutX {α : Type} (xs : List α) (lo hi : Option Int) : List α := (xs.drop (HT.sIx xs.length 0 lo)).take (HT.sIx xs.length xs.length hi - HT.sIx xs.length 0 lo)
theorem cut_dp {K : Kx} {F : Hp} {vs : List V} {ds : List D} {lo hi : Option Int} (h : DpAll K F vs ds) : DpAll K F (cutV vs lo hi) (cutX ds lo hi) := by
  unfold cutV cutX
  rw [DpAll_len h]
  exact DpAll_take _ (DpAll_drop _ h)
abbrev OF := AS → Option (Option Int × AS)
def oOf (K : Kx) (C : Ct) (f : OF) : TO := fun σ H Q => ∃ F st r, Rel K C F st σ H ∧ f st = some r ∧ ∀ H' F', Same F F' → Rel K C F' r.2 σ H' → Q r.1 H'
def noO : OF := fun st => some (none, st)
def someO (f : EF) : OF := fun st => (f st).bind fun a => match a.1 with
  | .int i => some (some i, a.2)
  | _ => none
def cutF (f : EF) (lo hi : OF) : EF := fun st => (f st).bind fun a => (lo a.2).bind fun l => (hi l.2).bind fun h => match a.1 with
  | .list xs => some (.list (cutX xs l.1 h.1), h.2)
  | .tuple xs => some (.tuple (cutX xs l.1 h.1), h.2)
  | _ => none
def revF (f : EF) : EF := fun st => (f st).bind fun a => match a.1 with
  | .list xs => some (.list xs.reverse, a.2)
  | _ => none
section
variable {X : Cx} {C : Ct} {pos p2 : Pos} {e : Expr} {lo hi : Option Expr} {f : EF} {l h : OF}
theorem po_wk {t t' : TO} {o : Option Expr} (h : PO X o t) (w : ∀ σ H Q, t' σ H Q → t σ H Q) : PO X o t' := ⟨fun pins s σ H Q I q => h.run pins s σ H Q I (w σ H Q q)⟩
theorem xo_none : PO X none (oOf (kxOf X) C noO) := po_wk po_none fun σ H Q q => by
  obtain ⟨F, st, w, R, e, q⟩ := q
  cases e
  exact q H F (Same.refl _) R
theorem xo_some (he : PE X e (dOf (kxOf X) C f)) : PO X (some e) (oOf (kxOf X) C (someO f)) := po_wk (po_some he) fun σ H Q q => by
  obtain ⟨F, st, w, R, e, q⟩ := q
  obtain ⟨a, ea, e⟩ := Option.bind_eq_some_iff.mp e
  split at e
  · rename_i i hi
    cases e
    exact ⟨F, st, a, R, ea, fun v H1 F1 s1 R1 d1 => ⟨i, dp_int (hi ▸ d1), q H1 F1 s1 R1⟩⟩
  · cases e
theorem cut_whole {α : Type} {xs : List α} {lo hi : Option Int} (h : HT.sIx xs.length 0 lo = 0 ∧ HT.sIx xs.length xs.length hi = xs.length) : cutX xs lo hi = xs := by
  unfold cutX
  rw [h.1, h.2]
  simp
theorem xd_slice (he : PE X e (dOf (kxOf X) C f)) (hl : PO X lo (oOf (kxOf X) C l)) (hh : PO X hi (oOf (kxOf X) C h)) : PE X (.Subscript e (.Slice lo hi none p2) pos) (dOf (kxOf X) C (cutF f l h)) :=
  pe_wk (pe_slice (sl_list.or sl_tupN) he hl hh) fun σ H Q q => by
    obtain ⟨F, st, w, R, e, q⟩ := q
    obtain ⟨a, ea, e⟩ := Option.bind_eq_some_iff.mp e
    obtain ⟨b, eb, e⟩ := Option.bind_eq_some_iff.mp e
    obtain ⟨c, ec, e⟩ := Option.bind_eq_some_iff.mp e
    refine ⟨F, st, a, R, ea, fun v H1 F1 s1 R1 d1 => ⟨F1, a.2, b, R1, eb, fun H2 F2 s2 R2 => ⟨F2, b.2, c, R2, ec, fun H3 F3 s3 R3 => ?_⟩⟩⟩
    have up : Same F F3 := (s1.trans s2).trans s3
    have d3 := Dp_up d1 (s2.trans s3)
    split at e
    · rename_i xs hx
      cases e
      rw [hx] at d3
      cases d3 with
      | lst hs hv =>
        rename_i a0 vs0
        refine .inl ⟨_, _, rfl, sql_up R3.fh hs, fun p hp => ?_⟩
        have gr := Gr.new (o := .lst (cutV vs0 b.1 c.1)) R3.fh hp
        exact q _ _ _ (up.trans gr.ff) (R3.grow gr) (.lst (.inl (.inl upd_same)) (DpAll_up (cut_dp hv) gr.ff))
    · rename_i xs hx
      cases e
      rw [hx] at d3
      cases d3 with
      | tup hs hv =>
        rename_i a0 vs0
        refine .inr ⟨_, _, rfl, sqt_up R3.fh hs, fun hw => ?_, fun hw p its hp => ?_⟩
        · refine q _ H3 F3 up R3 ?_
          rw [DpAll_len hv] at hw
          rw [cut_whole hw]
          exact .tup hs hv
        · have gr := Gr.new (o := .frz (tupO its) (.tup (cutV vs0 b.1 c.1))) R3.fh hp
          exact q _ _ _ (up.trans gr.ff) (R3.grow gr) (.tup (TupQ.new upd_same) (DpAll_up (cut_dp hv) gr.ff))
    · cases e
end
def rCatL (K : Kx) : R2 := fun x y H Q => ∃ a b xs ys, x = .ref a ∧ y = .ref b ∧ SqL K.K H a xs ∧ SqL K.K H b ys ∧ xs.length + ys.length ≤ sizeLine ∧ ∀ p, H p = none → Q (.ref p) (upd H p (.lst (xs ++ ys)))
theorem op_catL {X : Cx} : OpR X (binaryOp .Add) (rCatL (kxOf X)) := by
  intro pins s σ H x y v u Q I rx ry h
  obtain ⟨a, b, xs, ys, rfl, rfl, ha, hb, hz, q⟩ := h
  cases rx
  cases ry
  obtain ⟨its, r, ⟨⟨c1, d1, t1, sl1⟩, n, e, hc, _, hd⟩, _⟩ := I.list ha
  obtain ⟨its2, r2, ⟨⟨c2, d2, t2, sl2⟩, n2, e2, hc2, _, hd2⟩, _⟩ := I.list hb
  dsimp only at hc hd hc2 hd2
  subst hc hd hc2 hd2
  have l1 := r.length
  have l2 := r2.length
  have ea : its.toArray ++ its2.toArray = (its ++ its2).toArray := by simp
  refine concat_meets ⟨_, e, rfl⟩ ⟨_, e2, rfl⟩ noFill_list_add seq_list_add PySem.F.slot_list_add PySem.F.entry_list_add (PySem.F.args_list_add_2 _ _) (list_addW a b its.toArray its2.toArray n n2 d1 d2 sl1 sl2 (by rw [List.size_toArray, List.size_toArray]; omega)) ⟨e, e2, ?_⟩
  rw [ea]
  exact ⟨.ref _, _, I.lnew (t' := s.toks) (r.append r2) (by rw [List.length_append]; omega), rfl, q _ I.fresh⟩
def kCat : D → D → Option D
  | .int i, .int j => some (.int (i + j))
  | .tuple xs, .tuple ys => if xs.length + ys.length ≤ sizeLine then some (.tuple (xs ++ ys)) else none
  | .list xs, .list ys => if xs.length + ys.length ≤ sizeLine then some (.list (xs ++ ys)) else none
  | _, _ => none
theorem ok_cat {K : Kx} : Ok2 K (fun x y H Q => rI0 (fun i j => .int (i + j)) x y H Q ∨ rCatN K.K x y H Q ∨ rCatL K x y H Q) kCat := by
  intro F H x y a b z Q fh ha hb e q
  unfold kCat at e
  split at e
  · cases e
    exact .inl ⟨_, _, dp_int ha, dp_int hb, q _ F H (Gr.refl fh) (.int _)⟩
  · split at e <;> cases e
    rename_i hl
    cases ha with
    | tup hs hv =>
      rename_i a0 vs0
      cases hb with
      | tup hs2 hv2 =>
        rename_i a1 vs1
        refine .inr (.inl ⟨_, _, _, _, rfl, rfl, sqt_up fh hs, sqt_up fh hs2, by rw [DpAll_len hv, DpAll_len hv2]; exact hl, fun h0 => ?_, fun h0 h1 => ?_, fun h0 h1 p its hp => ?_⟩)
        · subst h0
          cases hv
          exact q _ F H (Gr.refl fh) (.tup hs2 hv2)
        · subst h1
          cases hv2
          rw [List.append_nil] at q
          exact q _ F H (Gr.refl fh) (.tup hs hv)
        · have gr := Gr.new (o := .frz (tupO its) (.tup (vs0 ++ vs1))) fh hp
          exact q _ _ _ gr (.tup (TupQ.new upd_same) (DpAll_up (DpAll_app hv hv2) gr.ff))
  · split at e <;> cases e
    rename_i hl
    cases ha with
    | lst hs hv =>
      rename_i a0 vs0
      cases hb with
      | lst hs2 hv2 =>
        rename_i a1 vs1
        refine .inr (.inr ⟨_, _, _, _, rfl, rfl, sql_up fh hs, sql_up fh hs2, by rw [DpAll_len hv, DpAll_len hv2]; exact hl, fun p hp => ?_⟩)
        have gr := Gr.new (o := .lst (vs0 ++ vs1)) fh hp
        exact q _ _ _ gr (.lst (.inl (.inl upd_same)) (DpAll_up (DpAll_app hv hv2) gr.ff))
  · cases e
section
variable {X : Cx} {C : Ct} {pos : Pos} {a b : Expr} {f g : EF}
theorem xd_cat (ha : PE X a (dOf (kxOf X) C f)) (hb : PE X b (dOf (kxOf X) C g)) : PE X (.BinOp a .Add b pos) (dOf (kxOf X) C (bin2 kCat f g)) := xd_op (op_add.or (op_catN.or op_catL)) ok_cat ha hb
end
def ArN (g : LF) (n : Nat) : Prop := ∀ st r, g st = some r → r.1.length = n
theorem ar_nil : ArN nilA 0 := fun st r e => by cases e; rfl
theorem ar_cons {f : EF} {g : LF} {n : Nat} (h : ArN g n) : ArN (consA f g) (n + 1) := fun st r e => by
  obtain ⟨a, ea, e⟩ := Option.bind_eq_some_iff.mp e
  obtain ⟨b, eb, e⟩ := Option.map_eq_some_iff.mp e
  cases e
  rw [List.length_cons, h _ _ eb]
section
variable {X : Cx} {C : Ct} {k n m : Nat} {f : Addr} {fd : FuncData} {ps : List Str} {x y : Str} {p p1 pos : Pos} {e : Expr} {es : List Expr} {g : LF} {mf : List D → Option RV} {mq : List D → List D → Option (RV × List D)} {dvs : List V} {dds : List D} {ds : List Value}
theorem xd_callP (G : FnG X.prog X.w X.K X.mg X.base (CXM X.prog X.w) k f fd ps (spP (kxOf X) n mf)) (hr : Room k X.A) (gd : X.A.guards = some []) (hm : X.mg x = some (.ref f)) (hk : PySem.W.keepIn X.K (.ref f) = true) (hb : Binds X.K fd ps ds) (hv : Vals dvs ds) (hd : ∀ F, DpAll (kxOf X) F dvs dds)
    (ha : PA X (e :: es) (aOf (kxOf X) C g)) (hn : ArN g m) (hnm : m + dds.length = n := by rfl) (hg : Gl X x := by rfl) (he : starEach (e :: es) X.env = (false, eval e X.env) :: starEach es X.env := by rfl) (hpl : (backTo pos (starEach es X.env)).any (·.1) = false := by rfl) (hdb : (x == ("__debug__" : Str)) = false := by decide) :
    PE X (.Call (.Name x p) (e :: es) [] pos) (dOf (kxOf X) C (rvD (callP mf dds g))) :=
  pe_wk (pe_callG (E := E0) G hr gd hm hk hb hv passL ha hg he hpl hdb) fun _ _ _ q => callP_d hd (fun st r er => by rw [List.length_append, hn st r er]; exact hnm) q
theorem xd_callQ {i : Nat} (G : FnG X.prog X.w X.K X.mg X.base (CXM X.prog X.w) k f fd ps (spQ (kxOf X) n mq)) (hr : Room k X.A) (gd : X.A.guards = some []) (hm : X.mg x = some (.ref f)) (hk : PySem.W.keepIn X.K (.ref f) = true) (hb : Binds X.K fd ps [])
    (ho : PE X e (tVar i)) (ha : PA X es (aOf (kxOf X) C g)) (hn : ArN g m) (hnm : m + 1 = n := by rfl) (hg : Gl X x := by rfl) (he : starEach (e :: es) X.env = (false, eval e X.env) :: starEach es X.env := by rfl) (hpl : (backTo pos (starEach es X.env)).any (·.1) = false := by rfl) (hdb : (x == ("__debug__" : Str)) = false := by decide) :
    PE X (.Call (.Name x p) (e :: es) [] pos) (dOf (kxOf X) C (rvD (callQ mq i g))) :=
  pe_wk (pe_callG (E := E0) G hr gd hm hk hb .nil passL (pa_cons ho ha he) hg he hpl hdb) fun _ _ _ q => callQ_d (fun st r er => by rw [hn st r er]; exact hnm) q
end
def par2 (i j : Nat) (g : LF) : SF := fun st => (g st).bind fun a => match a.1 with
  | [x, y] => (setD i x a.2).bind fun s1 => (setD j y s1).map fun s2 => (.nx, s2)
  | _ => none
def par3 (i j l : Nat) (g : LF) : SF := fun st => (g st).bind fun a => match a.1 with
  | [x, y, z] => (setD i x a.2).bind fun s1 => (setD j y s1).bind fun s2 => (setD l z s2).map fun s3 => (.nx, s3)
  | _ => none
section
variable {X : Cx} {C : Ct} {pos px py pz pt : Pos} {a b c : Expr} {g : LF} {i j l : Nat} {x y z : Str} {kt k2 pt2}
theorem xs_par2 (hN : X.N.Nodup) (ha : PA X [a, b] (aOf (kxOf X) C g)) (hi : X.N[i]? = some x) (hj : X.N[j]? = some y) (hij : i ≠ j) (hx : X.env.scope.names.lookup x = some .local) (hy : X.env.scope.names.lookup y = some .local)
    (hw : swappedStores [.Tuple [.Name x px, .Name y py] kt pt] (.Tuple [a, b] k2 pt2) X.env = pure (some [x, y]))
    (hs : swapsWithSole [.Tuple [.Name x px, .Name y py] kt pt] (.Tuple [a, b] k2 pt2) pos.line X.env = pure false := by rfl) (hc : X.calm = true := by rfl) :
    PS X (.Assign [.Tuple [.Name x px, .Name y py] kt pt] (.Tuple [a, b] k2 pt2) pos) (sOf (kxOf X) C (par2 i j g)) :=
  ps_wk (ps_par hc hN hi hj hij hx hy ha hw hs) fun Z σ H q => by
    obtain ⟨F, st, w, R, e, q⟩ := q
    obtain ⟨r, er, e⟩ := Option.bind_eq_some_iff.mp e
    refine ⟨F, st, r, R, er, fun vs H1 F1 s1 R1 d1 => ?_⟩
    split at e
    · rename_i u v huv
      obtain ⟨t1, e1, e⟩ := Option.bind_eq_some_iff.mp e
      obtain ⟨t2, e2, e⟩ := Option.map_eq_some_iff.mp e
      cases e
      rw [huv] at d1
      cases d1 with
      | cons d2 d3 =>
        cases d3 with
        | cons d4 d5 =>
          cases d5
          exact ⟨_, _, rfl, q _ H1 F1 s1 ((R1.setD e1 d2).setD e2 d4)⟩
    · cases e
end
def asgT (f : EF) (u : D → AS → Option AS) : SF := fun st => (f st).bind fun a => (u a.1 a.2).map fun s => (.nx, s)
section
variable {X : Cx} {C : Ct} {pos : Pos} {tg e : Expr} {f : EF} {u : D → AS → Option AS} {ts : List Nat}
end
section
variable {X : Cx} {C : Ct} {pos spos py : Pos} {elt tg iter : Expr} {ifs : List Expr} {scope : Scope} {own : List (Str × Nat)} {it : LF} {u : D → AS → Option AS} {ts : List Nat} {tt : BF} {te : EF} {i : Nat} {y : Str} {vs : List Nat}
end
end Xm
set_option Elab.async false
set_option linter.all false
set_option maxRecDepth 100000
namespace Xm
open PySem PySem.Spec PyProof.Rows L2
theorem dpa_ints {K : Kx} {F : Hp} : ∀ ns : List Int, DpAll K F (ns.map V.int) (ns.map PyData.int)
  | [] => .nil
  | n :: ns => .cons (.int n) (dpa_ints ns)
theorem lawG {P : Program} {w : World} {K : PySem.W.Frag} {mg mb : Str → Option Value} {k : Nat} {fa a : Addr} {fd : FuncData} {x : Str} {mf : List D → Option RV} {st : Shared} {vs : List Value} {ns : List Int}
    (KX : K.In st.heap) (hns : st.heap.Ns mainGlobals mg) (hb : st.heap.Ns builtinsNs mb) (hbb : ∀ x : Str, x ≠ "__name__" → mb x = bootBuiltins x) (hlim : st.heap.NoLimit) (hg : st.gens = #[])
    (ha : st.heap.get? a = some { cls := .type "list", data := .seq vs.toArray }) (hi : IntsAre vs ns) (hl : ns.length ≤ sizeLine) (hr : Room k callerA)
    (G : ∀ base : Heap, K.In base → base.Ns mainGlobals mg → FnG P w K mg base (CXM P w) k fa fd [x] (spP ⟨K, P, w, mg⟩ 1 mf)) (bind : ∀ (s : Shared) (u : Value), BindsTo s fd ⟨[u], []⟩ [(x, u)])
    (hmf : mf [.list (ns.map PyData.int)] = some (.val (.bool true))) :
    codeAny (model P w) callerA (.call (.ref fa) ⟨[.ref a], []⟩) (fun r s' => r = .ok (.ret (.bool true)) ∧ OldK st.heap s'.heap ∧ s'.os = st.os ∧ AllBare s'.gens) st := by
  have rv : Vals (ns.map V.int) vs := vals_ints hi
  have hlen : vs.length = ns.length := hi.length
  obtain ⟨H, hH, hS⟩ : ∃ H : Hp, (∀ b u, H b = some u → b = a ∧ K.lookup a = none ∧ u = .frz { cls := .type "list", data := .seq vs.toArray } (.lst (ns.map V.int))) ∧ SqL K H a (ns.map V.int) := by
    cases hk : K.lookup a with
    | none =>
      refine ⟨fun b => if b = a then some (.frz { cls := .type "list", data := .seq vs.toArray } (.lst (ns.map V.int))) else none, fun b u e => ?_, .inl (.inr ⟨_, if_pos rfl⟩)⟩
      dsimp only at e
      by_cases hb : b = a
      · rw [if_pos hb] at e
        cases e
        exact ⟨hb, rfl, rfl⟩
      · rw [if_neg hb] at e
        cases e
    | some o =>
      have e := KX a o hk
      rw [ha] at e
      cases e
      refine ⟨fun _ => none, fun b u e => (nomatch e), .inr ⟨_, vs.toArray, _, hk, rfl, rfl, rfl, ?_, by simpa using rv⟩⟩
      rw [List.size_toArray, hlen]
      exact hl
  have free_of : ∀ {b : Addr} {o : Obj}, K.lookup b = some o → H b = none := fun {b o} e => by
    cases q : H b with
    | none => rfl
    | some u =>
      obtain ⟨z1, z2, _⟩ := hH b u q
      subst z1
      rw [z2] at e
      cases e
  have free_dict : ∀ {b : Addr} {o : Obj} {es : Array DictEntry} {ep : Nat}, st.heap.get? b = some o → o.data = .dict es ep → H b = none := fun {b o es ep} e d => by
    cases q : H b with
    | none => rfl
    | some u =>
      obtain ⟨z1, _, _⟩ := hH b u q
      subst z1
      rw [ha] at e
      cases e
      cases d
  have nsBase : ∀ {b : Addr} {m : Str → Option Value}, st.heap.Ns b m → (hidT st.heap H).Ns b m := fun {b m} ⟨o, es, ep, e, d, r⟩ => ⟨o, es, ep, hidT_get e (free_dict e d), d, r⟩
  have inBase : K.In (hidT st.heap H) := fun b o e => hidT_get (KX b o e) (free_of e)
  have hok : HOk P w H st.heap := fun b u e => by
    obtain ⟨rfl, _, rfl⟩ := hH b u e
    refine ⟨ha, ?_, vs, _, rv, ha⟩
    rw [List.length_map]
    exact hl
  have modB : Mod K mg (hidT st.heap H) := by
    obtain ⟨mc, h1, h2⟩ := hlim
    exact ⟨inBase, nsBase hns, ⟨mb, nsBase hb, hbb⟩, ⟨mc, nsBase h1, h2⟩⟩
  have entry : Env0 P w K mg (hidT st.heap H) callerA [] st H := by
    refine ⟨rfl, modB, fun b o e => of_hidT e, Nat.le_of_eq (hidT_size _ _), trivial, fun b z => ?_, hok, .of_eq hg⟩
    exact absurd (show b ∈ ([] : List Addr) from z) (by simp)
  refine codeAny_mono ((G _ inBase (nsBase hns)).go callerA [] st H ⟨[.ref a], []⟩ [.ref a] [.ref a] (fun v _ => v = .bl true) E0 hr rfl entry (bind st (.ref a)) (.cons rfl .nil)
    ⟨rfl, H, [.list (ns.map PyData.int)], .val (.bool true), Same.refl _, .cons (.lst hS (dpa_ints ns)) .nil, hmf, fun v F' H' gr ok => dp_bl ok, fun x hx => nomatch hx⟩) fun r s' h => ?_
  match r, h with
  | .error e, h =>
    obtain ⟨_, _, _, _, _, _, _, _, _, _, _, _, z⟩ := h
    exact z.elim
  | .ok (.ret u), h =>
    obtain ⟨v, H', os, bare, un, hok', rv', q⟩ := h
    have q' : v = .bl true := q
    subst q'
    obtain rfl : u = Value.bool true := rv'
    refine ⟨rfl, OldK.of_keep fun b o e => ?_, os, bare⟩
    cases q : H b with
    | none => exact un.keep b o e q (fun z => absurd (show b ∈ ([] : List Addr) from z) (by simp)) (by simp)
    | some u =>
      obtain ⟨rfl, _, rfl⟩ := hH b u q
      obtain ⟨e2, _⟩ := hok' b _ (un.frzs b _ _ q)
      rw [ha] at e
      cases e
      exact e2
theorem walkG {l : PySem.W.OpenLaw} {n k : Nat} {q : Program} {loose : List Str} {XP : (Str → Option Value) → Heap → Prop} {YP : World → Heap → Prop} {d : DefRec} {K : Params → PySem.W.Frag} {mf : List D → Option RV} {x : Str}
    (hn : l.most = some n) (hn2 : n ≤ sizeLine) (hdf : d.params.defaults = []) (hr : Room k callerA)
    (hY : ∀ (w : World) (h : Heap), YP w h → (K w.params).In h)
    (F : ∀ (w : World) (mg : Str → Option Value) (fa : Addr) (h : Heap), (K w.params).In h → h.Ns mainGlobals mg → mg d.name = some (.ref fa) →
      ∃ fd : FuncData, (∀ (s : Shared) (u : Value), BindsTo s fd ⟨[u], []⟩ [(x, u)]) ∧
        ∀ base : Heap, (K w.params).In base → base.Ns mainGlobals mg → FnG l.prog w (K w.params) mg base (CXM l.prog w) k fa fd [x] (spP ⟨K w.params, l.prog, w, mg⟩ 1 mf))
    (hmf : ∀ ns : List Int, ns.length ≤ n → (∀ z ∈ ns, Builtin.Int.intBits z ≤ 1048576) → mf [.list (ns.map PyData.int)] = some (.val (.bool true))) :
    PySem.W.WalkO q loose XP YP l.row.toRowW d [] (fun f vs => PySem.call f vs) := by
  refine Att.attach_callB hn hdf fun w s0 s1 mg mb fa o pm cd doc a vs ns G Y ho hd hcd hmg hobj hints hlen hbits hg => ?_
  obtain ⟨fd, hb, hF⟩ := F w mg fa _ (hY w _ Y) G.T.g hmg
  exact lawG (hY w _ Y) G.T.g G.T.b G.T.builtins G.T.nolimit hg hobj hints (Nat.le_trans hlen hn2) hr hF hb (hmf ns hlen hbits)
end Xm
set_option Elab.async false
set_option linter.all false
set_option maxRecDepth 100000
namespace Xm
open PySem PySem.Spec PyProof.Rows L2
def GlobD (K : PySem.W.Frag) (mg : Str → Option Value) (x : Str) (d : D) : Prop := ∃ v u, mg x = some u ∧ RelV v u ∧ ∀ P w F, Dp ⟨K, P, w, mg⟩ F v d
structure Has (P : Program) (w : World) (K : PySem.W.Frag) (mg : Str → Option Value) (base : Heap) (k : Nat) (x : Str) (n : Nat) (dds : List D) (mf : List D → Option RV) : Prop where
  ex : ∃ (f : Addr) (fd : FuncData) (ps : List Str) (dvs : List V) (ds : List Value), FnG P w K mg base (CXM P w) k f fd ps (spP ⟨K, P, w, mg⟩ n mf) ∧ mg x = some (.ref f) ∧ PySem.W.keepIn K (.ref f) = true ∧ Binds K fd ps ds ∧ Vals dvs ds ∧ ∀ F, DpAll ⟨K, P, w, mg⟩ F dvs dds
structure HasQ (P : Program) (w : World) (K : PySem.W.Frag) (mg : Str → Option Value) (base : Heap) (k : Nat) (x : Str) (n : Nat) (mq : List D → List D → Option (RV × List D)) : Prop where
  ex : ∃ (f : Addr) (fd : FuncData) (ps : List Str), FnG P w K mg base (CXM P w) k f fd ps (spQ ⟨K, P, w, mg⟩ n mq) ∧ mg x = some (.ref f) ∧ PySem.W.keepIn K (.ref f) = true ∧ Binds K fd ps []
section
variable {X : Cx} {C : Ct} {j k n m : Nat} {x : Str} {p pos : Pos} {e : Expr} {es : List Expr} {g : LF} {mf : List D → Option RV} {mq : List D → List D → Option (RV × List D)} {dds : List D} {d : D}
theorem xd_glob (h : GlobD X.K X.mg x d) (hg : Gl X x := by rfl) (hd : (x == ("__debug__" : Str)) = false := by decide) : PE X (.Name x pos) (dOf (kxOf X) C (cst d)) := by
  obtain ⟨v, u, h1, h2, h3⟩ := h
  exact xd_c (pe_glob hg h1 h2 hd) (h3 _ _)
theorem xd_call (h : Has X.prog X.w X.K X.mg X.base j x n dds mf) (hr : Room k X.A) (gd : X.A.guards = some []) (hjk : j ≤ k) (ha : PA X (e :: es) (aOf (kxOf X) C g)) (hn : ArN g m) (hnm : m + dds.length = n := by rfl) (hg : Gl X x := by rfl)
    (he : starEach (e :: es) X.env = (false, eval e X.env) :: starEach es X.env := by rfl) (hpl : (backTo pos (starEach es X.env)).any (·.1) = false := by rfl) (hdb : (x == ("__debug__" : Str)) = false := by decide) :
    PE X (.Call (.Name x p) (e :: es) [] pos) (dOf (kxOf X) C (rvD (callP mf dds g))) := by
  obtain ⟨f, fd, ps, dvs, ds, G, hm, hk, hb, hv, hd⟩ := h.ex
  exact xd_callP G (hr.mono hjk) gd hm hk hb hv hd ha hn hnm hg he hpl hdb
theorem xd_callM {i : Nat} (h : HasQ X.prog X.w X.K X.mg X.base j x n mq) (hr : Room k X.A) (gd : X.A.guards = some []) (hjk : j ≤ k) (ho : PE X e (tVar i)) (ha : PA X es (aOf (kxOf X) C g)) (hn : ArN g m) (hnm : m + 1 = n := by rfl) (hg : Gl X x := by rfl)
    (he : starEach (e :: es) X.env = (false, eval e X.env) :: starEach es X.env := by rfl) (hpl : (backTo pos (starEach es X.env)).any (·.1) = false := by rfl) (hdb : (x == ("__debug__" : Str)) = false := by decide) :
    PE X (.Call (.Name x p) (e :: es) [] pos) (dOf (kxOf X) C (rvD (callQ mq i g))) := by
  obtain ⟨f, fd, ps, G, hm, hk, hb⟩ := h.ex
  exact xd_callQ G (hr.mono hjk) gd hm hk hb ho ha hn hnm hg he hpl hdb
end
theorem Room.u65 {k : Nat} {A : Around} (r : Room k A) : A.units + 65 < cLine := by have := r.un; omega
abbrev Dn (K : PySem.W.Frag) (x : Str) (st : Stmt) (dvs : List V) (f : Addr) (fd : FuncData) : Prop := FunD K x x (defArgs st) (defBody st) (defScope st) dvs [] f fd
section
variable {P : Program} {w : World} {K : PySem.W.Frag} {mg : Str → Option Value} {base : Heap} {CX : CXT} {k j : Nat} {f : Addr} {fd : FuncData} {ps N : List Str} {sp : Sp} {dvs : List V}
theorem fnG_ofD {x : Str} {st : Stmt} (T : Dn K x st dvs f fd) (S : FnScope N ps (defScope st)) (ar : ∀ vs H Q E, sp vs H Q E → vs.length = ps.length)
    (body : ∀ (cdv : Value) (A : Around) (outer : List Env) (s : Shared) (H : Hp) (vs : List V) (Q : VK) (E : XK), Room k (A.deeper (envOfC x (defScope st) s.heap.objs.size f cdv)) → A.guards = some [] → sp vs H Q E →
      ∃ t, PSs (cxOf CX P w K mg base N x (defScope st) f cdv A outer s H E) (defBody st) t ∧ t { nx := fun _ H' => Q .non H', rt := Q } (L2.start N vs) H) : FnG P w K mg base CX (k + 1) f fd ps sp := by
  obtain ⟨oc, od, dV, kV, doc, pm, an, cdv, ct, osl, rfl, lk, hcd, _, _⟩ := T.ex
  refine ⟨ar, fun A outer s H args us vs Q E room guards env bind rel want => ?_⟩
  have inHeap : ∀ b o, base.get? b = some o → s.heap.get? b = some o := fun b o e => (env.bs b o e).1
  have written : K.In s.heap := env.mod.kin.keeps inHeap
  have param : ∀ y ∈ ps.zip us, (defScope st).names.lookup y.1 = some .local ∨ ((defScope st).names.lookup y.1 = some .cell ∧ ((cellsFrom (s.heap.objs.size + 1) (defScope st).names []).lookup y.1).isSome = true) := by
    intro y hy
    rcases S.par y.1 (List.of_mem_zip hy).1 with q | q
    · exact .inl q
    · exact .inr ⟨q, PySem.W.cellsFrom_some _ _ _ (.inl q)⟩
  refine codeAny_call_function room.depth (written _ _ lk) rfl S.co S.gen rfl (PySem.W.codeRec_of written hcd) (bind _ _ _ _ ?_)
  refine wpAny_newFunctionEnv_cells S.kind param fun en hen s1 inC => ?_
  subst hen
  refine ⟨(env.mod.nolimit.keeps inHeap).keeps inC.toInCall.keep, codeAny_func ?_⟩
  obtain ⟨t, pss, ht⟩ := body cdv A outer s H vs Q E (room.deeper _) guards want
  have I0 := inv_start (CX := CX) (qual := x) (f := f) (cd := cdv) (E := E) S room.hd env (ar _ _ _ _ want) rel inC
  refine wpAny_mono (pss.run [] s1 (L2.start N vs) H _ I0 ht) (fun fl s' hs => ?_) fun _ _ z => z
  cases fl with
  | ret u =>
    obtain ⟨v, σ', H', J, rv, q⟩ := hs
    exact ⟨v, H', J.os, J.bare, J.base, J.hok, rv, q⟩
  | next =>
    obtain ⟨σ', H', J, q⟩ := hs
    exact ⟨V.non, H', J.os, J.bare, J.base, J.hok, rfl, q⟩
  | brk =>
    obtain ⟨_, _, _, q⟩ := hs
    exact q.elim
  | cont =>
    obtain ⟨_, _, _, q⟩ := hs
    exact q.elim
theorem defX {x : Str} {st : Stmt} {n : Nat} {mf : List D → Option RV} (g : SF) (T : Dn K x st dvs f fd) (S : FnScope N ps (defScope st)) (hn : n = ps.length) (hn2 : n ≤ N.length)
    (law : ∀ ds r, ds.length = n → mf ds = some r → Leaves g (st0 N.length ds) r fun _ => True)
    (body : ∀ (C : Ct) (cdv : Value) (A : Around) (outer : List Env) (s : Shared) (H : Hp) (E : XK), C.W = (fun cls d _ H => E cls d H) → Room k (A.deeper (envOfC x (defScope st) s.heap.objs.size f cdv)) → (A.deeper (envOfC x (defScope st) s.heap.objs.size f cdv)).guards = some [] →
      PSs (cxOf CX P w K mg base N x (defScope st) f cdv A outer s H E) (defBody st) (sOf ⟨K, P, w, mg⟩ C g)) : FnG P w K mg base CX (k + 1) f fd ps (spP ⟨K, P, w, mg⟩ n mf) := by
  refine fnG_ofD T S (fun vs H Q E h => h.1.trans hn) fun cdv A outer s H vs Q E room guards want => ?_
  obtain ⟨hl, F, ds, r, fh, hd, hm, q, qx⟩ := want
  refine ⟨_, body ⟨H, F, none, fun cls d _ H => E cls d H, none⟩ cdv A outer s H E rfl room guards, ?_⟩
  obtain ⟨st', hg, _⟩ := law ds r ((DpAll_len hd).symm.trans hl) hm
  have R0 : Rel ⟨K, P, w, mg⟩ ⟨H, F, none, fun cls d _ H => E cls d H, none⟩ F (st0 N.length ds) (L2.start N vs) H := rel0 fh hd (by omega)
  rcases hg with hg | ⟨hg, rfl⟩
  · refine ⟨F, _, _, R0, hg, ?_⟩
    cases r with
    | val d => exact fun v σ' H' F' s1 R1 ok => q v F' H' R1.gr ok
    | new xs => exact fun v σ' H' F' s1 R1 ok => q v F' H' R1.gr ok
    | dct xs => exact fun v σ' H' F' s1 R1 ok => q v F' H' R1.gr ok
    | exc x => exact fun cls d σ' H' F' s1 R1 ok => qx x rfl cls d F' H' R1.gr ok
  · exact ⟨F, _, _, R0, hg, fun σ' H' F' s1 R1 => q .non F' H' R1.gr .non⟩
theorem defP {x : Str} {st : Stmt} {n : Nat} {mf : List D → Option RV} (g : SF) (T : Dn K x st dvs f fd) (S : FnScope N ps (defScope st)) (hn : n = ps.length) (hn2 : n ≤ N.length)
    (law : ∀ ds r, ds.length = n → mf ds = some r → Leaves g (st0 N.length ds) r fun _ => True)
    (body : ∀ (C : Ct) (cdv : Value) (A : Around) (outer : List Env) (s : Shared) (H : Hp) (E : XK), Room k (A.deeper (envOfC x (defScope st) s.heap.objs.size f cdv)) → (A.deeper (envOfC x (defScope st) s.heap.objs.size f cdv)).guards = some [] →
      PSs (cxOf CX P w K mg base N x (defScope st) f cdv A outer s H E).nox (defBody st) (sOf ⟨K, P, w, mg⟩ C g)) : FnG P w K mg base CX (k + 1) f fd ps (spP ⟨K, P, w, mg⟩ n mf) :=
  defX g T S hn hn2 law fun C cdv A outer s H E _ room guards => (body C cdv A outer s H E room guards).nox
theorem defQ {x : Str} {st : Stmt} {n : Nat} {mf : List D → List D → Option (RV × List D)} (g : SF) (T : Dn K x st dvs f fd) (S : FnScope N ps (defScope st)) (hn : n = ps.length) (hn2 : n ≤ N.length)
    (law : ∀ xs ds r, ds.length + 1 = n → mf xs ds = some r → Leaves g (st1 N.length xs ds) r.1 fun st' => st'[0]? = some (.pen r.2))
    (body : ∀ (C : Ct) (cdv : Value) (A : Around) (outer : List Env) (s : Shared) (H : Hp) (E : XK), Room k (A.deeper (envOfC x (defScope st) s.heap.objs.size f cdv)) → (A.deeper (envOfC x (defScope st) s.heap.objs.size f cdv)).guards = some [] →
      PSs (cxOf CX P w K mg base N x (defScope st) f cdv A outer s H E).nox (defBody st) (sOf ⟨K, P, w, mg⟩ C g)) : FnG P w K mg base CX (k + 1) f fd ps (spQ ⟨K, P, w, mg⟩ n mf) := by
  refine fnG_ofD T S (fun vs H Q E h => h.1.trans hn) fun cdv A outer s H vs Q E room guards want => ?_
  obtain ⟨hl, F, p, vs', us, xs, ds, r, rfl, fh, hp, hH, hu, hd, hm, nx, q⟩ := want
  refine ⟨_, (body ⟨H, F, some p, fun cls d _ H => E cls d H, none⟩ cdv A outer s H E room guards).nox, ?_⟩
  have hl' : vs'.length + 1 = n := by simpa using hl
  obtain ⟨st', hg, hlast⟩ := law xs ds r (by rw [← DpAll_len hd]; exact hl') hm
  have R0 : Rel ⟨K, P, w, mg⟩ ⟨H, F, some p, fun cls d _ H => E cls d H, none⟩ F (st1 N.length xs ds) (L2.start N (.ref p :: vs')) H := rel1 fh hp hH hu hd (by omega)
  rcases hg with hg | ⟨hg, hr⟩
  · refine ⟨F, _, _, R0, hg, ?_⟩
    have fin : ∀ v (σ' : L2.St) (H' F' : Hp), Same F F' → Rel ⟨K, P, w, mg⟩ ⟨H, F, some p, fun cls d _ H => E cls d H, none⟩ F' st' σ' H' → RvOk ⟨K, P, w, mg⟩ H F' H' v r.1 → Q v H' := fun v σ' H' F' s1 R1 ok => by
      obtain ⟨a, h1, h2, h3, us', h4, h5⟩ := R1.slot 0 _ hlast
      cases h2
      exact q v F' H' us' R1.grP h3 h4 h5 ok
    cases hr : r.1 with
    | val d => exact fun v σ' H' F' s1 R1 ok => fin v σ' H' F' s1 R1 (by rw [hr]; exact ok)
    | new xs => exact fun v σ' H' F' s1 R1 ok => fin v σ' H' F' s1 R1 (by rw [hr]; exact ok)
    | dct xs => exact fun v σ' H' F' s1 R1 ok => fin v σ' H' F' s1 R1 (by rw [hr]; exact ok)
    | exc x => exact absurd hr (nx x)
  · refine ⟨F, _, _, R0, hg, fun σ' H' F' s1 R1 => ?_⟩
    obtain ⟨a, h1, h2, h3, us', h4, h5⟩ := R1.slot 0 _ hlast
    cases h2
    refine q .non F' H' us' R1.grP h3 h4 h5 ?_
    rw [hr]
    exact .non
end
section
variable {K : PySem.W.Frag} {x : Str} {st : Stmt} {f : Addr} {oc kV doc pm cdv ct : Value} {od an : Option Addr} {osl : Array (Option Value)}
theorem dn_mk (l : K.lookup f = some ⟨oc, od, .func (PySem.W.fnOf x x (defArgs st) (defBody st) (defScope st) .none kV doc pm an cdv ct), osl⟩) (c : PySem.W.codeIn K cdv x = true) (k : PySem.W.keepIn K (.ref f) = true) :
    Dn K x st [] f (PySem.W.fnOf x x (defArgs st) (defBody st) (defScope st) .none kV doc pm an cdv ct) := ⟨⟨oc, od, .none, kV, doc, pm, an, cdv, ct, osl, rfl, l, c, .inl ⟨rfl, rfl⟩, .inl rfl⟩, k⟩
theorem dn_mk1 {T : Addr} {oT : Value} {dT : Option Addr} {sT : Array (Option Value)} {i : Int} {t : Tok} {n : Nat} (l : K.lookup f = some ⟨oc, od, .func (PySem.W.fnOf x x (defArgs st) (defBody st) (defScope st) (.ref T) kV doc pm an cdv ct), osl⟩) (c : PySem.W.codeIn K cdv x = true) (k : PySem.W.keepIn K (.ref f) = true)
    (lT : K.lookup T = some ⟨oT, dT, .seq #[.int i t] n, sT⟩) : Dn K x st [.int i] f (PySem.W.fnOf x x (defArgs st) (defBody st) (defScope st) (.ref T) kV doc pm an cdv ct) :=
  ⟨⟨oc, od, .ref T, kV, doc, pm, an, cdv, ct, osl, rfl, l, c, .inr ⟨by simp, T, _, [.int i t], n, rfl, lT, rfl, .cons ⟨t, rfl⟩ .nil⟩, .inl rfl⟩, k⟩
theorem glob2 {mg : Str → Option Value} {a : Addr} {sT : Array (Option Value)} {i j : Int} {t u : Tok} {n : Nat} (m : mg x = some (.ref a)) (l : K.lookup a = some ⟨.type "tuple", none, .seq #[.int i t, .int j u] n, sT⟩) : GlobD K mg x (.tuple [.int i, .int j]) :=
  ⟨.ref a, .ref a, m, rfl, fun _ _ F => .tup (xs := [.int i, .int j]) (.inr ⟨_, #[.int i t, .int j u], n, l, rfl, rfl, rfl, (by show 2 ≤ sizeLine; decide), .cons ⟨t, rfl⟩ (.cons ⟨u, rfl⟩ .nil)⟩) (.cons (.int i) (.cons (.int j) .nil))⟩
end
end Xm
set_option Elab.async false
set_option linter.all false
set_option maxRecDepth 100000
namespace Xm
open PySem PySem.Spec PyProof.Rows L2
def npB : Slot → Bool
  | .pen _ => false
  | _ => true
def npO : Option Slot → Bool
  | some s => npB s
  | none => false
section
variable {f g : EF} {u v c : BF} {a b : LF} {s t : SF} {st : AS} {i j l : Nat} {k : D → D → Option D} {h : D → Option D} {d : D}
@[simp] theorem e_cst : cst d st = some (d, st) := rfl
@[simp] theorem e_rd : rd i st = (match st[i]? with
  | some (.dat d) => some (d, st)
  | some (.own xs) => some (.list xs, st.set i (.dat (.list xs)))
  | _ => none) := rfl
@[simp] theorem e_bin2 : bin2 k f g st = (f st).bind fun a => (g a.2).bind fun b => (k a.1 b.1).map fun z => (z, b.2) := rfl
@[simp] theorem e_un1 : un1 h f st = (f st).bind fun a => (h a.1).map fun z => (z, a.2) := rfl
@[simp] theorem e_nilA : nilA st = some ([], st) := rfl
@[simp] theorem e_consA : consA f a st = (f st).bind fun x => (a x.2).map fun y => (x.1 :: y.1, y.2) := rfl
@[simp] theorem e_tupF : tupF a st = (a st).bind fun b => if b.1.length ≤ sizeLine then some (.tuple b.1, b.2) else none := rfl
@[simp] theorem e_lstF : lstF a st = (a st).bind fun b => if b.1.length ≤ sizeLine then some (.list b.1, b.2) else none := rfl
@[simp] theorem e_newF : newF a st = (a st).bind fun b => if b.1.length ≤ sizeLine then some b else none := rfl
@[simp] theorem e_muC : muC st i = (match st[i]? with
  | some (.own xs) => some xs
  | some (.pen xs) => some xs
  | _ => none) := rfl
@[simp] theorem e_putM {xs : List D} : putM st i xs = (match st[i]? with
  | some (.own _) => st.set i (.own xs)
  | some (.pen _) => st.set i (.pen xs)
  | _ => st) := rfl
@[simp] theorem e_ixM : ixM i g st = (muC st i).bind fun _ => (g st).bind fun b => (muC b.2 i).bind fun xs => (kIx (.list xs) b.1).map fun z => (z, b.2) := rfl
@[simp] theorem e_lenM : lenM i st = (muC st i).map fun xs => (.int xs.length, st) := rfl
@[simp] theorem e_valB : valB f st = (f st).bind fun a => (match a.1 with
  | .bool b => some (b, a.2)
  | _ => none) := rfl
@[simp] theorem e_andB : andB u v st = (u st).bind fun a => if a.1 = true then v a.2 else some (false, a.2) := rfl
@[simp] theorem e_orB : orB u v st = (u st).bind fun a => if a.1 = true then some (true, a.2) else v a.2 := rfl
@[simp] theorem e_notB : notB u st = (u st).map fun a => (!a.1, a.2) := rfl
@[simp] theorem e_boolE : boolE u st = (u st).map fun a => (.bool a.1, a.2) := rfl
@[simp] theorem e_ifE : ifE c f g st = (c st).bind fun a => if a.1 = true then f a.2 else g a.2 := rfl
@[simp] theorem e_seqS : seqS s t st = (s st).bind fun w => (match w.1 with
  | .nx => t w.2
  | _ => some w) := rfl
@[simp] theorem e_skipS : skipS st = some (.nx, st) := rfl
@[simp] theorem e_retS : retS f st = (f st).map fun a => (.ret (.val a.1), a.2) := rfl
@[simp] theorem e_retN : retN a st = (a st).map fun a => (.ret (.new a.1), a.2) := rfl
@[simp] theorem e_dropS : dropS f st = (f st).map fun a => (.nx, a.2) := rfl
@[simp] theorem e_ifS : ifS c s t st = (c st).bind fun a => if a.1 = true then s a.2 else t a.2 := rfl
@[simp] theorem npO_some {s : Slot} : npO (some s) = npB s := rfl
@[simp] theorem npB_no : npB .no = true := rfl
@[simp] theorem npB_dat : npB (.dat d) = true := rfl
@[simp] theorem npB_own {xs : List D} : npB (.own xs) = true := rfl
@[simp] theorem e_setD : setD i d st = if npO st[i]? = true then some (st.set i (.dat d)) else none := by
  unfold setD
  cases h : st[i]? with
  | none => rfl
  | some s => cases s <;> rfl
@[simp] theorem e_setO {xs : List D} : setO i xs st = if npO st[i]? = true then some (st.set i (.own xs)) else none := by
  unfold setO
  cases h : st[i]? with
  | none => rfl
  | some s => cases s <;> rfl
@[simp] theorem e_asgS : asgS i f st = (f st).bind fun a => (setD i a.1 a.2).map fun st' => (.nx, st') := rfl
@[simp] theorem e_asgN : asgN i a st = (a st).bind fun b => (setO i b.1 b.2).map fun st' => (.nx, st') := rfl
@[simp] theorem e_setM : setM i f g st = (muC st i).bind fun _ => (f st).bind fun a => (muC a.2 i).bind fun _ => (g a.2).bind fun b => (muC b.2 i).bind fun xs => (match b.1 with
  | .int k => (ixN xs.length k).map fun j => (.nx, putM b.2 i (xs.set j a.1))
  | _ => none) := rfl
@[simp] theorem e_par2 : par2 i j a st = (a st).bind fun a => (match a.1 with
  | [x, y] => (setD i x a.2).bind fun s1 => (setD j y s1).map fun s2 => (.nx, s2)
  | _ => none) := rfl
@[simp] theorem e_par3 : par3 i j l a st = (a st).bind fun a => (match a.1 with
  | [x, y, z] => (setD i x a.2).bind fun s1 => (setD j y s1).bind fun s2 => (setD l z s2).map fun s3 => (.nx, s3)
  | _ => none) := rfl
@[simp] theorem e_callP {mf : List D → Option RV} {dvs : List D} : callP mf dvs a st = (a st).bind fun a => (mf (a.1 ++ dvs)).map fun r => (r, a.2) := rfl
@[simp] theorem e_callQ {mf : List D → List D → Option (RV × List D)} : callQ mf i a st = (muC st i).bind fun _ => (a st).bind fun a => (muC a.2 i).bind fun xs => (mf xs a.1).map fun r => (r.1, putM a.2 i r.2) := rfl
@[simp] theorem e_rvD {c : AS → Option (RV × AS)} : rvD c st = (c st).bind fun r => (match r.1 with
  | .val d => some (d, r.2)
  | .new xs => some (.list xs, r.2)
  | .dct _ => none
  | .exc _ => none) := rfl
@[simp] theorem e_rvN {c : AS → Option (RV × AS)} : rvN c st = (c st).bind fun r => (match r.1 with
  | .new xs => some (xs, r.2)
  | _ => none) := rfl
@[simp] theorem e_yesB : yesB st = some (true, st) := rfl
@[simp] theorem e_listE : listE a st = (a st).map fun a => (.list a.1, a.2) := rfl
@[simp] theorem e_st0 {n : Nat} {ds : List D} : st0 n ds = ds.map Slot.dat ++ List.replicate (n - ds.length) Slot.no := rfl
@[simp] theorem e_st1 {n : Nat} {xs ds : List D} : st1 n xs ds = Slot.pen xs :: (ds.map Slot.dat ++ List.replicate (n - ds.length - 1) Slot.no) := rfl
@[simp] theorem e_itD : itD f st = (f st).bind fun a => (match a.1 with
  | .list xs => some (xs, a.2)
  | .tuple xs => some (xs, a.2)
  | _ => none) := rfl
@[simp] theorem e_noO : noO st = some (none, st) := rfl
@[simp] theorem e_someO : someO f st = (f st).bind fun a => (match a.1 with
  | .int i => some (some i, a.2)
  | _ => none) := rfl
@[simp] theorem e_cutF {x y : OF} : cutF f x y st = (f st).bind fun a => (x a.2).bind fun l => (y l.2).bind fun h => (match a.1 with
  | .list xs => some (.list (cutX xs l.1 h.1), h.2)
  | .tuple xs => some (.tuple (cutX xs l.1 h.1), h.2)
  | _ => none) := rfl
@[simp] theorem e_itR1 : itR1 f st = (f st).bind fun a => (match a.1 with
  | .int j => if -(2 ^ 62) ≤ j ∧ j < 2 ^ 62 then some (rngD 0 j, a.2) else none
  | _ => none) := rfl
@[simp] theorem e_revF : revF f st = (f st).bind fun a => (match a.1 with
  | .list xs => some (.list xs.reverse, a.2)
  | _ => none) := rfl
end
section
variable {i j : Int} {a b : D} {xs ys : List D}
@[simp] theorem k_add : kAdd (.int i) (.int j) = some (.int (i + j)) := rfl
@[simp] theorem k_cat : kCat (.int i) (.int j) = some (.int (i + j)) := rfl
@[simp] theorem k_sub : kSub (.int i) (.int j) = some (.int (i - j)) := rfl
@[simp] theorem k_lt : kLt (.int i) (.int j) = some (.bool (decide (i < j))) := rfl
@[simp] theorem k_le : kLe (.int i) (.int j) = some (.bool (decide (i ≤ j))) := rfl
@[simp] theorem k_gt : kGt (.int i) (.int j) = some (.bool (decide (j < i))) := rfl
@[simp] theorem k_ge : kGe (.int i) (.int j) = some (.bool (decide (j ≤ i))) := rfl
@[simp] theorem k_neg : kNeg (.int i) = some (.int (-i)) := rfl
@[simp] theorem k_abs : kAbs (.int i) = some (.int (i.natAbs : Int)) := by
  show some (PyData.int (if i < 0 then -i else i)) = _
  congr 2
  split <;> omega
@[simp] theorem k_lenL : kLen (.list xs) = some (.int xs.length) := rfl
@[simp] theorem k_lenT : kLen (.tuple xs) = some (.int xs.length) := rfl
@[simp] theorem k_list : kList (.list xs) = some (.list xs) := rfl
@[simp] theorem k_listT : kList (.tuple xs) = some (.list xs) := rfl
@[simp] theorem k_tupL : kTuple (.list xs) = some (.tuple xs) := rfl
@[simp] theorem k_tupT : kTuple (.tuple xs) = some (.tuple xs) := rfl
@[simp] theorem k_intB {x : Bool} : kInt (.bool x) = some (.int (if x then 1 else 0)) := rfl
@[simp] theorem k_eqStr {x y : Str} : kEq (.str x) (.str y) = some (.bool (decide (x = y))) := rfl
@[simp] theorem k_neStr {x y : Str} : kNe (.str x) (.str y) = some (.bool (!decide (x = y))) := rfl
@[simp] theorem k_eqI : kEq (.int i) (.int j) = some (.bool (i == j)) := by
  show kEqD _ _ = _
  unfold kEqD
  rw [if_pos ⟨rfl, rfl⟩]
  simp only [PyData.eqv]
@[simp] theorem k_neI : kNe (.int i) (.int j) = some (.bool (!(i == j))) := by
  show kNeD _ _ = _
  unfold kNeD
  rw [if_pos ⟨rfl, rfl⟩]
  simp only [PyData.eqv]
theorem k_mod (h : j ≠ 0) : kMod (.int i) (.int j) = some (.int (i.fmod j)) := if_pos h
@[simp] theorem ix_L : kIx (.list xs) (.int i) = atI xs i := rfl
@[simp] theorem ix_T : kIx (.tuple xs) (.int i) = atI xs i := rfl
end
section
variable {α : Type} {x y z : α} {l : List α}
@[simp] theorem at_0 : atI (x :: l) 0 = some x := atI_nat (j := 0) rfl
@[simp] theorem at_1 : atI (x :: y :: l) 1 = some y := atI_nat (j := 1) rfl
@[simp] theorem at_2 : atI (x :: y :: z :: l) 2 = some z := atI_nat (j := 2) rfl
theorem at_n {n : Nat} {xs : List α} (h : xs[n]? = some x) : atI xs (n : Int) = some x := atI_nat h
@[simp] theorem ixN_0 {n : Nat} : ixN (n + 1) 0 = some 0 := by unfold ixN; rw [if_pos (by omega), if_pos (by omega)]; rfl
@[simp] theorem ixN_1 {n : Nat} : ixN (n + 1 + 1) 1 = some 1 := by unfold ixN; rw [if_pos (by omega), if_pos (by omega)]; rfl
@[simp] theorem ixN_2 {n : Nat} : ixN (n + 1 + 1 + 1) 2 = some 2 := by unfold ixN; rw [if_pos (by omega), if_pos (by omega)]; rfl
end
theorem sl_le {n : Nat} (h : n ≤ 1000000) : n ≤ sizeLine := by rw [sizeLine_eq]; omega
@[simp] theorem sl_iff : sizeLine = 16777216 := sizeLine_eq
def Sm (i : Int) : Prop := i.natAbs < 2 ^ 4000
instance (i : Int) : Decidable (Sm i) := by unfold Sm; infer_instance
theorem log2_sm {i : Int} (h : Sm i) : i.natAbs.log2 < 4000 := PySem.Flt.log2_lt_of (by omega) h
theorem k_mul {i j : Int} (hi : Sm i) (hj : Sm j) : kMul (.int i) (.int j) = some (.int (i * j)) := by
  have h1 := log2_sm hi
  have h2 := log2_sm hj
  exact if_pos (show i.natAbs.log2 + j.natAbs.log2 < 1000000 by omega)
def Sd (j : Int) : Prop := j.natAbs.log2 < 9000
instance (i : Int) : Decidable (Sd i) := by unfold Sd; infer_instance
theorem k_div {i j : Int} (h0 : j ≠ 0) (hj : Sd j) : kDiv (.int i) (.int j) = some (.int (i.fdiv j)) := if_pos ⟨h0, hj⟩
theorem sd_le {i j : Int} (h : i.natAbs ≤ j.natAbs) (hj : Sd j) : Sd i := by
  unfold Sd at *
  by_cases h0 : i.natAbs = 0
  · rw [h0]; decide
  · have h1 : 2 ^ i.natAbs.log2 ≤ j.natAbs := Nat.le_trans (Nat.log2_self_le h0) h
    have h2 := (Nat.le_log2 (n := j.natAbs) (by omega)).mpr h1
    omega
theorem sm_of {i : Int} {k : Nat} (h : i.natAbs < 2 ^ k) (hk : k ≤ 4000) : Sm i := Nat.lt_of_lt_of_le h (Nat.pow_le_pow_right (by omega) hk)
theorem sd_of {i : Int} (h : Sm i) : Sd i := by
  have := log2_sm h
  unfold Sd
  omega
theorem sd_neg {i : Int} (h : Sd i) : Sd (-i) := by
  unfold Sd at *
  rw [Int.natAbs_neg]
  exact h
def sh (q : Rat) : D := .tuple [.int q.num, .int q.den]
def toQ : D → Option Rat
  | .tuple [.int a, .int b] => if 0 < b ∧ Int.gcd a b = 1 then some (Rat.divInt a b) else none
  | _ => none
theorem q_num_den (q : Rat) : Rat.divInt q.num q.den = q := by
  exact Rat.num_divInt_den q
@[simp] theorem toQ_sh (q : Rat) : toQ (sh q) = some q := by
  unfold toQ sh
  have h1 : (0 : Int) < q.den := by have := q.den_pos; omega
  have h2 : Int.gcd q.num q.den = 1 := q.reduced
  simp only
  rw [if_pos ⟨h1, h2⟩, q_num_den]
theorem cut_take {α : Type} (l : List α) (k : Nat) : cutX l none (some (k : Int)) = l.take k := by
  unfold cutX
  rw [HT.sIx_none, HT.sIx_nat, List.drop_zero, Nat.sub_zero]
  by_cases h : k ≤ l.length
  · rw [Nat.min_eq_left h]
  · rw [Nat.min_eq_right (by omega), List.take_of_length_le (Nat.le_refl _), List.take_of_length_le (by omega)]
end Xm
set_option Elab.async false
set_option linter.all false
set_option maxRecDepth 100000
namespace Xm
open PySem PySem.Spec PyProof.Rows L2
theorem leave {g : SF} {st : AS} {r : RV} (h : (g st).map (·.1) = some (Fl.ret r)) : Leaves g st r fun _ => True := by
  obtain ⟨w, hw, e⟩ := Option.map_eq_some_iff.mp h
  obtain ⟨fl, st'⟩ := w
  cases e
  exact ⟨st', .inl hw, trivial⟩
def SmQ (q : Rat) : Prop := Sm q.num ∧ Sm q.den
instance (q : Rat) : Decidable (SmQ q) := by unfold SmQ; infer_instance
def mf_common : List D → Option RV
  | [.int a, .int b] => some (.val (.int (Int.gcd a b)))
  | _ => none
def mf_share_of : List D → Option RV
  | [.int t, .int b] => if b ≠ 0 ∧ Sd b then some (.val (sh (Rat.divInt t b))) else none
  | _ => none
def two (k : Rat → Rat → Option D) : List D → Option RV
  | [x, y] => (toQ x).bind fun p => (toQ y).bind fun q => if SmQ p ∧ SmQ q then (k p q).map RV.val else none
  | _ => none
def mf_plus := two fun p q => some (sh (p + q))
def mf_is_less := two fun p q => some (.bool (decide (p < q)))
theorem m_share_of {t b : Int} (h0 : b ≠ 0) (hb : Sd b) : mf_share_of [.int t, .int b] = some (.val (sh (Rat.divInt t b))) := if_pos ⟨h0, hb⟩
def ms_common : AS → Nat := fun st => match st[1]? with
  | some (Slot.dat (.int b)) => b.natAbs + 1
  | _ => 0
def g_common : SF := (seqS (par2 0 1 (consA (un1 kAbs (rd 0)) (consA (un1 kAbs (rd 1)) nilA))) (seqS (whileS (valB (bin2 kNe (rd 1) (cst (.int 0)))) (par2 0 1 (consA (rd 1) (consA (bin2 kMod (rd 0) (rd 1)) nilA))) ms_common) (retS (rd 0))))
def g_share_of : SF := (seqS (ifS (valB (bin2 kEq (rd 1) (cst (.int 0)))) neverS skipS) (seqS (asgS 2 (rvD (callP mf_common [] (consA (rd 0) (consA (rd 1) nilA))))) (seqS (ifS (valB (bin2 kLt (rd 1) (cst (.int 0)))) (asgS 2 (un1 kNeg (rd 2))) skipS) (retS (tupF (consA (bin2 kDiv (rd 0) (rd 2)) (consA (bin2 kDiv (rd 1) (rd 2)) nilA)))))))
theorem fmod_nat (a b : Nat) : Int.fmod (a : Int) (b : Int) = ((a % b : Nat) : Int) := by
  rw [Int.fmod_eq_emod_of_nonneg _ (by omega)]
  rfl
theorem common_loop : ∀ (n a b : Nat), b < n → ∃ c : Nat, whileN (valB (bin2 kNe (rd 1) (cst (.int 0)))) (par2 0 1 (consA (rd 1) (consA (bin2 kMod (rd 0) (rd 1)) nilA))) n [Slot.dat (.int a), Slot.dat (.int b)] = some (.nx, [Slot.dat (.int (Nat.gcd a b)), Slot.dat (.int c)])
  | 0, a, b, h => by omega
  | n + 1, a, b, h => by
    by_cases hb : b = 0
    · subst hb
      exact ⟨0, by simp [whileN]⟩
    · obtain ⟨c, hc⟩ := common_loop n b (a % b) (by have := Nat.mod_lt a (by omega : b > 0); omega)
      refine ⟨c, ?_⟩
      have hb' : ((b : Int) = 0) = False := by simp; omega
      have hm : kMod (.int (a : Int)) (.int (b : Int)) = some (.int ((a % b : Nat) : Int)) := by rw [k_mod (by omega), fmod_nat]
      have hg : Nat.gcd a b = Nat.gcd b (a % b) := by rw [Nat.gcd_comm a b, Nat.gcd_rec b a, Nat.gcd_comm]
      rw [hg, ← hc]
      simp [whileN, hb', hm, hb]
theorem e_common : ∀ ds r, ds.length = 2 → mf_common ds = some r → Leaves g_common (st0 2 ds) r fun _ => True := by
  intro ds r hlen h
  clear hlen
  unfold mf_common at h
  split at h <;> cases h
  rename_i a b
  obtain ⟨c, hc⟩ := common_loop (b.natAbs + 1) a.natAbs b.natAbs (by omega)
  refine ⟨[Slot.dat (.int (Int.gcd a b)), Slot.dat (.int c)], .inl ?_, trivial⟩
  simp [g_common, whileS, ms_common, hc, Int.gcd]
theorem fdiv_neg' (a b : Int) : a.fdiv (-b) = (-a).fdiv b := by
  rw [show a.fdiv (-b) = (-(-a)).fdiv (-b) by rw [Int.neg_neg], Int.neg_fdiv_neg]
theorem sh_divInt {t b : Int} (hb : b ≠ 0) : sh (Rat.divInt t b) = .tuple [.int (t.fdiv (if b < 0 then -(Int.gcd t b : Int) else Int.gcd t b)), .int (b.fdiv (if b < 0 then -(Int.gcd t b : Int) else Int.gcd t b))] := by
  have hg : (0 : Int) < Int.gcd t b := by
    have := Int.gcd_pos_of_ne_zero_right t hb
    omega
  have d1 : (Int.gcd t b : Int) ∣ t := Int.gcd_dvd_left ..
  have d2 : (Int.gcd t b : Int) ∣ b := Int.gcd_dvd_right ..
  unfold sh
  rw [Rat.num_divInt, Rat.den_divInt, if_neg hb, Int.gcd_comm b t]
  have e2 : ((b.natAbs / Int.gcd t b : Nat) : Int) = (b.natAbs : Int) / (Int.gcd t b : Int) := rfl
  rw [e2]
  split
  · rename_i hneg
    rw [fdiv_neg', fdiv_neg', Int.fdiv_eq_ediv_of_nonneg _ (by omega), Int.fdiv_eq_ediv_of_nonneg _ (by omega), Int.sign_eq_neg_one_of_neg hneg]
    have : (b.natAbs : Int) = -b := by omega
    rw [this]
    simp
  · rename_i hpos
    rw [Int.fdiv_eq_ediv_of_nonneg _ (by omega), Int.fdiv_eq_ediv_of_nonneg _ (by omega), Int.sign_eq_one_of_pos (by omega)]
    have : (b.natAbs : Int) = b := by omega
    rw [this]
    simp
theorem sd_gcd {t b : Int} (hb : b ≠ 0) (h : Sd b) : Sd (Int.gcd t b : Int) := by
  refine sd_le ?_ h
  have : Int.gcd t b ∣ b.natAbs := Int.natAbs_dvd_natAbs.mpr (Int.gcd_dvd_right ..) |> fun z => by simpa using z
  have := Nat.le_of_dvd (by omega) this
  simpa using this
theorem e_share_of : ∀ ds r, ds.length = 2 → mf_share_of ds = some r → Leaves g_share_of (st0 3 ds) r fun _ => True := by
  intro ds r hlen h
  clear hlen
  unfold mf_share_of at h
  split at h
  · rename_i t b
    split at h <;> cases h
    rename_i hb
    obtain ⟨h0, hs⟩ := hb
    have hg : (0 : Int) < Int.gcd t b := by
      have := Int.gcd_pos_of_ne_zero_right t h0
      omega
    have sg := sd_gcd (t := t) h0 hs
    have d1 : ∀ i : Int, kDiv (.int i) (.int (Int.gcd t b : Int)) = some (.int (i.fdiv (Int.gcd t b : Int))) := fun i => k_div (by omega) sg
    have d2 : ∀ i : Int, kDiv (.int i) (.int (-(Int.gcd t b : Int))) = some (.int (i.fdiv (-(Int.gcd t b : Int)))) := fun i => k_div (by omega) (sd_neg sg)
    rw [sh_divInt h0]
    by_cases hn : b < 0
    · exact leave (by simp [g_share_of, h0, mf_common, hn, d2])
    · exact leave (by simp [g_share_of, h0, mf_common, hn, d1])
  · cases h
theorem den_ne (q : Rat) : (q.den : Int) ≠ 0 := by have := q.den_pos; omega
theorem den2_ne (p q : Rat) : (p.den : Int) * q.den ≠ 0 := Int.mul_ne_zero (den_ne p) (den_ne q)
theorem sub_divInt (p q : Rat) : Rat.divInt (p.num * q.den - q.num * p.den) (p.den * q.den) = p - q := by
  rw [Rat.sub_def', ← Rat.divInt_ofNat]
  rfl
end Xm
set_option Elab.async false
set_option linter.all false
set_option maxRecDepth 100000
namespace Xm
open PySem PySem.Spec PyProof.Rows L2
def Bq (k : Nat) (q : Rat) : Prop := q.num.natAbs < 2 ^ k ∧ q.den < 2 ^ k
theorem Bq.mono {j k : Nat} {q : Rat} (h : Bq j q) (l : j ≤ k) : Bq k q :=
  ⟨Nat.lt_of_lt_of_le h.1 (Nat.pow_le_pow_right (by omega) l), Nat.lt_of_lt_of_le h.2 (Nat.pow_le_pow_right (by omega) l)⟩
theorem Bq.sm {k : Nat} {q : Rat} (h : Bq k q) (l : k ≤ 4000) : SmQ q := ⟨sm_of h.1 l, sm_of (k := k) (by have := h.2; omega) l⟩
theorem num_le (a b : Int) : (Rat.divInt a b).num.natAbs ≤ a.natAbs := by
  rw [Rat.num_divInt]
  rw [Int.natAbs_ediv_of_dvd (by
    rw [Int.gcd_comm]
    exact Int.dvd_trans (Int.gcd_dvd_left ..) (Int.dvd_mul_left ..)), Int.natAbs_mul]
  have : b.sign.natAbs ≤ 1 := by
    rcases Int.lt_trichotomy b 0 with h | h | h
    · rw [Int.sign_eq_neg_one_of_neg h]; decide
    · subst h; decide
    · rw [Int.sign_eq_one_of_pos h]; decide
  calc b.sign.natAbs * a.natAbs / (b.gcd a : Int).natAbs ≤ b.sign.natAbs * a.natAbs := Nat.div_le_self ..
    _ ≤ 1 * a.natAbs := Nat.mul_le_mul_right _ this
    _ = a.natAbs := Nat.one_mul _
theorem den_le (a : Int) {b : Int} (hb : b ≠ 0) : (Rat.divInt a b).den ≤ b.natAbs := by
  rw [Rat.den_divInt, if_neg hb]
  exact Nat.div_le_self ..
theorem bq_divInt {k : Nat} {a b : Int} (hb : b ≠ 0) (h1 : a.natAbs < 2 ^ k) (h2 : b.natAbs < 2 ^ k) : Bq k (Rat.divInt a b) := ⟨Nat.lt_of_le_of_lt (num_le a b) h1, Nat.lt_of_le_of_lt (den_le a hb) h2⟩
theorem mul_lt {a b : Int} {j k : Nat} (h1 : a.natAbs < 2 ^ j) (h2 : b.natAbs < 2 ^ k) : (a * b).natAbs < 2 ^ (j + k) := wide_lt h1 h2
theorem den_lt {k : Nat} {q : Rat} (h : Bq k q) : (q.den : Int).natAbs < 2 ^ k := by simpa using h.2
theorem Bq.sub {j k : Nat} {p q : Rat} (hp : Bq j p) (hq : Bq k q) : Bq (j + k + 1) (p - q) := by
  rw [← sub_divInt]
  have h1 := mul_lt hp.1 (den_lt hq)
  have h2 := mul_lt hq.1 (den_lt hp)
  have h3 := mul_lt (den_lt hp) (den_lt hq)
  rw [Nat.add_comm k j] at h2
  refine bq_divInt (den2_ne p q) ?_ ?_ <;> rw [Nat.pow_succ] <;> omega
def GQ (k : Nat) (q : Rat) : Prop := 0 ≤ q ∧ q ≤ 1 / 2 ∧ q.den < 2 ^ k
instance (k : Nat) (q : Rat) : Decidable (GQ k q) := by unfold GQ; infer_instance
def farQ (p q : Rat) : Rat := p + q - 2 * (p * q)
theorem GQ.mono {j k : Nat} {q : Rat} (h : GQ j q) (l : j ≤ k) : GQ k q := ⟨h.1, h.2.1, Nat.lt_of_lt_of_le h.2.2 (Nat.pow_le_pow_right (by omega) l)⟩
theorem GQ.bq {k : Nat} {q : Rat} (h : GQ k q) : Bq k q := by
  refine ⟨?_, h.2.2⟩
  have h1 : 0 ≤ q.num := Rat.num_nonneg.mpr h.1
  have h2 := (Rat.le_iff _ _).mp h.2.1
  rw [show (1 / 2 : Rat).num = 1 by decide +kernel, show (1 / 2 : Rat).den = 2 by decide +kernel] at h2
  have := h.2.2
  omega
theorem far_divInt (p q : Rat) : farQ p q = Rat.divInt (p.num * q.den + q.num * p.den - 2 * (p.num * q.num)) (p.den * q.den) := by
  have hp : ((p.den : Int) : Rat) ≠ 0 := by
    have := p.den_pos
    intro z
    have : (p.den : Int) = 0 := by exact_mod_cast z
    omega
  have hq : ((q.den : Int) : Rat) ≠ 0 := by
    have := q.den_pos
    intro z
    have : (q.den : Int) = 0 := by exact_mod_cast z
    omega
  have e1 : p = (p.num : Rat) / ((p.den : Int) : Rat) := by rw [← Rat.divInt_eq_div, Rat.num_divInt_den]
  have e2 : q = (q.num : Rat) / ((q.den : Int) : Rat) := by rw [← Rat.divInt_eq_div, Rat.num_divInt_den]
  unfold farQ
  rw [Rat.divInt_eq_div, Rat.intCast_sub, Rat.intCast_add, Rat.intCast_mul, Rat.intCast_mul, Rat.intCast_mul, Rat.intCast_mul, Rat.intCast_mul]
  generalize (p.num : Rat) = a at *
  generalize ((p.den : Int) : Rat) = b at *
  generalize (q.num : Rat) = c at *
  generalize ((q.den : Int) : Rat) = d at *
  subst e1 e2
  show _ = (a * d + c * b - 2 * (a * c)) / (b * d)
  grind
theorem far_rng {p q : Rat} (h1 : 0 ≤ p) (h2 : p ≤ 1 / 2) (h3 : 0 ≤ q) (h4 : q ≤ 1 / 2) : 0 ≤ farQ p q ∧ farQ p q ≤ 1 / 2 ∧ p ≤ farQ p q ∧ q ≤ farQ p q ∧ farQ p q ≤ p + q := by
  have a1 : 0 ≤ q * (1 - 2 * p) := Rat.mul_nonneg h3 (by grind)
  have a2 : 0 ≤ p * (1 - 2 * q) := Rat.mul_nonneg h1 (by grind)
  have a3 : 0 ≤ (1 - 2 * p) * (1 - 2 * q) := Rat.mul_nonneg (by grind) (by grind)
  have a4 : 0 ≤ p * q := Rat.mul_nonneg h1 h3
  unfold farQ
  refine ⟨?_, ?_, ?_, ?_, ?_⟩ <;> grind
theorem GQ.far {j k : Nat} {p q : Rat} (hp : GQ j p) (hq : GQ k q) : GQ (j + k) (farQ p q) := by
  obtain ⟨r1, r2, _⟩ := far_rng hp.1 hp.2.1 hq.1 hq.2.1
  refine ⟨r1, r2, ?_⟩
  rw [far_divInt]
  refine Nat.lt_of_le_of_lt (den_le _ (den2_ne p q)) ?_
  exact mul_lt (den_lt hp.bq) (den_lt hq.bq)
def qs : List D → Option (List Rat)
  | [] => some []
  | d :: ds => (toQ d).bind fun q => (qs ds).map fun r => q :: r
end Xm
set_option Elab.async false
set_option linter.all false
set_option maxRecDepth 100000
namespace Xm
open PySem PySem.Spec PyProof.Rows L2
def runP (g : SF) (N : Nat) : List D → Option RV := fun ds => (g (st0 N ds)).bind fun w => match w.1 with
  | .ret r => some r
  | .nx => some (.val .none)
  | _ => none
def runQ (g : SF) (N : Nat) : List D → List D → Option (RV × List D) := fun xs ds => (g (st1 N xs ds)).bind fun w => match w.2[0]? with
  | some (Slot.pen ys) => (match w.1 with
    | .ret r => some (r, ys)
    | .nx => some (.val .none, ys)
    | _ => none)
  | _ => none
theorem runP_ok {g : SF} {N n : Nat} : ∀ ds r, ds.length = n → runP g N ds = some r → Leaves g (st0 N ds) r fun _ => True := by
  intro ds r _ h
  obtain ⟨w, hw, h⟩ := Option.bind_eq_some_iff.mp h
  obtain ⟨fl, st'⟩ := w
  cases fl with
  | ret r' => cases h; exact ⟨st', .inl hw, trivial⟩
  | nx => cases h; exact ⟨st', .inr ⟨hw, rfl⟩, trivial⟩
  | brk => cases h
  | cont => cases h
theorem runQ_ok {g : SF} {N n : Nat} : ∀ xs ds r, ds.length + 1 = n → runQ g N xs ds = some r → Leaves g (st1 N xs ds) r.1 fun st' => st'[0]? = some (.pen r.2) := by
  intro xs ds r _ h
  obtain ⟨w, hw, h⟩ := Option.bind_eq_some_iff.mp h
  obtain ⟨fl, st'⟩ := w
  dsimp only at h
  split at h
  · rename_i ys hy
    cases fl with
    | ret r' => cases h; exact ⟨st', .inl hw, hy⟩
    | nx => cases h; exact ⟨st', .inr ⟨hw, rfl⟩, hy⟩
    | brk => cases h
    | cont => cases h
  · cases h
theorem runP_of {g : SF} {N : Nat} {ds : List D} {r : RV} {st' : AS} (h : g (st0 N ds) = some (.ret r, st')) : runP g N ds = some r := by
  unfold runP
  rw [h]
  rfl
theorem runP_map {g : SF} {N : Nat} {ds : List D} {r : RV} (h : (g (st0 N ds)).map (·.1) = some (.ret r)) : runP g N ds = some r := by
  obtain ⟨w, hw, e⟩ := Option.map_eq_some_iff.mp h
  obtain ⟨fl, st'⟩ := w
  cases e
  exact runP_of hw
theorem runQ_of {g : SF} {N : Nat} {xs ds ys : List D} {r : RV} {st' : AS} (h : g (st1 N xs ds) = some (.ret r, st')) (hy : st'[0]? = some (.pen ys)) : runQ g N xs ds = some (r, ys) := by
  unfold runQ
  rw [h]
  simp only [Option.bind_some, hy]
theorem runQ_map {g : SF} {N : Nat} {xs ds ys : List D} {r : RV} (h : (g (st1 N xs ds)).map (fun w => (w.1, w.2[0]?)) = some (.ret r, some (.pen ys))) : runQ g N xs ds = some (r, ys) := by
  obtain ⟨w, hw, e⟩ := Option.map_eq_some_iff.mp h
  obtain ⟨fl, st'⟩ := w
  obtain ⟨e1, e2⟩ := Prod.mk.inj e
  dsimp only at e1 e2
  subst e1
  exact runQ_of hw e2
def wt : Slot → Nat
  | .dat (.int i) => i.natAbs
  | .own xs => xs.length
  | .pen xs => xs.length
  | _ => 0
def msAll (st : AS) : Nat := 1 + (st.map wt).sum
theorem whileN_mono {c : BF} {b : SF} : ∀ {n m : Nat} {st : AS} {w : Fl × AS}, whileN c b n st = some w → n ≤ m → whileN c b m st = some w
  | 0, _, _, _, h, _ => by cases h
  | n + 1, 0, _, _, _, l => by omega
  | n + 1, m + 1, st, w, h, l => by
    unfold whileN at h ⊢
    obtain ⟨a, ea, h⟩ := Option.bind_eq_some_iff.mp h
    rw [ea]
    simp only [Option.bind_some]
    split at h
    · rename_i ht
      rw [if_pos ht]
      obtain ⟨v, ev, h⟩ := Option.bind_eq_some_iff.mp h
      rw [ev]
      simp only [Option.bind_some]
      obtain ⟨fl, s⟩ := v
      cases fl with
      | nx => exact whileN_mono h (by omega)
      | cont => exact whileN_mono h (by omega)
      | brk => exact h
      | ret r => exact h
    · rename_i ht
      rw [if_neg ht]
      exact h
theorem whileS_all {c : BF} {b : SF} {n : Nat} {st : AS} {w : Fl × AS} (h : whileN c b n st = some w) (l : n ≤ msAll st) : whileS c b msAll st = some w := whileN_mono h l
end Xm
set_option Elab.async false
set_option linter.all false
set_option maxRecDepth 100000
namespace Xm
open PySem PySem.Spec PyProof.Rows L2
def pen (cs : List Int) (u r : Int) : List D := [.list (cs.map PyData.int), .int u, .int r]
def PenOk (n : Nat) (xs : List D) : Prop := ∃ cs u r, xs = pen cs u r ∧ 0 ≤ u ∧ u ≤ n ∧ 0 ≤ r
theorem PenOk.mono {j k : Nat} {xs : List D} (h : PenOk j xs) (l : j ≤ k) : PenOk k xs := by
  obtain ⟨cs, u, r, e, h1, h2, h3⟩ := h
  exact ⟨cs, u, r, e, h1, by omega, h3⟩
theorem fm {a b : Int} (h : 0 < b) : a.fmod b = a % b := Int.fmod_eq_emod_of_nonneg _ (by omega)
theorem fd {a b : Int} (h : 0 < b) : a.fdiv b = a / b := Int.fdiv_eq_ediv_of_nonneg _ (by omega)
theorem k_modP {i j : Int} (h : 0 < j) : kMod (.int i) (.int j) = some (.int (i % j)) := by rw [k_mod (by omega), fm h]
theorem k_divP {i j : Int} (h : 0 < j) (hs : Sd j) : kDiv (.int i) (.int j) = some (.int (i / j)) := by rw [k_div (by omega) hs, fd h]
theorem k_powS {i : Int} {n : Nat} (hi : i.natAbs < 2 ^ 64) (hn : n ≤ 1000000) : kPow (.int i) (.int n) = some (.int (i ^ n)) := by
  show (if 0 ≤ (n : Int) ∧ (n : Int) ≤ 1000000 ∧ i.natAbs < 2 ^ 64 then some (PyData.int (i ^ (n : Int).toNat)) else none) = _
  rw [if_pos ⟨by omega, by omega, hi⟩]
  rfl
theorem sm64 {i : Int} (h : i.natAbs < 2 ^ 64) : Sm i := sm_of h (by omega)
theorem sd64 {i : Int} (h : i.natAbs < 2 ^ 64) : Sd i := sd_of (sm64 h)
theorem k_mulS {i j : Int} (hi : i.natAbs < 2 ^ 64) (hj : j.natAbs < 2 ^ 64) : kMul (.int i) (.int j) = some (.int (i * j)) := k_mul (sm64 hi) (sm64 hj)
theorem k_neCells' (cs : List Int) : kNe (.list (cs.map PyData.int)) (.list []) = some (.bool (decide (cs ≠ []))) := by
  have dp : ∀ l : List Int, PyData.depthAll (l.map PyData.int) ≤ 1 ∧ PyData.canLayAll0 (l.map PyData.int) = true := by
    intro l
    induction l with
    | nil => exact ⟨by simp [PyData.depthAll], rfl⟩
    | cons x l ih => exact ⟨by simp only [List.map_cons, PyData.depthAll, PyData.depth]; omega, by simp only [List.map_cons, PyData.canLayAll0, PyData.canLay0, ih.2, Bool.and_self]⟩
  have sp : SeqAt.shaped (.list (cs.map PyData.int)) = true := by
    unfold SeqAt.shaped
    rw [Bool.and_eq_true]
    refine ⟨by simp only [PyData.canLay0]; exact (dp cs).2, decide_eq_true ?_⟩
    simp only [PyData.depth]
    have := (dp cs).1
    omega
  show kNeD _ _ = _
  unfold kNeD
  rw [if_pos ⟨sp, rfl⟩]
  cases cs with
  | nil => simp [PyData.eqv, PyData.eqvAll]
  | cons x l => simp [PyData.eqv, PyData.eqvAll]
end Xm
set_option Elab.async false
set_option linter.all false
set_option maxRecDepth 100000
namespace Xm
open PySem PySem.Spec PyProof.Rows L2
def Rp (d : D) : Prop := d.showable = true ∧ d.canLay0 = true ∧ d.depth ≤ 64 ∧ d.shown.length ≤ sizeLine
instance (d : D) : Decidable (Rp d) := by unfold Rp; infer_instance
def isSeq : D → Bool
  | .list _ => true
  | .tuple _ => true
  | _ => false
mutual
def tupE : D → Bool
  | .none | .bool _ | .int _ | .str _ => true
  | .tuple ds => tupEs ds
  | .list _ => false
  | .dict kvs => kvs.isEmpty
def tupEs : List D → Bool
  | [] => true
  | d :: ds => tupE d && tupEs ds
end
def RpG (d : D) : Prop := d.showable = true ∧ (d.plain = true ∨ tupE d = true) ∧ d.depth ≤ 64 ∧ d.shown.length ≤ sizeLine
instance (d : D) : Decidable (RpG d) := by unfold RpG; infer_instance
def kRepr (d : D) : Option D := match d with
  | .int i => if i.natAbs.log2 < 1920 then some (.str (toString i)) else none
  | d => if isSeq d = true ∧ Rp d then some (.str d.shown) else if RpG d then some (.str d.shown) else none
theorem rp_g {d : D} (h : Rp d) : RpG d := ⟨h.1, .inl (PyData.plain_of_canLay0 d h.2.1), h.2.2.1, h.2.2.2⟩
theorem kRepr_eq {d z : D} (h : kRepr d = some z) : (∃ i : Int, d = .int i ∧ i.natAbs.log2 < 1920 ∧ z = .str (toString i)) ∨ ((∀ i, d ≠ .int i) ∧ RpG d ∧ z = .str d.shown) := by
  unfold kRepr at h
  split at h
  · rename_i i
    split at h <;> cases h
    exact .inl ⟨i, rfl, by assumption, rfl⟩
  · rename_i hn
    split at h
    · cases h
      rename_i hr
      exact .inr ⟨fun i e => hn i e, rp_g hr.2, rfl⟩
    · split at h <;> cases h
      rename_i hr
      exact .inr ⟨fun i e => hn i e, hr, rfl⟩
def rReprA (K : Kx) : List V → Hp → VK → Prop := fun xs H Q => (∃ i, xs = [.int i] ∧ i.natAbs.log2 < 1920 ∧ Q (.str (toString i)) H) ∨ ∃ v d, xs = [v] ∧ Dp K H v d ∧ (∀ i, d ≠ .int i) ∧ RpG d ∧ Q (.str d.shown) H
section
variable {X : Cx} {pins : List (Addr × Obj)} {σ : L2.St} {H : Hp} {s : Shared}
mutual
theorem Dp.readsE (I : Inv X pins σ H s) : ∀ (d : D) (v : V) (u : Value), tupE d = true → Dp (kxOf X) H v d → RelV v u → ∃ as, Reads s.heap u d as ∧ sysModules ∉ as
  | .none, _, _, _, h, r => by
    cases h
    cases r
    exact ⟨_, Reads.none, by simp⟩
  | .bool b, _, _, _, h, r => by
    cases h
    cases r
    exact ⟨_, Reads.bool b, by simp⟩
  | .int i, _, _, _, h, r => by
    cases h
    obtain ⟨t, rfl⟩ := r
    exact ⟨_, Reads.int i t, by simp⟩
  | .str x, _, _, _, h, r => by
    cases h
    obtain ⟨t, rfl⟩ := r
    exact ⟨_, Reads.str x t, by simp⟩
  | .list ds, _, _, c, _, _ => by simp [tupE] at c
  | .tuple ds, _, _, c, h, r => by
    cases h with
    | tup hs ha =>
      cases r
      obtain ⟨its, rv, ⟨o, ho, hc, n, hd⟩, _⟩ := I.tuple hs.sq
      obtain ⟨as, hr, hn⟩ := Dp.readsEs I ds _ its (by simpa [tupE] using c) ha rv
      exact ⟨_, Reads.tuple ho hc hd hr, hn⟩
  | .dict kvs, _, _, c, h, r => by
    have c2 : kvs = [] := by simpa [tupE] using c
    subst c2
    cases h with
    | @dtp a od rows _ ks vs ws h1 e1 e2 hl hk hd e3 h2 h3 =>
      cases r
      subst e1
      have hrows : rows = [] := by
        cases rows with
        | nil => rfl
        | cons r rs => simp [keysOf] at hk
      subst hrows
      obtain ⟨⟨hsm, _, o, es, ep, xs, g1, g2, g3, g4, g5⟩, _⟩ := rd_ok I (.inr ⟨_, h1⟩)
      cases g5
      have hes : es.toList = [] := g4
      refine ⟨_, Reads.dict g1 g2.1 g3 (as := []) (bs := []) (by rw [hes]; exact .nil) (by rw [hes]; exact .nil), ?_⟩
      simp only [List.nil_append, List.append_nil, List.mem_singleton]
      intro z
      rw [← z] at hsm
      simp at hsm
    | @dky a od ps _ vs h1 e1 e2 hl h2 =>
      cases r
      have hps : ps = [] := by
        cases ps with
        | nil => rfl
        | cons p ps => simp at e1
      subst hps
      obtain ⟨_, hsm, vs, kv, o, es, ep, g1, g2, g3, g4⟩ := dk_rd I.hok (.inr ⟨_, h1⟩)
      cases kv
      have hes : es.toList = [] := by
        have g5 := g4.2.1
        generalize es.toList = l at g5
        cases g5
        rfl
      refine ⟨_, Reads.dict g1 g2.1 g3 (as := []) (bs := []) (by rw [hes]; exact .nil) (by rw [hes]; exact .nil), ?_⟩
      simp only [List.nil_append, List.append_nil, List.mem_singleton]
      intro z
      rw [← z] at hsm
      simp at hsm
theorem Dp.readsEs (I : Inv X pins σ H s) : ∀ (ds : List D) (vs : List V) (us : List Value), tupEs ds = true → DpAll (kxOf X) H vs ds → Vals vs us → ∃ as, ReadsAll s.heap us ds as ∧ sysModules ∉ as
  | [], _, _, _, h, r => by
    cases h
    cases r
    exact ⟨_, ReadsAll.nil, by simp⟩
  | d :: ds, _, _, c, h, r => by
    have c2 : tupE d = true ∧ tupEs ds = true := by simpa [tupEs] using c
    cases h with
    | cons h1 h2 =>
      cases r with
      | cons r1 r2 =>
        obtain ⟨as, q1, n1⟩ := Dp.readsE I d _ _ c2.1 h1 r1
        obtain ⟨bs, q2, n2⟩ := Dp.readsEs I ds _ _ c2.2 h2 r2
        exact ⟨_, ReadsAll.cons q1 q2, by simp [n1, n2]⟩
end
mutual
theorem hasDict_plain : ∀ d : D, d.plain = true → d.hasDict = false
  | .none, _ => rfl
  | .bool _, _ => rfl
  | .int _, _ => rfl
  | .str _, _ => rfl
  | .list xs, h => by simpa [PyData.hasDict] using hasDict_plains xs (by simpa [PyData.plain] using h)
  | .tuple xs, h => by simpa [PyData.hasDict] using hasDict_plains xs (by simpa [PyData.plain] using h)
  | .dict _, h => by simp [PyData.plain] at h
theorem hasDict_plains : ∀ ds : List D, PyData.plainAll ds = true → PyData.hasDictAll ds = false
  | [], _ => rfl
  | d :: ds, h => by
    have c2 : d.plain = true ∧ PyData.plainAll ds = true := by simpa [PyData.plainAll] using h
    simp [PyData.hasDictAll, hasDict_plain d c2.1, hasDict_plains ds c2.2]
end
end
theorem Room.u200 {k : Nat} {A : Around} (r : Room k A) : A.units + 200 < cLine := by have := r.un; omega
section
variable {X : Cx} {C : Ct} {pos p : Pos} {a : Expr} {f : EF}
theorem call_reprA (hu : X.A.units + 200 < cLine) (gd : X.A.guards = some []) : CallR X (.builtin "repr") (rReprA (kxOf X)) := by
  intro pins s σ H xs us Q I r h
  rcases h with ⟨i, rfl, hz, q⟩ | ⟨v, d, rfl, hd, hni, ⟨h1, h2, h3, h4⟩, q⟩
  · obtain ⟨u, rfl, t, rfl⟩ := vals1 r
    exact PySem.P.repr_of_int hz ⟨.str _, H, I.tok _, ⟨_, rfl⟩, q⟩
  · obtain ⟨u, rfl, rx⟩ := vals1 r
    have rd : ∃ as, Reads s.heap u d as ∧ (d.hasDict = true → sysModules ∉ as) := by
      rcases h2 with h2 | h2
      · obtain ⟨as, e⟩ := Dp.reads I d v u h2 hd rx
        exact ⟨as, e, fun z => by rw [hasDict_plain d h2] at z; cases z⟩
      · obtain ⟨as, e, n⟩ := Dp.readsE I d v u h2 hd rx
        exact ⟨as, e, fun _ => n⟩
    obtain ⟨as, rd, hsm⟩ := rd
    cases v with
    | ref a =>
      cases rx
      refine repr_of_reads' rd h1 hsm gd (by omega) (fun b o e => e) (fun h' u tk kept => ?_) h4
      exact ⟨.str d.shown, H, I.kept (t' := tk) kept, ⟨_, rfl⟩, q⟩
    | non =>
      cases rx
      cases hd
      exact PySem.P.repr_of_none ⟨.str _, H, I.tok _, ⟨_, rfl⟩, q⟩
    | bl b =>
      cases rx
      cases hd
      exact PySem.P.repr_of_bool ⟨.str _, H, I.tok _, ⟨_, rfl⟩, q⟩
    | int i =>
      cases hd
      exact absurd rfl (hni i)
    | str x =>
      obtain ⟨t, rfl⟩ := rx
      cases hd
      exact PySem.P.repr_of_str ⟨.str _, H, I.tok _, ⟨_, rfl⟩, q⟩ h4
    | byt b => cases hd
    | flt b => cases hd
    | ty n => cases hd
theorem xd_repr (hu : X.A.units + 200 < cLine) (gd : X.A.guards = some []) (hm : X.mg "repr" = none) (ha : PE X a (dOf (kxOf X) C f)) (hg : Gl X "repr" := by rfl) (he : starEach [a] X.env = (false, eval a X.env) :: starEach [] X.env := by rfl) : PE X (.Call (.Name "repr" p) [a] [] pos) (dOf (kxOf X) C (un1 kRepr f)) :=
  xd_b1 (call_reprA hu gd) (fun F H x d z Q fh hx e q => by
    rcases kRepr_eq e with ⟨i, rfl, hi, rfl⟩ | ⟨hn, hr, rfl⟩
    · exact .inl ⟨_, by rw [dp_int hx], hi, q _ F H (Gr.refl fh) (.str _)⟩
    · exact .inr ⟨x, d, rfl, Dp_up hx fh, hn, hr, q _ F H (Gr.refl fh) (.str _)⟩) hm (by decide +kernel) ha hg (he := he)
end
def arr {α : Type} (z : α) (src : List (Nat ⊕ Nat)) (us ws : List α) : List α := src.map fun x => match x with
  | .inl j => us.getD j z
  | .inr j => ws.getD j z
theorem vals_getD {vs : List V} {us : List Value} (r : Vals vs us) (j : Nat) : RelV (vs.getD j .non) (us.getD j .none) := by
  induction r generalizing j with
  | nil => rfl
  | cons h t ih => cases j with
    | zero => exact h
    | succ j => exact ih j
theorem vals_arr {vs zs : List V} {us ws : List Value} (r : Vals vs us) (s : Vals zs ws) : ∀ src : List (Nat ⊕ Nat), Vals (arr .non src vs zs) (arr .none src us ws)
  | [] => .nil
  | .inl j :: src => .cons (vals_getD r j) (vals_arr r s src)
  | .inr j :: src => .cons (vals_getD s j) (vals_arr r s src)
theorem dpa_getD {K : Kx} {F : Hp} {vs : List V} {ds : List D} (r : DpAll K F vs ds) (j : Nat) : Dp K F (vs.getD j .non) (ds.getD j .none) := by
  cases h : ds[j]? with
  | none =>
    have h1 : ds.length ≤ j := List.getElem?_eq_none_iff.mp h
    have h2 : vs.length ≤ j := by rw [DpAll_len r]; exact h1
    rw [List.getD_eq_getElem?_getD, List.getD_eq_getElem?_getD, h, List.getElem?_eq_none_iff.mpr h2]
    exact .non
  | some d =>
    obtain ⟨v, h1, h2⟩ := DpAll_get r h
    rw [List.getD_eq_getElem?_getD, List.getD_eq_getElem?_getD, h, h1]
    exact h2
theorem dpa_arr {K : Kx} {F : Hp} {vs zs : List V} {ds es : List D} (r : DpAll K F vs ds) (s : DpAll K F zs es) : ∀ src : List (Nat ⊕ Nat), DpAll K F (arr .non src vs zs) (arr .none src ds es)
  | [] => .nil
  | .inl j :: src => .cons (dpa_getD r j) (dpa_arr r s src)
  | .inr j :: src => .cons (dpa_getD s j) (dpa_arr r s src)
structure HasK (P : Program) (w : World) (K : PySem.W.Frag) (mg : Str → Option Value) (base : Heap) (k : Nat) (x : Str) (m : Nat) (n : Nat) (ks : List Str) (src : List (Nat ⊕ Nat)) (mf : List D → Option RV) : Prop where
  ex : ∃ (f : Addr) (fd : FuncData) (ps : List Str), FnG P w K mg base (CXM P w) k f fd ps (spP ⟨K, P, w, mg⟩ m mf) ∧ mg x = some (.ref f) ∧ PySem.W.keepIn K (.ref f) = true ∧ src.length = m ∧
    ∀ (s : Shared) (us ws : List Value), K.In s.heap → us.length = n → ws.length = ks.length → BindsTo s fd ⟨us, ks.zip ws⟩ (ps.zip (arr .none src us ws))
def callK (mf : List D → Option RV) (src : List (Nat ⊕ Nat)) (g h : LF) : AS → Option (RV × AS) := fun st => (g st).bind fun a => (h a.2).bind fun b => (mf (arr .none src a.1 b.1)).map fun r => (r, b.2)
def tCallX (sp : Sp) (src : List (Nat ⊕ Nat)) (n m : Nat) (t tk : TA) : TE := fun σ H Q => t σ H fun vs H1 => tk σ H1 fun zs H2 => vs.length = n ∧ zs.length = m ∧ sp (arr .non src vs zs) H2 Q E0
theorem callK_d {K : Kx} {C : Ct} {mf : List D → Option RV} {src : List (Nat ⊕ Nat)} {g h : LF} {n m : Nat} {σ : L2.St} {H : Hp} {Q : VK} (hn : ArN g n) (hm : ArN h m) (q : dOf K C (rvD (callK mf src g h)) σ H Q) : tCallX (spP K src.length mf) src n m (aOf K C g) (aOf K C h) σ H Q := by
  obtain ⟨F, st, w, R, e, q⟩ := q
  obtain ⟨c, ec, e⟩ := Option.bind_eq_some_iff.mp e
  obtain ⟨a, ea, ec⟩ := Option.bind_eq_some_iff.mp ec
  obtain ⟨b, eb, ec⟩ := Option.bind_eq_some_iff.mp ec
  obtain ⟨r, er, ec⟩ := Option.map_eq_some_iff.mp ec
  cases ec
  refine ⟨F, st, a, R, ea, fun vs H1 F1 s1 R1 d1 => ⟨F1, a.2, b, R1, eb, fun zs H2 F2 s2 R2 d2 => ?_⟩⟩
  have dd := dpa_arr (DpAll_up d1 s2) d2 src
  refine ⟨by rw [DpAll_len d1]; exact hn st a ea, by rw [DpAll_len d2]; exact hm a.2 b eb, by unfold arr; rw [List.length_map], F2, _, r, R2.fh, dd, er, fun v F3 H3 gr ok => ?_, fun x hx => by subst hx; cases e⟩
  have R3 := R2.grow gr
  cases r with
  | val d => cases e; exact q v H3 F3 ((s1.trans s2).trans gr.ff) R3 ok
  | exc x => cases e
  | dct kvs => cases e
  | new xs =>
    cases e
    obtain ⟨p, rfl, hp, hF, us, hH, hu⟩ := ok
    obtain ⟨A, _⟩ := R2.aside hp
    obtain ⟨k1, k2, k3⟩ := R3.freezeNew A.h0 hF hH (fun j hj => A.ap j hj) hu
    exact q _ H3 _ (((s1.trans s2).trans gr.ff).trans k1) k2 k3
section
variable {X : Cx} {C : Ct} {j k n m : Nat} {x : Str} {p pos kpos : Pos} {e : Expr} {es : List Expr} {kws : List Keyword} {g h : LF} {f : EF} {mf : List D → Option RV} {ks : List Str} {src : List (Nat ⊕ Nat)} {nm : Option Str}
theorem pk_wk {t t' : TA} (h : PK X kws t) (w : ∀ σ H Q, t' σ H Q → t σ H Q) : PK X kws t' := ⟨fun pos pins s σ H Q I q => h.run pos pins s σ H Q I (w σ H Q q)⟩
theorem xk_nil : PK X [] (aOf (kxOf X) C nilA) := pk_wk pk_nil fun σ H Q q => by
  obtain ⟨F, st, w, R, e, q⟩ := q
  cases e
  exact q [] H F (Same.refl _) R .nil
theorem xk_cons (ha : PE X e (dOf (kxOf X) C f)) (hr : PK X kws (aOf (kxOf X) C g)) : PK X (⟨nm, e, kpos⟩ :: kws) (aOf (kxOf X) C (consA f g)) := pk_wk (pk_cons ha hr) fun σ H Q q => by
  obtain ⟨F, st, w, R, e, q⟩ := q
  obtain ⟨a, ea, e⟩ := Option.bind_eq_some_iff.mp e
  obtain ⟨b, eb, e⟩ := Option.map_eq_some_iff.mp e
  cases e
  refine ⟨F, st, a, R, ea, fun v H1 F1 s1 R1 d1 => ?_⟩
  exact ⟨F1, a.2, b, R1, eb, fun vs H2 F2 s2 R2 d2 => q (v :: vs) H2 F2 (s1.trans s2) R2 (.cons (Dp_up d1 s2) d2)⟩
theorem runGK {f : Addr} {fd : FuncData} {ps : List Str} {sp : Sp} {pins : List (Addr × Obj)} {σ : L2.St} {H : Hp} {s : Shared} {Q : VK} {us ws rs : List Value} {vs : List V} (G : FnG X.prog X.w X.K X.mg X.base (CXM X.prog X.w) k f fd ps sp) (hr : Room k X.A) (gd : X.A.guards = some [])
    (hb : BindsTo s fd ⟨us, ks.zip ws⟩ (ps.zip rs)) (I : Inv X pins σ H s) (r : Vals vs rs) (h : sp vs H Q E0) : wpAny (model X.prog X.w) X.A (call (.ref f) us (ks.zip ws)) (EP X pins σ Q) X.xe s := by
  refine wpAny_call (codeAny_mono (G.go X.A X.stack s H ⟨us, ks.zip ws⟩ rs vs Q E0 hr gd I.env0 hb r h) fun res s' hq => ?_)
  match res, hq with
  | .error e, hq => exact passL pins σ H s e s' I hq
  | .ok (.ret u), hq => exact I.after hq
theorem xd_callK0 (hh : HasK X.prog X.w X.K X.mg X.base j x m 0 ks src mf) (hr : Room k X.A) (gd : X.A.guards = some []) (hjk : j ≤ k) (hkw : PK X kws (aOf (kxOf X) C h)) (hm : ArN h ks.length) (hg : Gl X x := by rfl)
    (hall : (backToKw pos (keywordEach kws X.env)).all (·.1.isSome) = true := by rfl) (hks : (backToKw pos (keywordEach kws X.env)).filterMap (·.1) = ks := by rfl) (hdb : (x == ("__debug__" : Str)) = false := by decide)
    (hpl : ((backTo pos (starEach [] X.env)).any (·.1) || (backToKw pos (keywordEach kws X.env)).any (·.1.isNone)) = false := by rfl) :
    PE X (.Call (.Name x p) [] kws pos) (dOf (kxOf X) C (rvD (callK mf src nilA h))) := by
  obtain ⟨f, fd, ps, G, hmg, hk, hsrc, hb⟩ := hh.ex
  subst hsrc
  refine pe_wk (t := tCallX (spP (kxOf X) src.length mf) src 0 ks.length (aOf (kxOf X) C nilA) (aOf (kxOf X) C h)) ⟨fun pins s σ H Q I q => ?_⟩ fun _ _ _ q => callK_d ar_nil hm q
  obtain ⟨F, st, w, R, e, q⟩ := q
  cases e
  have q0 := q [] H F (Same.refl _) R .nil
  refine wpAny_Call_Name_kw (ld_glob I hg hmg ?_ hdb)
  refine PySem.W.callWith_KW0 (h₀ := X.base) I.ok.mod.kin hk hall (thn (hkw.run pos pins s σ H _ I q0) fun ws s2 ⟨zs, H2, I2, rz, l1, l2, q2⟩ => ⟨I2.kIn, ?_⟩) hpl
  rw [hks]
  exact runGK (us := []) G (hr.mono hjk) gd (hb s2 [] ws I2.kIn rfl (rz.length.symm.trans l2)) I2 (vals_arr .nil rz src) q2
end
theorem dn_kw {K : PySem.W.Frag} {x : Str} {st : Stmt} {f : Addr} {fd : FuncData} {ps ks : List Str} {src : List (Nat ⊕ Nat)} {n : Nat} (T : Dn K x st [] f fd)
    (h : ∀ (kV doc pm : Value) (an : Option Addr) (cdv ct : Value) (us ws : List Value), us.length = n → ws.length = ks.length → bindArgs (PySem.W.fnOf x x (defArgs st) (defBody st) (defScope st) .none kV doc pm an cdv ct) ⟨us, ks.zip ws⟩ = pure (ps.zip (arr .none src us ws))) :
    ∀ (s : Shared) (us ws : List Value), K.In s.heap → us.length = n → ws.length = ks.length → BindsTo s fd ⟨us, ks.zip ws⟩ (ps.zip (arr .none src us ws)) := by
  obtain ⟨oc, od, dV, kV, doc, pm, an, cdv, ct, osl, rfl, lk, hcd, hD, hK⟩ := T.ex
  rcases hD with ⟨_, rfl⟩ | ⟨e, _⟩
  · exact fun s us ws _ l1 l2 => .of_eq (h kV doc pm an cdv ct us ws l1 l2)
  · exact absurd rfl e
end Xm
set_option Elab.async false
set_option linter.all false
set_option maxRecDepth 100000
namespace Xm
open PySem PySem.Spec PyProof.Rows L2
def bN (k : List D → Option D) (g : LF) : EF := fun st => (g st).bind fun a => (k a.1).map fun z => (z, a.2)
section
variable {X : Cx} {C : Ct} {pos p : Pos} {e : Expr} {es : List Expr} {g : LF}
end
def kMin2 : List D → Option D
  | [.int i, .int j] => some (.int (if j < i then j else i))
  | _ => none
def kMax2 : List D → Option D
  | [.int i, .int j] => some (.int (if j > i then j else i))
  | _ => none
section
variable {X : Cx} {C : Ct} {pos p : Pos} {a b : Expr} {f : EF} {g : LF}
end
section
variable {X : Cx} {C : Ct} {pos p : Pos} {a : Expr} {f : EF}
end
def unpT (n : Nat) (w : List D → AS → Option AS) : D → AS → Option AS := fun d st => match d with
  | .tuple ds => if ds.length = n then w ds st else none
  | .list ds => if ds.length = n then w ds st else none
  | _ => none
section
variable {X : Cx} {C : Ct} {pos : Pos} {es : List Expr}
end
section
variable {X : Cx}
end
def kMulR : D → D → Option D
  | .int i, .int j => kMul (.int i) (.int j)
  | .tuple xs, .int k => if k = 1 then some (.tuple xs) else if xs ≠ [] ∧ 2 ≤ k ∧ k ≤ 1000 ∧ xs.length ≤ 1000 then some (.tuple (List.replicate k.toNat xs).flatten) else none
  | _, _ => none
theorem dpa_rep {K : Kx} {F : Hp} {vs : List V} {ds : List D} (h : DpAll K F vs ds) : ∀ n : Nat, DpAll K F (List.replicate n vs).flatten (List.replicate n ds).flatten
  | 0 => .nil
  | n + 1 => by
    rw [List.replicate_succ, List.replicate_succ, List.flatten_cons, List.flatten_cons]
    exact DpAll_app h (dpa_rep h n)
section
variable {X : Cx} {C : Ct} {pos : Pos} {a b : Expr} {f g : EF}
end
end Xm
set_option Elab.async false
set_option linter.all false
set_option maxRecDepth 100000
namespace Xm
open PySem PySem.Spec PyProof.Rows L2
structure Rk (k n : Nat) (d : D) : Prop where
  sh : d.showable = true
  cl : d.canLay0 = true
  dp : d.depth ≤ k
  sz : d.shown.length ≤ n
theorem Rk.mono {j k m n : Nat} {d : D} (h : Rk j m d) (l : j ≤ k) (l2 : m ≤ n) : Rk k n d := ⟨h.sh, h.cl, Nat.le_trans h.dp l, Nat.le_trans h.sz l2⟩
theorem Rk.rp {k n : Nat} {d : D} (h : Rk k n d) (hk : k ≤ 64) (hn : n ≤ 16777216) : Rp d := ⟨h.sh, h.cl, Nat.le_trans h.dp hk, by rw [sizeLine_eq]; exact Nat.le_trans h.sz hn⟩
theorem Rk.int {i : Int} (h : i.natAbs < 2 ^ 1900) : Rk 0 600 (.int i) := by
  refine ⟨?_, rfl, Nat.le_refl 0, ?_⟩
  · show decide (i.natAbs.log2 < 1920) = true
    by_cases h0 : i.natAbs = 0
    · rw [h0]
      decide
    · exact decide_eq_true (Nat.lt_of_lt_of_le ((Nat.log2_lt h0).mpr h) (by omega))
  · simp only [PyData.shown]
    have e : (2 : Nat) ^ 1900 ≤ 10 ^ 599 := by decide +kernel
    rw [PySem.ofString_length]
    exact int_text_length_le10 (k := 599) (by omega) (Nat.lt_of_lt_of_le h e)
theorem Rk.bool (b : Bool) : Rk 0 600 (.bool b) := ⟨rfl, rfl, Nat.le_refl 0, by cases b <;> decide⟩
theorem Rk.none : Rk 0 600 .none := ⟨rfl, rfl, Nat.le_refl 0, by decide⟩
theorem rk_all {k n : Nat} : ∀ {ds : List D}, (∀ d ∈ ds, Rk k n d) → PyData.showableAll ds = true ∧ PyData.canLayAll0 ds = true ∧ PyData.depthAll ds ≤ k ∧ ((PyData.shownAll ds).map (·.length)).sum ≤ ds.length * n ∧ (PyData.shownAll ds).length = ds.length
  | [], _ => ⟨rfl, rfl, Nat.zero_le k, by simp [PyData.shownAll], rfl⟩
  | d :: ds, h => by
    have h1 := h d (.head _)
    obtain ⟨a1, a2, a3, a4, a5⟩ := rk_all (fun x hx => h x (.tail _ hx))
    refine ⟨by simp [PyData.showableAll, h1.sh, a1], by simp [PyData.canLayAll0, h1.cl, a2], by simpa [PyData.depthAll] using Nat.max_le.mpr ⟨h1.dp, a3⟩, ?_, by simp [PyData.shownAll, a5]⟩
    have := h1.sz
    simp only [PyData.shownAll, List.map_cons, List.sum_cons, List.length_cons, Nat.add_mul, Nat.one_mul]
    omega
theorem Rk.tuple {k n : Nat} {ds : List D} (h : ∀ d ∈ ds, Rk k n d) : Rk (k + 1) (ds.length * n + 2 * ds.length + 3) (.tuple ds) := by
  obtain ⟨a1, a2, a3, a4, a5⟩ := rk_all h
  refine ⟨by simpa [PyData.showable] using a1, by simpa [PyData.canLay0] using a2, by simp [PyData.depth, a3], ?_⟩
  have := tupleText_len_le (PyData.shownAll ds)
  simp only [PyData.shown]
  omega
theorem Rk.list {k n : Nat} {ds : List D} (h : ∀ d ∈ ds, Rk k n d) : Rk (k + 1) (ds.length * n + 2 * ds.length + 3) (.list ds) := by
  obtain ⟨a1, a2, a3, a4, a5⟩ := rk_all h
  refine ⟨by simpa [PyData.showable] using a1, by simpa [PyData.canLay0] using a2, by simp [PyData.depth, a3], ?_⟩
  have := listText_len_le (PyData.shownAll ds)
  simp only [PyData.shown]
  omega
theorem Rk.sh' {q : Rat} (h : Bq 1900 q) : Rk 1 1300 (Xm.sh q) := by
  refine (Rk.tuple (k := 0) (n := 600) (ds := [.int q.num, .int q.den]) fun d hd => ?_).mono (Nat.le_refl _) (by simp)
  rcases List.mem_cons.mp hd with rfl | hd
  · exact Rk.int (i := q.num) h.1
  · rcases List.mem_cons.mp hd with rfl | hd
    · exact Rk.int (i := (q.den : Int)) (by rw [Int.natAbs_natCast]; exact h.2)
    · cases hd
theorem k_reprT {k n : Nat} {ds : List D} (h : Rk k n (.tuple ds)) (hk : k ≤ 64) (hn : n ≤ 16777216) : kRepr (.tuple ds) = some (.str (PyData.shown (.tuple ds))) := if_pos ⟨rfl, h.rp hk hn⟩
theorem k_reprS {q : Rat} (h : Bq 1900 q) : kRepr (sh q) = some (.str (PyData.shown (sh q))) := k_reprT (Rk.sh' h) (by omega) (by omega)
section
variable {f : EF} {a b : LF} {st : AS} {n : Nat} {w : List D → AS → Option AS} {d : D} {ds : List D} {i j : Int} {k : List D → Option D}
@[simp] theorem e_bN : bN k a st = (a st).bind fun x => (k x.1).map fun z => (z, x.2) := rfl
@[simp] theorem k_min2 : kMin2 [.int i, .int j] = some (.int (min i j)) := by
  rw [show min i j = if j < i then j else i by split <;> omega]
  rfl
@[simp] theorem k_max2 : kMax2 [.int i, .int j] = some (.int (max i j)) := by
  rw [show max i j = if j > i then j else i by split <;> omega]
  rfl
@[simp] theorem e_unpT_l : unpT n w (.list ds) st = if ds.length = n then w ds st else none := rfl
@[simp] theorem e_unpT_t : unpT n w (.tuple ds) st = if ds.length = n then w ds st else none := rfl
@[simp] theorem e_callK {mf : List D → Option RV} {src : List (Nat ⊕ Nat)} : callK mf src a b st = (a st).bind fun x => (b x.2).bind fun y => (mf (arr .none src x.1 y.1)).map fun r => (r, y.2) := rfl
@[simp] theorem arr_nil {us ws : List D} : arr .none [] us ws = ([] : List D) := rfl
@[simp] theorem arr_inl {us ws : List D} {m : Nat} {src : List (Nat ⊕ Nat)} : arr .none (.inl m :: src) us ws = us.getD m .none :: arr .none src us ws := rfl
@[simp] theorem arr_inr {us ws : List D} {m : Nat} {src : List (Nat ⊕ Nat)} : arr .none (.inr m :: src) us ws = ws.getD m .none :: arr .none src us ws := rfl
end
theorem itR1_nat {f : EF} {st st' : AS} {k : Nat} (h : f st = some (.int (k : Int), st')) (hk : k ≤ 1000000) : itR1 f st = some (rngD 0 k, st') := by
  have key : ∀ j : Int, j < 1000001 → 0 ≤ j → itR1 f st = (f st).bind fun a => (match a.1 with
    | .int j => if -(2 ^ 62) ≤ j ∧ j < 2 ^ 62 then some (rngD 0 j, a.2) else none
    | _ => none) := fun _ _ _ => rfl
  have gen : ∀ j : Int, f st = some (.int j, st') → j < 1000001 → 0 ≤ j → itR1 f st = some (rngD 0 j, st') := fun j h h1 h2 => by
    rw [key j h1 h2, h]
    simp only [Option.bind_some]
    rw [if_pos (by omega)]
  exact gen k h (by omega) (by omega)
end Xm
set_option Elab.async false
set_option linter.all false
set_option maxRecDepth 100000
namespace DwA
open PySem PySem.Spec PyProof.Rows L2 Xm
def g_law_draw : SF := (seqS (ifS (valB (bin2 kGt (ixM 0 (cst (.int 2))) (cst (.int 0)))) (seqS (asgS 5 (bin2 kMod (ixM 0 (cst (.int 2))) (rd 1))) (seqS (setM 0 (bin2 kDiv (ixM 0 (cst (.int 2))) (rd 1)) (cst (.int 2))) (retS (rd 5)))) skipS) (seqS (asgS 2 (ixM 0 (cst (.int 1)))) (seqS (setM 0 (bin2 kCat (rd 2) (cst (.int 1))) (cst (.int 1))) (seqS (asgS 3 (bin2 kCat (bin2 kMul (cst (.int 90011)) (rd 2)) (cst (.int 97)))) (seqS (ifS (valB (bin2 kNe (ixM 0 (cst (.int 0))) (lstF nilA))) (asgS 3 (bin2 kIx (ixM 0 (cst (.int 0))) (bin2 kMod (rd 2) (un1 kLen (ixM 0 (cst (.int 0))))))) skipS) (seqS (ifS (andB (valB (bin2 kLt (rd 2) (un1 kLen (ixM 0 (cst (.int 0)))))) (valB (bin2 kGe (un1 kAbs (rd 3)) (bin2 kPow (cst (.int 10)) (cst (.int 18)))))) (seqS (setM 0 (bin2 kDiv (un1 kAbs (rd 3)) (rd 1)) (cst (.int 2))) (retS (bin2 kMod (un1 kAbs (rd 3)) (rd 1)))) skipS) (seqS (asgS 4 (bin2 kMod (bin2 kPow (bin2 kCat (bin2 kCat (bin2 kCat (bin2 kMod (rd 3) (cst (.int 2147483563))) (bin2 kMul (bin2 kMul (cst (.int 60013)) (rd 2)) (rd 2))) (bin2 kMul (cst (.int 50021)) (rd 2))) (cst (.int 53))) (cst (.int 3))) (cst (.int 2147483647)))) (seqS (asgS 4 (bin2 kMod (bin2 kPow (bin2 kCat (bin2 kMul (rd 4) (bin2 kCat (bin2 kMul (cst (.int 11)) (rd 2)) (cst (.int 6)))) (cst (.int 70001))) (cst (.int 3))) (cst (.int 2147483587)))) (retS (bin2 kMod (bin2 kDiv (rd 4) (cst (.int 32))) (rd 1)))))))))))
def mq_law_draw := runQ g_law_draw 6
theorem e_law_draw : ∀ xs ds r, ds.length + 1 = 2 → mq_law_draw xs ds = some r → Leaves g_law_draw (st1 6 xs ds) r.1 fun s => s[0]? = some (.pen r.2) := runQ_ok
def g_law_common : SF := (seqS (par2 0 1 (consA (un1 kAbs (rd 0)) (consA (un1 kAbs (rd 1)) nilA))) (seqS (whileS (valB (bin2 kGt (rd 1) (cst (.int 0)))) (par2 0 1 (consA (rd 1) (consA (bin2 kMod (rd 0) (rd 1)) nilA))) msAll) (retS (rd 0))))
def mf_law_common := runP g_law_common 2
theorem e_law_common : ∀ ds r, ds.length = 2 → mf_law_common ds = some r → Leaves g_law_common (st0 2 ds) r fun _ => True := runP_ok
def g_law_share : SF := (seqS (asgS 2 (rvD (callP mf_law_common [] (consA (rd 0) (consA (rd 1) nilA))))) (seqS (ifS (valB (bin2 kLt (rd 1) (cst (.int 0)))) (asgS 2 (bin2 kSub (cst (.int 0)) (rd 2))) skipS) (retS (tupF (consA (bin2 kDiv (rd 0) (rd 2)) (consA (bin2 kDiv (rd 1) (rd 2)) nilA))))))
def mf_law_share := runP g_law_share 3
theorem e_law_share : ∀ ds r, ds.length = 2 → mf_law_share ds = some r → Leaves g_law_share (st0 3 ds) r fun _ => True := runP_ok
theorem draw_ok {n : Nat} {xs : List D} {m : Int} (h : PenOk n xs) (hn : n < 2 ^ 20) (hm : 0 < m) (hm2 : m < 2 ^ 63) :
    ∃ d ys, mq_law_draw xs [.int m] = some (.val (.int d), ys) ∧ 0 ≤ d ∧ d < m ∧ PenOk (n + 1) ys := by
  obtain ⟨cs, u, r, rfl, hu, hun, hr⟩ := h
  have sdm : Sd m := sd64 (by omega)
  have kd : ∀ i : Int, kDiv (.int i) (.int m) = some (.int (i / m)) := fun i => k_divP hm sdm
  have km : ∀ i : Int, kMod (.int i) (.int m) = some (.int (i % m)) := fun i => k_modP hm
  have fin : ∀ {d : Int} {u' r' : Int}, (g_law_draw (st1 6 (pen cs u r) [.int m])).map (fun w => (w.1, w.2[0]?)) = some (.ret (.val (.int d)), some (.pen (pen cs u' r'))) → 0 ≤ d → d < m → 0 ≤ u' → u' ≤ u + 1 → 0 ≤ r' →
      ∃ d ys, mq_law_draw (pen cs u r) [.int m] = some (.val (.int d), ys) ∧ 0 ≤ d ∧ d < m ∧ PenOk (n + 1) ys := fun h h1 h2 h3 h4 h5 => ⟨_, _, runQ_map h, h1, h2, cs, _, _, rfl, h3, by omega, h5⟩
  by_cases h0 : 0 < r
  · refine fin (d := r % m) (u' := u) (r' := r / m) ?_ (Int.emod_nonneg _ (by omega)) (Int.emod_lt_of_pos _ hm) hu (by omega) (Int.ediv_nonneg hr (by omega))
    simp [g_law_draw, pen, h0, kd, km]
  · have e18 : kPow (.int 10) (.int 18) = some (.int (10 ^ 18)) := k_powS (n := 18) (by decide) (by omega)
    have m3 : kMul (.int 90011) (.int u) = some (.int (90011 * u)) := k_mulS (by decide) (by omega)
    have m4 : kMul (.int 50021) (.int u) = some (.int (50021 * u)) := k_mulS (by decide) (by omega)
    have m5 : kMul (.int 60013) (.int u) = some (.int (60013 * u)) := k_mulS (by decide) (by omega)
    have m6 : kMul (.int (60013 * u)) (.int u) = some (.int (60013 * u * u)) := k_mulS (by omega) (by omega)
    have m7 : kMul (.int 11) (.int u) = some (.int (11 * u)) := k_mulS (by decide) (by omega)
    have n1 : ∀ i : Int, kMod (.int i) (.int 2147483563) = some (.int (i % 2147483563)) := fun i => k_modP (by decide)
    have n2 : ∀ i : Int, kMod (.int i) (.int 2147483647) = some (.int (i % 2147483647)) := fun i => k_modP (by decide)
    have n3 : ∀ i : Int, kMod (.int i) (.int 2147483587) = some (.int (i % 2147483587)) := fun i => k_modP (by decide)
    have n6 : ∀ i : Int, kDiv (.int i) (.int 32) = some (.int (i / 32)) := fun i => k_divP (by decide) (by decide)
    have uu : 60013 * u * u ≤ 60013 * (2 ^ 20) * (2 ^ 20) ∧ 0 ≤ 60013 * u * u := by
      have a1 : u * u ≤ 2 ^ 20 * 2 ^ 20 := Int.mul_le_mul (by omega) (by omega) hu (by decide)
      have a2 : 0 ≤ u * u := Int.mul_nonneg hu hu
      rw [Int.mul_assoc]
      omega
    have stir : ∀ c : Int, ∃ low high : Int, kPow (.int (c % 2147483563 + 60013 * u * u + 50021 * u + 53)) (.int 3) = some (.int ((c % 2147483563 + 60013 * u * u + 50021 * u + 53) ^ 3)) ∧ low = (c % 2147483563 + 60013 * u * u + 50021 * u + 53) ^ 3 % 2147483647 ∧
        kMul (.int low) (.int (11 * u + 6)) = some (.int (low * (11 * u + 6))) ∧ kPow (.int (low * (11 * u + 6) + 70001)) (.int 3) = some (.int ((low * (11 * u + 6) + 70001) ^ 3)) ∧ high = (low * (11 * u + 6) + 70001) ^ 3 % 2147483587 := fun c => by
      have c1 := Int.emod_nonneg c (show (2147483563 : Int) ≠ 0 by decide)
      have c2 := Int.emod_lt_of_pos c (show (0 : Int) < 2147483563 by decide)
      refine ⟨(c % 2147483563 + 60013 * u * u + 50021 * u + 53) ^ 3 % 2147483647, ((c % 2147483563 + 60013 * u * u + 50021 * u + 53) ^ 3 % 2147483647 * (11 * u + 6) + 70001) ^ 3 % 2147483587, k_powS (n := 3) (by omega) (by omega), rfl, ?_⟩
      generalize (c % 2147483563 + 60013 * u * u + 50021 * u + 53) ^ 3 = X
      have l1 := Int.emod_nonneg X (show (2147483647 : Int) ≠ 0 by decide)
      have l2 := Int.emod_lt_of_pos X (show (0 : Int) < 2147483647 by decide)
      generalize X % 2147483647 = low at *
      have lu : low * (11 * u + 6) ≤ 2147483647 * (11 * 2 ^ 20 + 6) ∧ 0 ≤ low * (11 * u + 6) := ⟨Int.mul_le_mul (by omega) (by omega) (by omega) (by decide), Int.mul_nonneg l1 (by omega)⟩
      exact ⟨k_mulS (by omega) (by omega), k_powS (n := 3) (by omega) (by omega), rfl⟩
    by_cases hc : cs = []
    · subst hc
      obtain ⟨low, high, s1, s2, s3, s4, s5⟩ := stir (90011 * u + 97)
      have hlt : ¬ u < 0 := by omega
      have kne : kNe (.list []) (.list []) = some (.bool false) := rfl
      refine fin (d := high / 32 % m) (u' := u + 1) (r' := r) ?_ (Int.emod_nonneg _ (by omega)) (Int.emod_lt_of_pos _ hm) (by omega) (by omega) hr
      simp [g_law_draw, pen, h0, kd, km, m3, m4, m5, m6, m7, n1, n2, n3, n6, kne, hlt, s1, ← s2, s3, s4, ← s5]
    · have hlen : 0 < (cs.length : Int) := by
        have := List.length_pos_iff.mpr hc
        omega
      have kne : kNe (.list (cs.map PyData.int)) (.list []) = some (.bool true) := by rw [k_neCells' cs]; simp [hc]
      obtain ⟨c, hix⟩ : ∃ c : Int, atI (cs.map PyData.int) (u % (cs.length : Int)) = some (.int c) := by
        have h1 := Int.emod_nonneg u (show (cs.length : Int) ≠ 0 by omega)
        have h2 := Int.emod_lt_of_pos u hlen
        have h3 : (u % (cs.length : Int)).toNat < cs.length := by omega
        refine ⟨cs[(u % (cs.length : Int)).toNat], ?_⟩
        have := at_n (n := (u % (cs.length : Int)).toNat) (xs := cs.map PyData.int) (x := .int cs[(u % (cs.length : Int)).toNat]) (by rw [List.getElem?_map, List.getElem?_eq_getElem h3]; rfl)
        rw [Int.toNat_of_nonneg h1] at this
        exact this
      have kml : kMod (.int u) (.int (cs.length : Int)) = some (.int (u % (cs.length : Int))) := k_modP hlen
      by_cases hb : u < (cs.length : Int) ∧ (10 : Int) ^ 18 ≤ (c.natAbs : Int)
      · refine fin (d := (c.natAbs : Int) % m) (u' := u + 1) (r' := (c.natAbs : Int) / m) ?_ (Int.emod_nonneg _ (by omega)) (Int.emod_lt_of_pos _ hm) (by omega) (by omega) (Int.ediv_nonneg (by omega) (by omega))
        simp [g_law_draw, pen, h0, kd, km, m3, kne, hix, kml, e18, hb.1]
        rw [if_pos (by have := hb.2; omega)]
        rfl
      · obtain ⟨low, high, s1, s2, s3, s4, s5⟩ := stir c
        refine fin (d := high / 32 % m) (u' := u + 1) (r' := r) ?_ (Int.emod_nonneg _ (by omega)) (Int.emod_lt_of_pos _ hm) (by omega) (by omega) hr
        by_cases hu2 : u < (cs.length : Int)
        · have hb2 : ¬ (10 : Int) ^ 18 ≤ (c.natAbs : Int) := fun z => hb ⟨hu2, z⟩
          simp [g_law_draw, pen, h0, kd, km, m3, m4, m5, m6, m7, n1, n2, n3, n6, kne, hix, kml, e18, hu2]
          rw [if_neg (by omega)]
          simp [kd, km, m4, m5, m6, m7, n1, n2, n3, n6, s1, ← s2, s3, s4, ← s5]
        · simp [g_law_draw, pen, h0, kd, km, m3, m4, m5, m6, m7, n1, n2, n3, n6, kne, hix, kml, hu2, s1, ← s2, s3, s4, ← s5]
theorem cut_ints (ns : List Int) : cutX (ns.map PyData.int) none (some 63) = (ns.take 63).map PyData.int := by
  rw [show (63 : Int) = ((63 : Nat) : Int) from rfl, cut_take, List.map_take]
theorem pen0 (ns : List Int) : PenOk 0 [.list (cutX (ns.map PyData.int) none (some 63)), .int 0, .int 0] := ⟨ns.take 63, 0, 0, by rw [cut_ints]; rfl, by omega, by omega, by omega⟩
theorem lcommon_loop : ∀ (n a b : Nat), b < n → ∃ c : Nat, whileN (valB (bin2 kGt (rd 1) (cst (.int 0)))) (par2 0 1 (consA (rd 1) (consA (bin2 kMod (rd 0) (rd 1)) nilA))) n [.dat (.int a), .dat (.int b)] = some (.nx, [.dat (.int (Nat.gcd a b)), .dat (.int c)])
  | 0, a, b, h => by omega
  | n + 1, a, b, h => by
    by_cases hb : b = 0
    · subst hb
      exact ⟨0, by simp [whileN]⟩
    · obtain ⟨c, hc⟩ := lcommon_loop n b (a % b) (by have := Nat.mod_lt a (by omega : b > 0); omega)
      refine ⟨c, ?_⟩
      have hb' : (0 < b) = True := by simp; omega
      have hm : kMod (.int (a : Int)) (.int (b : Int)) = some (.int ((a % b : Nat) : Int)) := by rw [k_mod (by omega), fmod_nat]
      have hg : Nat.gcd a b = Nat.gcd b (a % b) := by rw [Nat.gcd_comm a b, Nat.gcd_rec b a, Nat.gcd_comm]
      rw [hg, ← hc]
      simp [whileN, hb', hm]
theorem m_law_common (a b : Int) : mf_law_common [.int a, .int b] = some (.val (.int (Int.gcd a b))) := by
  refine runP_map ?_
  obtain ⟨c, hc⟩ := lcommon_loop (b.natAbs + 1) a.natAbs b.natAbs (by omega)
  have hw := whileS_all hc (by simp [msAll, wt]; omega)
  simp [g_law_common, hw, Int.gcd]
theorem at_ints {zs : List Int} {i : Int} (h0 : 0 ≤ i) (h1 : i < zs.length) : ∃ z ∈ zs, atI (zs.map PyData.int) i = some (.int z) := by
  have h3 : i.toNat < zs.length := by omega
  refine ⟨zs[i.toNat], List.getElem_mem _, ?_⟩
  have := at_n (n := i.toNat) (xs := zs.map PyData.int) (x := .int zs[i.toNat]) (by rw [List.getElem?_map, List.getElem?_eq_getElem h3]; rfl)
  rw [Int.toNat_of_nonneg h0] at this
  exact this
end DwA
set_option Elab.async false
set_option linter.all false
set_option maxRecDepth 100000
set_option maxHeartbeats 2000000
namespace Xm
open PySem PySem.Spec PyProof.Rows L2 RZ
def Ib (b : Bool) (h : Heap) (it a : Addr) (i : Nat) : Prop := if b = true then h.IsTupleIter it a i else h.IsListIter it a i
theorem Ib.obj {b : Bool} {h : Heap} {it a : Addr} {i : Nat} (x : Ib b h it a i) : ∃ o, h.get? it = some o ∧ ∀ v, o.data ≠ .cell v := by
  unfold Ib at x
  split at x <;> (obtain ⟨o, e, _, d⟩ := x; exact ⟨o, e, fun v q => by rw [d] at q; cases q⟩)
theorem Ib.at {b : Bool} {h h' : Heap} {it a : Addr} {i : Nat} (x : Ib b h it a i) (k : ∀ o, h.get? it = some o → h'.get? it = some o) : Ib b h' it a i := by
  cases b with
  | true => exact Heap.IsTupleIter.at x k
  | false => exact Heap.IsListIter.at x k
end Xm
set_option Elab.async false
set_option linter.all false
set_option maxRecDepth 100000
namespace Xm
open PySem PySem.Spec PyProof.Rows L2
section
variable {X : Cx} {C : Ct} {pos p apos cpos : Pos} {o e : Expr} {f g : EF}
end
def boolsD : List D → Option (List Bool)
  | [] => some []
  | .bool b :: r => (boolsD r).map (b :: ·)
  | _ => none
def intsD : List D → Option (List Int)
  | [] => some []
  | .int b :: r => (intsD r).map (b :: ·)
  | _ => none
def kAll : D → Option D
  | .list xs => (boolsD xs).map fun bs => .bool (bs.all id)
  | _ => none
def kSum : D → Option D
  | .list xs => (intsD xs).map fun bs => .int bs.sum
  | _ => none
section
variable {X : Cx} {C : Ct} {pos p : Pos} {a : Expr} {f : EF}
end
def tyD : D → String
  | .none => "NoneType"
  | .bool _ => "bool"
  | .int _ => "int"
  | .str _ => "str"
  | .list _ => "list"
  | .tuple _ => "tuple"
  | .dict _ => "dict"
def isaT (t T : String) : Bool := t == T || (t == "bool" && T == "int")
def kIsa (T : String) (d : D) : Option D := some (.bool (isaT (tyD d) T))
def tys : List String := ["NoneType", "bool", "int", "str", "list", "tuple", "dict"]
def rIsaD (K : Kx) : List V → Hp → VK → Prop := fun xs H Q => ∃ (x c : V) (d : D) (u : Value) (b : Bool), xs = [x, c] ∧ ClsV c u ∧ Dp K H x d ∧ PySem.W.kitOne K.K (.type (tyD d)) u = some b ∧ Q (.bl b) H
theorem tyD_mem (d : D) : tyD d ∈ tys := by cases d <;> simp [tyD, tys]
theorem kit_dp {X : Cx} {pins : List (Addr × Obj)} {σ : L2.St} {H : Hp} {s : Shared} {x : V} {d : D} {u : Value} (I : Inv X pins σ H s) (h : Dp (kxOf X) H x d) (rx : RelV x u) : ∃ P : Heap → Prop, PySem.W.KitX X.K u (.type (tyD d)) P ∧ P s.heap ∧ u ≠ .builtin "__main__.__loader__#opaque" := by
  cases h with
  | non => exact kit_of I rx (.base .non)
  | bl b => exact kit_of I rx (.base (.bl b))
  | int i => exact kit_of I rx (.base (.int i))
  | str x => exact kit_of I rx (.base (.str x))
  | lst hs hv =>
    refine kit_of I rx ?_
    rcases hs with (h | ⟨o, h⟩) | ⟨o, its, n, h1, h2, _⟩
    · exact .base (.lst h)
    · exact .base (.frz h)
    · exact .kList h1 h2
  | tup hs hv =>
    refine kit_of I rx ?_
    rcases hs.sq with (h | ⟨o, h⟩) | ⟨o, its, n, h1, h2, _⟩
    · exact .base (.tup h)
    · exact .fTuple h
    · exact .kTuple h1 h2
  | dky h1 h2 h3 h4 h5 => exact kit_of I rx (.fDict h1)
  | @dtp a od rows kvs ks vs ws h1 _ _ _ _ _ _ _ _ =>
    cases (show u = Value.ref a from rx)
    obtain ⟨⟨_, _, o, es, ep, xs, g1, g2, _⟩, _⟩ := rd_ok I (.inr ⟨_, h1⟩)
    exact ⟨_, PySem.W.kitx_dict, ⟨o, g1, g2.1⟩, fun z => nomatch z⟩
theorem call_isaD {X : Cx} : CallR X (.builtin "isinstance") (rIsaD (kxOf X)) := by
  intro pins s σ H xs us Q I r h
  obtain ⟨x, c, d, u, b, rfl, k, hd, e, q⟩ := h
  obtain ⟨u1, u2, rfl, r1, r2⟩ := vals2 r
  have e2 := k.eq r2
  subst e2
  obtain ⟨P, Z, p, hx⟩ := kit_dp I hd r1
  exact PySem.W.kia_one Z I.kIn p e hx fun tk => ⟨.bl b, H, I.tok tk, rfl, q⟩
def IsaOk (K : Kx) (T : String) : Prop := ∀ t ∈ tys, PySem.W.kitOne K.K (.type t) (.type T) = some (isaT t T)
section
variable {X : Cx} {C : Ct} {pos p p2 : Pos} {a : Expr} {f : EF}
theorem xd_isa {x : Str} {T : String} (hT : IsaOk (kxOf X) T) (hv : bootBuiltins x = some (.type T)) (hm : X.mg "isinstance" = none) (hx : X.mg x = none) (ha : PE X a (dOf (kxOf X) C f)) (hg : Gl X "isinstance" := by rfl) (hg2 : Gl X x := by rfl) (hn : x ≠ "__name__" := by decide) (hd : (x == ("__debug__" : Str)) = false := by decide)
    (he : starEach [a, .Name x p2] X.env = (false, eval a X.env) :: starEach [.Name x p2] X.env := by rfl) (he2 : starEach [.Name x p2] X.env = (false, eval (.Name x p2) X.env) :: starEach [] X.env := by rfl) (hpl : (backTo pos (starEach [.Name x p2] X.env)).any (·.1) = false := by rfl) :
    PE X (.Call (.Name "isinstance" p) [a, .Name x p2] [] pos) (dOf (kxOf X) C (un1 (kIsa T) f)) :=
  pe_wk (pe_callB call_isaD hg hm (by decide +kernel) (pa_cons ha (pa_cons (pe_bltn (v := .ty T) hg2 hx hv rfl hn hd) pa_nil he2) he) (he := he) (hpl := hpl)) fun σ H Q q => by
    obtain ⟨F, st, w, R, e, q⟩ := q
    obtain ⟨a, ea, e⟩ := Option.bind_eq_some_iff.mp e
    obtain ⟨z, ez, e⟩ := Option.map_eq_some_iff.mp e
    cases e
    cases ez
    refine ⟨F, st, a, R, ea, fun v H1 F1 s1 R1 d1 => ?_⟩
    exact ⟨v, .ty T, _, _, _, rfl, .ty T, Dp_up d1 R1.fh, hT _ (tyD_mem _), q _ H1 F1 s1 R1 (.bl _)⟩
end
theorem isa_int {K : Kx} : IsaOk K "int" := by
  intro t ht
  simp only [tys, List.mem_cons, List.not_mem_nil, or_false] at ht
  rcases ht with rfl | rfl | rfl | rfl | rfl | rfl | rfl <;> rfl
theorem isa_bool {K : Kx} : IsaOk K "bool" := by
  intro t ht
  simp only [tys, List.mem_cons, List.not_mem_nil, or_false] at ht
  rcases ht with rfl | rfl | rfl | rfl | rfl | rfl | rfl <;> rfl
theorem isa_tuple {K : Kx} : IsaOk K "tuple" := by
  intro t ht
  simp only [tys, List.mem_cons, List.not_mem_nil, or_false] at ht
  rcases ht with rfl | rfl | rfl | rfl | rfl | rfl | rfl <;> rfl
def chE (k k' : D → D → Option D) (f g h : EF) : EF := fun st => (f st).bind fun a => (g a.2).bind fun b => (k a.1 b.1).bind fun z => match z with
  | .bool true => (h b.2).bind fun c => (k' b.1 c.1).map fun y => (y, c.2)
  | .bool false => some (.bool false, b.2)
  | _ => none
section
variable {X : Cx} {C : Ct} {pos : Pos} {a b c : Expr} {f g h : EF} {r r' : R2} {k k' : D → D → Option D}
end
@[simp] theorem e_chE {k k' : D → D → Option D} {f g h : EF} {st : AS} : chE k k' f g h st = (f st).bind fun a => (g a.2).bind fun b => (k a.1 b.1).bind fun z => (match z with
  | .bool true => (h b.2).bind fun c => (k' b.1 c.1).map fun y => (y, c.2)
  | .bool false => some (.bool false, b.2)
  | _ => none) := rfl
@[simp] theorem k_isa {T : String} {d : D} : kIsa T d = some (.bool (isaT (tyD d) T)) := rfl
end Xm
set_option Elab.async false
set_option linter.all false
set_option maxRecDepth 100000
namespace Xm
open PySem PySem.Spec PyProof.Rows L2
def savS : Option Slot → Bool
  | some .no => true
  | some (.dat _) => true
  | _ => false
def savB (st : AS) (vs : List Nat) : Bool := vs.all fun i => savS st[i]?
def rest (old : AS) : List Nat → AS → AS
  | [], st => st
  | v :: vs, st => (rest old vs st).set v (old[v]?.getD .no)
def compR (it : LF) (u : D → AS → Option AS) (tt : BF) (te : EF) (vs : List Nat) : LF := fun st => (it st).bind fun a => if savB a.2 vs = true ∧ a.1.length ≤ sizeLine then (compL u tt te vs a.1 (Xm.clr a.2 vs)).map fun r => (r.1, rest a.2 vs r.2) else none
section
variable {X : Cx} {C : Ct} {pos : Pos} {elt tg iter : Expr} {ifs : List Expr} {scope : Scope} {own : List (Str × Nat)} {it : LF} {u : D → AS → Option AS} {ts : List Nat} {tt : BF} {te : EF} {vs : List Nat}
end
section
variable {X : Cx} {C : Ct} {pos spos py : Pos} {elt tg iter : Expr} {ifs : List Expr} {scope : Scope} {own : List (Str × Nat)} {it : LF} {u : D → AS → Option AS} {ts : List Nat} {tt : BF} {te : EF} {i : Nat} {y : Str} {vs : List Nat}
end
end Xm
set_option Elab.async false
set_option linter.all false
set_option maxRecDepth 100000
namespace HT
open PySem PySem.Spec PyProof.Rows
section
variable {prog : Program} {w : World} {A : Around} {E : Value → Shared → Prop} {s : Shared}
end
end HT
namespace Xm
open PySem PySem.Spec PyProof.Rows L2 RZ
def revA (f : EF) : EF := fun st => (f st).bind fun a => match a.1 with
  | .list xs => some (.list xs.reverse, a.2)
  | .tuple xs => some (.tuple xs.reverse, a.2)
  | _ => none
section
variable {X : Cx} {C : Ct} {pos p2 : Pos} {e : Expr} {f : EF}
end
def toNew (f : EF) : LF := fun st => (f st).bind fun a => match a.1 with
  | .list xs => some (xs, a.2)
  | .tuple xs => some (xs, a.2)
  | _ => none
section
variable {X : Cx} {C : Ct} {pos p p2 pos2 : Pos} {a : Expr} {f : EF}
end
def prD : List D → List D → List D
  | x :: xs, y :: ys => .tuple [x, y] :: prD xs ys
  | _, _ => []
def itZip (f g : EF) : LF := fun st => (f st).bind fun a => (g a.2).bind fun b => match a.1, b.1 with
  | .list xs, .list ys => some (prD xs ys, b.2)
  | .tuple xs, .tuple ys => some (prD xs ys, b.2)
  | _, _ => none
section
variable {X : Cx} {C : Ct} {pos p tpos : Pos} {elts : List Expr} {kk : Nat} {a b : Expr} {f g : EF}
end
section
variable {f g : EF} {st : AS}
@[simp] theorem e_revA : revA f st = (f st).bind fun a => (match a.1 with
  | .list xs => some (.list xs.reverse, a.2)
  | .tuple xs => some (.tuple xs.reverse, a.2)
  | _ => none) := rfl
@[simp] theorem e_toNew : toNew f st = (f st).bind fun a => (match a.1 with
  | .list xs => some (xs, a.2)
  | .tuple xs => some (xs, a.2)
  | _ => none) := rfl
@[simp] theorem e_itZip : itZip f g st = (f st).bind fun a => (g a.2).bind fun b => (match a.1, b.1 with
  | .list xs, .list ys => some (prD xs ys, b.2)
  | .tuple xs, .tuple ys => some (prD xs ys, b.2)
  | _, _ => none) := rfl
end
def CMulB (i _ : Int) : Prop := i.natAbs < 2 ^ 62
theorem CMulB.ok {i j : Int} (h : CMulB i j) : IntMulOk i j := by
  refine IntMulOk.of_left ?_
  have b : Builtin.Int.intBits i ≤ i.natAbs.log2 + 1 := by
    unfold Builtin.Int.intBits
    split <;> omega
  have : i.natAbs.log2 < 62 := PySem.Flt.log2_lt_of (by omega) h
  omega
end Xm
set_option Elab.async false
set_option linter.all false
set_option maxRecDepth 100000
namespace Xm
open PySem PySem.Spec PyProof.Rows L2
def augS (i : Nat) (f : EF) : SF := fun st => match st[i]? with
  | some (.dat (.int a)) => (f st).bind fun b => match b.1 with
    | .int j => (setD i (.int (a + j)) b.2).map fun st' => (.nx, st')
    | _ => none
  | _ => none
section
variable {X : Cx} {C : Ct} {pos : Pos} {e : Expr} {f : EF}
end
@[simp] theorem e_augS {i : Nat} {f : EF} {st : AS} : augS i f st = (match st[i]? with
  | some (.dat (.int a)) => (f st).bind fun b => (match b.1 with
    | .int j => (setD i (.int (a + j)) b.2).map fun st' => (.nx, st')
    | _ => none)
  | _ => none) := rfl
def revM (i : Nat) : EF := fun st => (muC st i).map fun xs => (.none, putM st i xs.reverse)
section
variable {X : Cx} {C : Ct} {apos cpos : Pos} {o : Expr}
end
@[simp] theorem e_revM {i : Nat} {st : AS} : revM i st = (muC st i).map fun xs => (.none, putM st i xs.reverse) := rfl
def reprM (i : Nat) : EF := fun st => (muC st i).bind fun xs => (kRepr (.list xs)).map fun z => (z, st)
section
variable {X : Cx} {C : Ct} {pos p : Pos} {a : Expr}
end
@[simp] theorem e_reprM {i : Nat} {st : AS} : reprM i st = (muC st i).bind fun xs => (kRepr (.list xs)).map fun z => (z, st) := rfl
end Xm
set_option Elab.async false
set_option linter.all false
set_option maxRecDepth 100000
namespace Xm
open PySem PySem.Spec PyProof.Rows L2
def clrS (vs : List Nat) (b : SF) : SF := fun st => (b st).map fun w => match w.1 with
  | .nx => (.nx, clr w.2 vs)
  | .cont => (.cont, clr w.2 vs)
  | _ => w
theorem Rel.clrN {K : Kx} {C : Ct} {F H : Hp} {st : AS} {σ : L2.St} (R : Rel K C F st σ H) (vs : List Nat) : Rel K C F (Xm.clr st vs) σ H :=
  rel_mono_slots R (clr_len st vs) fun i s h => by
    rw [clr_get] at h
    split at h
    · cases h; exact .inl rfl
    · exact .inr h
theorem clrS_ok {K : Kx} {C : Ct} {vs : List Nat} {b : SF} {Z : Ends} {σ : L2.St} {H : Hp} (q : sOf K C (clrS vs b) Z σ H) : sOf K C b Z σ H := by
  obtain ⟨F, st, w, R, e, q⟩ := q
  obtain ⟨v, ev, e⟩ := Option.map_eq_some_iff.mp e
  refine ⟨F, st, v, R, ev, ?_⟩
  obtain ⟨fl, s2⟩ := v
  cases fl with
  | nx => cases e; exact fun σ' H' F' s1 R1 => q σ' H' F' s1 (R1.clrN vs)
  | cont => cases e; exact fun σ' H' F' s1 R1 => q σ' H' F' s1 (R1.clrN vs)
  | brk => cases e; exact q
  | ret r => cases e; exact q
section
variable {X : Cx} {C : Ct} {s : Stmt} {ss : List Stmt} {b : SF}
theorem xss_clr (vs : List Nat) (h : PSs X ss (sOf (kxOf X) C b)) : PSs X ss (sOf (kxOf X) C (clrS vs b)) := pss_wk h fun _ _ _ q => clrS_ok q
end
def Wp {α : Type} (f : AS → Option (α × AS)) (st : AS) (Q : α → AS → Prop) : Prop := ∃ a s, f st = some (a, s) ∧ Q a s
theorem ex_of {α : Type} {k : Option α} {z : α} {P : α → Prop} (h : k = some z) (q : P z) : ∃ z, k = some z ∧ P z := ⟨z, h, q⟩
theorem ite_t {b : Bool} {P R : Prop} (h : b = true) (p : P) : if b = true then P else R := by rw [if_pos h]; exact p
theorem ite_f {b : Bool} {P R : Prop} (h : b = false) (p : R) : if b = true then P else R := by rw [if_neg (by rw [h]; exact Bool.false_ne_true)]; exact p
theorem ex_bool {x : Bool} {P : Bool → Prop} (q : P x) : ∃ b, PyData.bool x = .bool b ∧ P b := ⟨x, rfl, q⟩
theorem ex_int {x : Int} {P : Int → Prop} (q : P x) : ∃ b, PyData.int x = .int b ∧ P b := ⟨x, rfl, q⟩
theorem np_and {o : Option Slot} {P : Prop} (h : npO o = true) (q : P) : npO o = true ∧ P := ⟨h, q⟩
theorem len_and {n : Nat} {P : Prop} (h : n ≤ sizeLine) (q : P) : n ≤ sizeLine ∧ P := ⟨h, q⟩
theorem mu_and {st : AS} {i : Nat} {xs : List D} {P : List D → Prop} (h : muC st i = some xs) (q : P xs) : ∃ ys, muC st i = some ys ∧ P ys := ⟨xs, h, q⟩
theorem ix_t0 {x : D} {l : List D} : kIx (.tuple (x :: l)) (.int 0) = some x := at_0
theorem ix_t1 {x y : D} {l : List D} : kIx (.tuple (x :: y :: l)) (.int 1) = some y := at_1
def kCut (d : D) (lo hi : Option Int) : Option D := match d with
  | .list xs => some (.list (cutX xs lo hi))
  | .tuple xs => some (.tuple (cutX xs lo hi))
  | _ => none
theorem ex_arr {mf : List D → Option RV} {src : List (Nat ⊕ Nat)} {us ws ds : List D} {P : RV → Prop} (h : arr .none src us ws = ds) (q : ∃ r, mf ds = some r ∧ P r) : ∃ r, mf (arr .none src us ws) = some r ∧ P r := by rw [h]; exact q
theorem ite_nbt {b : Bool} {P R : Prop} (h : b = false) (p : P) : if (!b) = true then P else R := by rw [h]; exact p
theorem ite_nbf {b : Bool} {P R : Prop} (h : b = true) (p : R) : if (!b) = true then P else R := by rw [h]; exact p
theorem ite_nes {x : Str} {P R : Prop} (p : R) : if (!decide (x = x)) = true then P else R := by rw [decide_eq_true rfl]; exact p
theorem ite_nei {x : Int} {P R : Prop} (p : R) : if (!(x == x)) = true then P else R := by rw [beq_self_eq_true]; exact p
theorem ite_eqi {x : Int} {P R : Prop} (p : P) : if (x == x) = true then P else R := by rw [beq_self_eq_true]; exact p
theorem ite_tt {P R : Prop} (p : P) : if true = true then P else R := p
theorem ite_ff {P R : Prop} (p : R) : if false = true then P else R := p
theorem ite_nt {P R : Prop} (p : R) : if (!true) = true then P else R := p
theorem ite_nf {P R : Prop} (p : P) : if (!false) = true then P else R := p
section
variable {α : Type} {f g : EF} {u v c : BF} {a b : LF} {s t : SF} {st st' : AS} {i j l : Nat} {k : D → D → Option D} {h : D → Option D} {d : D} {QD : D → AS → Prop} {QB : Bool → AS → Prop} {QL : List D → AS → Prop} {QS : Fl → AS → Prop} {QR : RV → AS → Prop}
theorem Wp.imp {F : AS → Option (α × AS)} {Q Q' : α → AS → Prop} (w : Wp F st Q) (h : ∀ a s, Q a s → Q' a s) : Wp F st Q' := by
  obtain ⟨a, s, e, q⟩ := w
  exact ⟨a, s, e, h a s q⟩
theorem wp_cst (q : QD d st) : Wp (cst d) st QD := ⟨d, st, rfl, q⟩
theorem wp_rd (e : st[i]? = some (.dat d)) (q : QD d st) : Wp (rd i) st QD := ⟨d, st, by rw [e_rd, e], q⟩
theorem wp_rdo {xs : List D} (e : st[i]? = some (.own xs)) (q : QD (.list xs) (st.set i (.dat (.list xs)))) : Wp (rd i) st QD := ⟨_, _, by rw [e_rd, e], q⟩
theorem wp_bin2 (w : Wp f st fun a s1 => Wp g s1 fun b s2 => ∃ z, k a b = some z ∧ QD z s2) : Wp (bin2 k f g) st QD := by
  obtain ⟨a, s1, e1, b, s2, e2, z, e3, q⟩ := w
  exact ⟨z, s2, by rw [e_bin2, e1]; simp only [Option.bind_some, e2, e3]; rfl, q⟩
theorem wp_un1 (w : Wp f st fun a s1 => ∃ z, h a = some z ∧ QD z s1) : Wp (un1 h f) st QD := by
  obtain ⟨a, s1, e1, z, e3, q⟩ := w
  exact ⟨z, s1, by rw [e_un1, e1]; simp only [Option.bind_some, e3]; rfl, q⟩
theorem wp_nilA (q : QL [] st) : Wp nilA st QL := ⟨[], st, rfl, q⟩
theorem wp_consA (w : Wp f st fun x s1 => Wp a s1 fun xs s2 => QL (x :: xs) s2) : Wp (consA f a) st QL := by
  obtain ⟨x, s1, e1, xs, s2, e2, q⟩ := w
  exact ⟨_, s2, by rw [e_consA, e1]; simp only [Option.bind_some, e2]; rfl, q⟩
theorem wp_tupF (w : Wp a st fun xs s1 => xs.length ≤ sizeLine ∧ QD (.tuple xs) s1) : Wp (tupF a) st QD := by
  obtain ⟨x, s1, e1, hl, q⟩ := w
  exact ⟨_, s1, by rw [e_tupF, e1]; simp only [Option.bind_some]; rw [if_pos hl], q⟩
theorem wp_lstF (w : Wp a st fun xs s1 => xs.length ≤ sizeLine ∧ QD (.list xs) s1) : Wp (lstF a) st QD := by
  obtain ⟨x, s1, e1, hl, q⟩ := w
  exact ⟨_, s1, by rw [e_lstF, e1]; simp only [Option.bind_some]; rw [if_pos hl], q⟩
theorem wp_newF (w : Wp a st fun xs s1 => xs.length ≤ sizeLine ∧ QL xs s1) : Wp (newF a) st QL := by
  obtain ⟨x, s1, e1, hl, q⟩ := w
  exact ⟨_, s1, by rw [e_newF, e1]; simp only [Option.bind_some]; rw [if_pos hl], q⟩
theorem wp_valB (w : Wp f st fun d s1 => ∃ b, d = .bool b ∧ QB b s1) : Wp (valB f) st QB := by
  obtain ⟨x, s1, e1, b, rfl, q⟩ := w
  exact ⟨b, s1, by rw [e_valB, e1]; rfl, q⟩
theorem wp_andB (w : Wp u st fun b s1 => if b = true then Wp v s1 QB else QB false s1) : Wp (andB u v) st QB := by
  obtain ⟨x, s1, e1, q⟩ := w
  split at q
  · rename_i hx
    obtain ⟨y, s2, e2, q⟩ := q
    exact ⟨y, s2, by rw [e_andB, e1]; simp only [Option.bind_some]; rw [if_pos hx]; exact e2, q⟩
  · rename_i hx
    exact ⟨false, s1, by rw [e_andB, e1]; simp only [Option.bind_some]; rw [if_neg hx], q⟩
theorem wp_orB (w : Wp u st fun b s1 => if b = true then QB true s1 else Wp v s1 QB) : Wp (orB u v) st QB := by
  obtain ⟨x, s1, e1, q⟩ := w
  split at q
  · rename_i hx
    exact ⟨true, s1, by rw [e_orB, e1]; simp only [Option.bind_some]; rw [if_pos hx], q⟩
  · rename_i hx
    obtain ⟨y, s2, e2, q⟩ := q
    exact ⟨y, s2, by rw [e_orB, e1]; simp only [Option.bind_some]; rw [if_neg hx]; exact e2, q⟩
theorem wp_notB (w : Wp u st fun b s1 => QB (!b) s1) : Wp (notB u) st QB := by
  obtain ⟨x, s1, e1, q⟩ := w
  exact ⟨_, s1, by rw [e_notB, e1]; rfl, q⟩
theorem wp_boolE (w : Wp u st fun b s1 => QD (.bool b) s1) : Wp (boolE u) st QD := by
  obtain ⟨x, s1, e1, q⟩ := w
  exact ⟨_, s1, by rw [e_boolE, e1]; rfl, q⟩
theorem wp_callP {mf : List D → Option RV} {dvs : List D} (w : Wp a st fun xs s1 => ∃ r, mf (xs ++ dvs) = some r ∧ QR r s1) : Wp (callP mf dvs a) st QR := by
  obtain ⟨x, s1, e1, r, e2, q⟩ := w
  exact ⟨r, s1, by rw [e_callP, e1]; simp only [Option.bind_some, e2]; rfl, q⟩
theorem wp_callP0 {mf : List D → Option RV} (w : Wp a st fun xs s1 => ∃ r, mf xs = some r ∧ QR r s1) : Wp (callP mf [] a) st QR := wp_callP (by
  refine w.imp fun xs s q => ?_
  rw [List.append_nil]
  exact q)
theorem wp_callK {mf : List D → Option RV} {src : List (Nat ⊕ Nat)} (w : Wp a st fun xs s1 => Wp b s1 fun ys s2 => ∃ r, mf (arr .none src xs ys) = some r ∧ QR r s2) : Wp (callK mf src a b) st QR := by
  obtain ⟨x, s1, e1, y, s2, e2, r, e3, q⟩ := w
  exact ⟨r, s2, by unfold callK; rw [e1]; simp only [Option.bind_some, e2, e3]; rfl, q⟩
theorem wp_callQ {mq : List D → List D → Option (RV × List D)} {xs : List D} (e0 : muC st i = some xs) (w : Wp a st fun ds s1 => ∃ zs, muC s1 i = some zs ∧ ∃ r, mq zs ds = some r ∧ QR r.1 (putM s1 i r.2)) : Wp (callQ mq i a) st QR := by
  obtain ⟨x, s1, e1, zs, e2, r, e3, q⟩ := w
  exact ⟨r.1, _, by rw [e_callQ, e0]; simp only [Option.bind_some, e1, e2, e3]; rfl, q⟩
theorem wp_rvD {F : AS → Option (RV × AS)} (w : Wp F st fun r s1 => match r with
    | .val d => QD d s1
    | .new xs => QD (.list xs) s1
    | .dct _ => False
    | .exc _ => False) : Wp (rvD F) st QD := by
  obtain ⟨r, s1, e1, q⟩ := w
  cases r with
  | val d => exact ⟨_, s1, by rw [e_rvD, e1]; rfl, q⟩
  | new d => exact ⟨_, s1, by rw [e_rvD, e1]; rfl, q⟩
  | dct d => exact q.elim
  | exc x => exact q.elim
theorem wp_itD (w : Wp f st fun d s1 => ∃ xs, (d = .list xs ∨ d = .tuple xs) ∧ QL xs s1) : Wp (itD f) st QL := by
  obtain ⟨r, s1, e1, xs, (rfl | rfl), q⟩ := w <;> exact ⟨_, s1, by rw [e_itD, e1]; rfl, q⟩
theorem wp_noO {Q : Option Int → AS → Prop} (q : Q none st) : Wp noO st Q := ⟨none, st, rfl, q⟩
theorem wp_someO {Q : Option Int → AS → Prop} (w : Wp f st fun d s1 => ∃ i, d = .int i ∧ Q (some i) s1) : Wp (someO f) st Q := by
  obtain ⟨d, s1, e1, i, rfl, q⟩ := w
  exact ⟨_, s1, by rw [e_someO, e1]; rfl, q⟩
theorem wp_cutF {x y : OF} (w : Wp f st fun d s1 => Wp x s1 fun lo s2 => Wp y s2 fun hi s3 => ∃ z, kCut d lo hi = some z ∧ QD z s3) : Wp (cutF f x y) st QD := by
  obtain ⟨d, s1, e1, lo, s2, e2, hi, s3, e3, z, e4, q⟩ := w
  refine ⟨z, s3, ?_, q⟩
  rw [e_cutF, e1]
  simp only [Option.bind_some, e2, e3]
  unfold kCut at e4
  split at e4 <;> cases e4 <;> rfl
theorem wp_itR1 (w : Wp f st fun d s1 => ∃ k : Nat, d = .int k ∧ k ≤ 1000000 ∧ QL (rngD 0 k) s1) : Wp (itR1 f) st QL := by
  obtain ⟨d, s1, e1, k, rfl, hk, q⟩ := w
  exact ⟨_, s1, itR1_nat e1 hk, q⟩
theorem wp_appM {xs : List D} (e0 : muC st i = some xs) (w : Wp g st fun b s1 => ∃ ys, muC s1 i = some ys ∧ ys.length < sizeLine ∧ QD .none (putM s1 i (ys ++ [b]))) : Wp (appM i g) st QD := by
  obtain ⟨r, s1, e1, ys, e2, hl, q⟩ := w
  exact ⟨.none, _, by unfold appM; rw [e0]; simp only [Option.bind_some, e1, e2]; rw [if_pos hl], q⟩
theorem wp_seq (w : Wp s st fun fl s1 => match fl with
    | .nx => Wp t s1 QS
    | .brk => QS .brk s1
    | .cont => QS .cont s1
    | .ret r => QS (.ret r) s1) : Wp (seqS s t) st QS := by
  obtain ⟨fl, s1, e1, q⟩ := w
  cases fl with
  | nx =>
    obtain ⟨y, s2, e2, q⟩ := q
    exact ⟨y, s2, by rw [e_seqS, e1]; exact e2, q⟩
  | brk => exact ⟨_, s1, by rw [e_seqS, e1]; rfl, q⟩
  | cont => exact ⟨_, s1, by rw [e_seqS, e1]; rfl, q⟩
  | ret r => exact ⟨_, s1, by rw [e_seqS, e1]; rfl, q⟩
theorem wp_skip (q : QS .nx st) : Wp skipS st QS := ⟨_, st, rfl, q⟩
theorem wp_retS (w : Wp f st fun d s1 => QS (.ret (.val d)) s1) : Wp (retS f) st QS := by
  obtain ⟨x, s1, e1, q⟩ := w
  exact ⟨_, s1, by rw [e_retS, e1]; rfl, q⟩
theorem wp_drop (w : Wp f st fun _ s1 => QS .nx s1) : Wp (dropS f) st QS := by
  obtain ⟨x, s1, e1, q⟩ := w
  exact ⟨_, s1, by rw [e_dropS, e1]; rfl, q⟩
theorem wp_ifS (w : Wp c st fun b s1 => if b = true then Wp s s1 QS else Wp t s1 QS) : Wp (ifS c s t) st QS := by
  obtain ⟨x, s1, e1, q⟩ := w
  split at q
  · rename_i hx
    obtain ⟨y, s2, e2, q⟩ := q
    exact ⟨y, s2, by rw [e_ifS, e1]; simp only [Option.bind_some]; rw [if_pos hx]; exact e2, q⟩
  · rename_i hx
    obtain ⟨y, s2, e2, q⟩ := q
    exact ⟨y, s2, by rw [e_ifS, e1]; simp only [Option.bind_some]; rw [if_neg hx]; exact e2, q⟩
theorem wp_asg (w : Wp f st fun d s1 => npO s1[i]? = true ∧ QS .nx (s1.set i (.dat d))) : Wp (asgS i f) st QS := by
  obtain ⟨x, s1, e1, hn, q⟩ := w
  exact ⟨_, _, by rw [e_asgS, e1]; simp only [Option.bind_some, e_setD]; rw [if_pos hn]; rfl, q⟩
theorem wp_asgN (w : Wp a st fun d s1 => npO s1[i]? = true ∧ QS .nx (s1.set i (.own d))) : Wp (asgN i a) st QS := by
  obtain ⟨x, s1, e1, hn, q⟩ := w
  exact ⟨_, _, by rw [e_asgN, e1]; simp only [Option.bind_some, e_setO]; rw [if_pos hn]; rfl, q⟩
theorem wp_par2 (w : Wp a st fun ds s1 => ∃ x y, ds = [x, y] ∧ npO s1[i]? = true ∧ npO (s1.set i (.dat x))[j]? = true ∧ QS .nx ((s1.set i (.dat x)).set j (.dat y))) : Wp (par2 i j a) st QS := by
  obtain ⟨ds, s1, e1, x, y, rfl, h1, h2, q⟩ := w
  exact ⟨_, _, by rw [e_par2, e1]; simp only [Option.bind_some, e_setD]; rw [if_pos h1]; simp only [Option.bind_some]; rw [if_pos h2]; rfl, q⟩
theorem wp_clr {vs : List Nat} (w : Wp s st fun fl s1 => match fl with
    | .nx => QS .nx (clr s1 vs)
    | .cont => QS .cont (clr s1 vs)
    | .brk => QS .brk s1
    | .ret r => QS (.ret r) s1) : Wp (clrS vs s) st QS := by
  obtain ⟨fl, s1, e1, q⟩ := w
  cases fl with
  | nx => exact ⟨_, _, by unfold clrS; rw [e1]; rfl, q⟩
  | cont => exact ⟨_, _, by unfold clrS; rw [e1]; rfl, q⟩
  | brk => exact ⟨_, _, by unfold clrS; rw [e1]; rfl, q⟩
  | ret r => exact ⟨_, _, by unfold clrS; rw [e1]; rfl, q⟩
theorem wp_loop {u : D → AS → Option AS} {b : SF} (I : List D → AS → Prop) (hs : ∀ d ds s, I (d :: ds) s → ∃ s1, u d s = some s1 ∧ Wp b s1 fun fl s2 => match fl with
    | .nx => I ds s2
    | .cont => I ds s2
    | .brk => QS .nx s2
    | .ret r => QS (.ret r) s2) (he : ∀ s, I [] s → QS .nx s) : ∀ (ds : List D) (s : AS), I ds s → Wp (loopS u b ds) s QS
  | [], s, h => ⟨_, _, rfl, he s h⟩
  | d :: ds, s, h => by
    obtain ⟨s1, e1, fl, s2, e2, q⟩ := hs d ds s h
    cases fl with
    | nx =>
      obtain ⟨w, s3, e3, q⟩ := wp_loop I hs he ds s2 q
      exact ⟨w, s3, by simp only [loopS, e1, Option.bind_some, e2]; exact e3, q⟩
    | cont =>
      obtain ⟨w, s3, e3, q⟩ := wp_loop I hs he ds s2 q
      exact ⟨w, s3, by simp only [loopS, e1, Option.bind_some, e2]; exact e3, q⟩
    | brk => exact ⟨_, _, by simp only [loopS, e1, Option.bind_some, e2], q⟩
    | ret r => exact ⟨_, _, by simp only [loopS, e1, Option.bind_some, e2], q⟩
theorem wp_for {it : LF} {u : D → AS → Option AS} {b : SF} (w : Wp it st fun ds s1 => Wp (loopS u b ds) s1 QS) : Wp (forS it u b) st QS := by
  obtain ⟨ds, s1, e1, fl, s2, e2, q⟩ := w
  exact ⟨fl, s2, by unfold forS; rw [e1]; exact e2, q⟩
theorem wp_whileN {c : BF} {b : SF} (I : Nat → AS → Prop) (hs : ∀ n s, I n s → Wp c s fun x s1 => if x = true then (∃ m, n = m + 1 ∧ Wp b s1 fun fl s2 => match fl with
    | .nx => I m s2
    | .cont => I m s2
    | .brk => QS .nx s2
    | .ret r => QS (.ret r) s2) else QS .nx s1) : ∀ (n : Nat) (s : AS), I n s → ∀ N, n < N → Wp (whileN c b N) s QS
  | n, s, h, 0, hN => absurd hN (Nat.not_lt_zero n)
  | n, s, h, N + 1, hN => by
    obtain ⟨x, s1, e1, q⟩ := hs n s h
    split at q
    · rename_i hx
      obtain ⟨m, rfl, fl, s2, e2, q⟩ := q
      cases fl with
      | nx =>
        obtain ⟨w, s3, e3, q⟩ := wp_whileN I hs m s2 q N (by omega)
        exact ⟨w, s3, by simp only [whileN, e1, Option.bind_some]; rw [if_pos hx, e2]; exact e3, q⟩
      | cont =>
        obtain ⟨w, s3, e3, q⟩ := wp_whileN I hs m s2 q N (by omega)
        exact ⟨w, s3, by simp only [whileN, e1, Option.bind_some]; rw [if_pos hx, e2]; exact e3, q⟩
      | brk => exact ⟨_, _, by simp only [whileN, e1, Option.bind_some]; rw [if_pos hx, e2]; rfl, q⟩
      | ret r => exact ⟨_, _, by simp only [whileN, e1, Option.bind_some]; rw [if_pos hx, e2]; rfl, q⟩
    · rename_i hx
      exact ⟨_, _, by simp only [whileN, e1, Option.bind_some]; rw [if_neg hx], q⟩
theorem wp_while {c : BF} {b : SF} {ms : AS → Nat} (I : Nat → AS → Prop) (n : Nat) (h0 : I n st) (hn : n < ms st) (hs : ∀ n s, I n s → Wp c s fun x s1 => if x = true then (∃ m, n = m + 1 ∧ Wp b s1 fun fl s2 => match fl with
    | .nx => I m s2
    | .cont => I m s2
    | .brk => QS .nx s2
    | .ret r => QS (.ret r) s2) else QS .nx s1) : Wp (whileS c b ms) st QS := wp_whileN I hs n st h0 (ms st) hn
end
theorem runP_wp {g : SF} {N : Nat} {ds : List D} {r : RV} (w : Wp g (st0 N ds) fun fl _ => fl = .ret r) : runP g N ds = some r := by
  obtain ⟨fl, s, e, rfl⟩ := w
  exact runP_of e
theorem runQ_wp {g : SF} {N : Nat} {xs ds : List D} {P : RV → List D → Prop} (w : Wp g (st1 N xs ds) fun fl s => ∃ r ys, fl = .ret r ∧ s[0]? = some (.pen ys) ∧ P r ys) : ∃ r ys, runQ g N xs ds = some (r, ys) ∧ P r ys := by
  obtain ⟨fl, s, e, r, ys, rfl, h, p⟩ := w
  exact ⟨r, ys, runQ_of e h, p⟩
end Xm
set_option Elab.async false
set_option linter.all false
set_option maxRecDepth 100000
namespace Xm
open PySem PySem.Spec PyProof.Rows L2
def raiseS (n : Str) : SF := fun st => some (.ret (.exc ⟨n, []⟩), st)
theorem Rel.withW {K : Kx} {C : Ct} {F H : Hp} {st : AS} {σ : L2.St} {W : WX} (R : Rel K C F st σ H) : Rel K { C with W := W } F st σ H :=
  ⟨R.len, R.f0, R.fh, R.old, R.new, fun i s e => by have q := R.slot i s e; cases s <;> exact q, R.apart, R.penh, R.pent, R.tab⟩
theorem Rel.unW {K : Kx} {C : Ct} {F H : Hp} {st : AS} {σ : L2.St} {W : WX} (R : Rel K { C with W := W } F st σ H) : Rel K C F st σ H :=
  ⟨R.len, R.f0, R.fh, R.old, R.new, fun i s e => by have q := R.slot i s e; cases s <;> exact q, R.apart, R.penh, R.pent, R.tab⟩
structure ExC (K : PySem.W.Frag) (mg : Str → Option Value) (n : Str) (C : Addr) (bmB : List Value) (newId : String) : Prop where
  mg : mg n = some (.ref C)
  q : PySem.W.excIn K C bmB newId = true
  keep : PySem.W.keepIn K (.ref C) = true
  sub : PySem.W.subIn K (.ref C) (.type "BaseException") = some true
  ty : PySem.W.typeIn K (.ref C) = some (.type "type")
section
variable {X : Cx} {C : Ct} {pos p p2 cpos : Pos}
theorem xs_raise {n m : Str} {j : Nat} {Ca : Addr} {bmB : List Value} {B newId initId : String} (hc : X.calm = true) (tk : Takes X C.W) (F : ExcBaseFacts B newId initId bmB) (T : ExC X.K X.mg n Ca bmB newId) (hg : Gl X n := by rfl) (hdb : (n == ("__debug__" : Str)) = false := by decide) :
    PS X (.Raise (some (.Call (.Name n p) [.Constant (.str m) j p2] [] cpos)) none pos) (sOf (kxOf X) C (raiseS n)) :=
  ps_wk (ps_raise hc tk (pmk_own F T.q T.mg T.keep (raises_own T.sub T.ty) hg hdb)) fun Z σ H q => by
    obtain ⟨F, st, w, R, e, q⟩ := q
    cases e
    exact q (.ref Ca) none σ H F (Same.refl _) R ⟨T.mg, .inl ⟨rfl, rfl⟩⟩
end
def xOf (K : Kx) (C : Ct) (f : AS → Option (RV × AS)) : TE := fun σ H Q => ∃ F st r, Rel K C F st σ H ∧ f st = some r ∧ match r.1 with
  | .val d => ∀ v H' F', Same F F' → Rel K C F' r.2 σ H' → Dp K F' v d → Q v H'
  | .new xs => ∀ (a : Addr) (vs : List V) H' F', Same F F' → Rel K C F' r.2 σ H' → C.H0 a = none → F' a = none → H' a = some (.lst vs) → (∀ j, Mu r.2 j → σ[j]? ≠ some (some (.ref a))) → DpAll K F' vs xs → Q (.ref a) H'
  | .dct kvs => ∀ (a : Addr) (u : HO) H' F', Same F F' → Rel K C F' r.2 σ H' → C.H0 a = none → F' a = none → H' a = some u → (∀ j, Mu r.2 j → σ[j]? ≠ some (some (.ref a))) → DR K F' a u kvs → Q (.ref a) H'
  | .exc x => ∀ cls d H' F', Same F F' → Rel K C F' r.2 σ H' → ExOk K F' x cls d → C.W cls d σ H'
theorem callP_x {K : Kx} {C : Ct} {mf : List D → Option RV} {g : LF} {n : Nat} {σ : L2.St} {H : Hp} {Q : VK} {dvs : List V} {dds : List D} {E : XK} (hE : ∀ cls d H', C.W cls d σ H' → E cls d H') (hd : ∀ F, DpAll K F dvs dds) (hn : ∀ st r, g st = some r → (r.1 ++ dds).length = n)
    (q : xOf K C (callP mf dds g) σ H Q) : tCall (spP K n mf) dvs E (aOf K C g) σ H Q := by
  obtain ⟨F, st, w, R, ec, q⟩ := q
  obtain ⟨a, ea, ec⟩ := Option.bind_eq_some_iff.mp ec
  obtain ⟨r, er, ec⟩ := Option.map_eq_some_iff.mp ec
  cases ec
  refine ⟨F, st, a, R, ea, fun vs H1 F1 s1 R1 d1 => ?_⟩
  have dd := DpAll_app d1 (hd F1)
  refine ⟨by rw [DpAll_len dd]; exact hn st a ea, F1, _, r, R1.fh, dd, er, fun v F2 H2 gr ok => ?_, fun x hx cls d F2 H2 gr ok => ?_⟩
  · have R2 := R1.grow gr
    cases r with
    | val d => exact q v H2 F2 (s1.trans gr.ff) R2 ok
    | new xs =>
      obtain ⟨p, rfl, hp, hF, us, hH, hu⟩ := ok
      obtain ⟨A, _⟩ := R1.aside hp
      exact q p us H2 F2 (s1.trans gr.ff) R2 A.h0 hF hH (fun j hj => A.ap j hj) hu
    | dct kvs =>
      obtain ⟨p, rfl, hp, hF, u, hH, hu⟩ := ok
      obtain ⟨A, _⟩ := R1.aside hp
      exact q p u H2 F2 (s1.trans gr.ff) R2 A.h0 hF hH (fun j hj => A.ap j hj) hu
    | exc x => exact ok.elim
  · subst hx
    exact hE cls d H2 (q cls d H2 F2 (s1.trans gr.ff) (R1.grow gr) ok)
def dropX (c : AS → Option (RV × AS)) : SF := fun st => (c st).map fun r => match r.1 with
  | .exc x => (.ret (.exc x), r.2)
  | _ => (.nx, r.2)
section
variable {X : Cx} {C : Ct} {j k n m i : Nat} {x y : Str} {p p1 pos : Pos} {e : Expr} {es : List Expr} {g : LF} {mf : List D → Option RV} {dds : List D} {c : AS → Option (RV × AS)}
theorem runGS {pins : List (Addr × Obj)} {σ : L2.St} {H : Hp} {s : Shared} {Q : VK} {us : List Value} {vs dvs : List V} {f : Addr} {fd : FuncData} {ps : List Str} {ds : List Value} {sp : Sp} {E : XK} (G : FnG X.prog X.w X.K X.mg X.base (CXM X.prog X.w) k f fd ps sp) (hr : Room k X.A) (gd : X.A.guards = some []) (hb : Binds X.K fd ps ds) (hd : Vals dvs ds)
    (hx : PassesAt (CXM X.prog X.w) X σ E) (I : Inv X pins σ H s) (r : Vals vs us) (h : sp (vs ++ dvs) H Q E) : wpAny (model X.prog X.w) X.A (call (.ref f) us) (EP X pins σ Q) X.xe s := by
  have r2 : Vals (vs ++ dvs) (us ++ ds) := r.append hd
  have hl : (us ++ ds).length = ps.length := by rw [← r2.length, G.arity _ _ _ _ h]
  refine wpAny_call (codeAny_mono (G.go X.A X.stack s H ⟨us, []⟩ (us ++ ds) (vs ++ dvs) Q E hr gd I.env0 (hb s us I.kIn hl) r2 h) fun res s' hq => ?_)
  match res, hq with
  | .error e, hq => exact hx pins H s e s' I hq
  | .ok (.ret u), hq => exact I.after hq
theorem xx_call (h : Has X.prog X.w X.K X.mg X.base j x n dds mf) (tk : Takes X C.W) (hr : Room k X.A) (gd : X.A.guards = some []) (hjk : j ≤ k) (ha : PA X (e :: es) (aOf (kxOf X) C g)) (hn : ArN g m) (hnm : m + dds.length = n := by rfl) (hg : Gl X x := by rfl)
    (he : starEach (e :: es) X.env = (false, eval e X.env) :: starEach es X.env := by rfl) (hpl : (backTo pos (starEach es X.env)).any (·.1) = false := by rfl) (hdb : (x == ("__debug__" : Str)) = false := by decide) :
    PE X (.Call (.Name x p) (e :: es) [] pos) (xOf (kxOf X) C (callP mf dds g)) := by
  obtain ⟨f, fd, ps, dvs, ds, G, hm, hk, hb, hv, hd⟩ := h.ex
  refine ⟨fun pins s σ H Q I q => wpAny_Call_Name_kw (ld_glob I hg hm ?_ hdb)⟩
  have q2 := callP_x (n := n) (E := fun cls d H' => C.W cls d σ H') (fun _ _ _ z => z) hd (fun st r er => by rw [List.length_append, hn st r er]; exact hnm) q
  refine PySem.W.callWith_K (h₀ := X.base) I.ok.mod.kin hk (thn (ha.run pos pins s σ H _ I q2) fun us s1 ⟨vs, H1, I1, r, q⟩ => ?_) he hpl
  exact ⟨I1.kIn, runGS G (hr.mono hjk) gd hb hv (passAt tk σ) I1 r q⟩
theorem xs_dropX (he : PE X e (xOf (kxOf X) C c)) (hs : swapsWith e none pos.line X.env = pure false := by rfl) : PS X (.Expr e pos) (sOf (kxOf X) C (dropX c)) := ps_wk (ps_expr he hs) fun Z σ H q => by
  obtain ⟨F, st, w, R, e, q⟩ := q
  obtain ⟨r, er, e⟩ := Option.map_eq_some_iff.mp e
  refine ⟨F, st, r, R, er, ?_⟩
  obtain ⟨r1, r2⟩ := r
  cases r1 with
  | val d => cases e; exact fun v H1 F1 s1 R1 d1 => q σ H1 F1 s1 R1
  | new xs => cases e; exact fun p vs H1 F1 s1 R1 h0 h1 h2 _ d1 => q σ H1 F1 s1 R1
  | dct kvs => cases e; exact fun p u H1 F1 s1 R1 h0 h1 h2 _ d1 => q σ H1 F1 s1 R1
  | exc x => cases e; exact fun cls d H1 F1 s1 R1 d1 => q cls d σ H1 F1 s1 R1 d1
end
section
variable {X : Cx} {C : Ct} {pos pos' np : Pos} {x : Str} {c : Value} {body suite : List Stmt} {b₀ : Stmt} {b h : SF} {ct : Str → Option Bool}
end
theorem excIn_mk {K : PySem.W.Frag} {C N : Addr} {nm q : Str} {bs bm : List Value} {hd : Bool} {sn : List Str} {sub : List Value} {ab : Bool} {col : Option Bool} {dd dN : Option Addr} {k0 k1 k2 k3 k5 : Option Value} {newId : String} {cN : Value} {es : Array DictEntry} {nN : Nat} {sN : Array (Option Value)}
    (l : K.lookup C = some (excClassObj nm q C N bs bm hd sn sub ab col dd k0 k1 k2 k3 k5 newId)) (lN : K.lookup N = some ⟨cN, dN, .dict es nN, sN⟩) (o : (es.toList.all fun e => match e.key with | .str _ _ => true | _ => false) = true) (ni : PySem.W.nsIn K N "__init__" = some none) (ne : bm.isEmpty = false) : PySem.W.excIn K C bm newId = true := by
  have t : PySem.W.tailIn K bm bm = true := by
    cases bm with
    | nil => cases ne
    | cons v r => unfold PySem.W.tailIn; rw [beq_self_eq_true]; rfl
  have n2 : PySem.W.nsOkIn K N = true := by
    unfold PySem.W.nsOkIn
    rw [lN]
    show es.all _ = true
    rw [← Array.all_toList]
    exact o
  unfold PySem.W.excIn
  rw [l]
  simp only [t, n2, ni, beq_self_eq_true, Bool.not_false, Bool.and_self]
theorem exm_of {K : PySem.W.Frag} {D S : Addr} {b : Bool} (h1 : PySem.W.subIn K (.ref S) (.type "BaseException") = some true) (h2 : PySem.W.isClsIn K S = true) (h3 : PySem.W.typeIn K (.ref S) = some (.type "type")) (h4 : PySem.W.subIn K (.ref D) (.ref S) = some b) :
    PySem.W.exmOne K (.ref D) (.ref S) = some b := by
  have e1 : (PySem.W.subIn K (.ref S) (.type "BaseException") == some true) = true := by rw [h1] <;> rfl
  have e2 : ((PySem.W.clsIn K S).isSome && PySem.W.typeIn K (.ref S) == some (.type "type")) = true := by
    have h2' : (PySem.W.clsIn K S).isSome = true := h2
    rw [h2', h3] <;> rfl
  show (if (PySem.W.subIn K (.ref S) (.type "BaseException") == some true) = true then (if ((PySem.W.clsIn K S).isSome && PySem.W.typeIn K (.ref S) == some (.type "type")) = true then PySem.W.subIn K (.ref D) (.ref S) else none) else none) = some b
  rw [if_pos e1, if_pos e2]
  exact h4
def ct1 (n : Str) (b : Bool) : Str → Option Bool := fun m => if m = n then some b else none
theorem FnG.sub {P : Program} {w : World} {K : PySem.W.Frag} {mg : Str → Option Value} {base : Heap} {CX : CXT} {k n : Nat} {f : Addr} {fd : FuncData} {ps : List Str} {mf mf' : List D → Option RV} (h : ∀ ds r, mf ds = some r → mf' ds = some r) (G : FnG P w K mg base CX k f fd ps (spP ⟨K, P, w, mg⟩ n mf')) :
    FnG P w K mg base CX k f fd ps (spP ⟨K, P, w, mg⟩ n mf) :=
  ⟨fun vs H Q E q => by
    obtain ⟨h1, F, ds, r, e1, e2, e3, e4⟩ := q
    exact G.arity vs H Q E ⟨h1, F, ds, r, e1, e2, h _ _ e3, e4⟩, fun A outer s H args us vs Q E hr gd en b v q => by
    obtain ⟨h1, F, ds, r, e1, e2, e3, e4⟩ := q
    exact G.go A outer s H args us vs Q E hr gd en b v ⟨h1, F, ds, r, e1, e2, h _ _ e3, e4⟩⟩
theorem Has.sub {P : Program} {w : World} {K : PySem.W.Frag} {mg : Str → Option Value} {base : Heap} {k n : Nat} {x : Str} {dds : List D} {mf mf' : List D → Option RV} (h : ∀ ds r, mf ds = some r → mf' ds = some r) (G : Has P w K mg base k x n dds mf') : Has P w K mg base k x n dds mf := by
  obtain ⟨f, fd, ps, dvs, ds, h1, h2⟩ := G.ex
  exact ⟨f, fd, ps, dvs, ds, h1.sub h, h2⟩
theorem cx_takes {P : Program} {w : World} {K : PySem.W.Frag} {mg : Str → Option Value} {base : Heap} {N : List Str} {q : Str} {sc : Scope} {f : Addr} {cd : Value} {A : Around} {outer : List Env} {s : Shared} {H : Hp} {E : XK} {C : Ct} (hW : C.W = fun cls d _ H => E cls d H) : Takes (cxOf (CXM P w) P w K mg base N q sc f cd A outer s H E) C.W := by
  rw [hW]
  exact takes_of rfl rfl rfl rfl
section
variable {c : AS → Option (RV × AS)} {st : AS} {i : Nat} {QS : Fl → AS → Prop} {b h : SF} {ct : Str → Option Bool}
theorem wp_dropX (w : Wp c st fun r s1 => match r with
    | .exc x => QS (.ret (.exc x)) s1
    | _ => QS .nx s1) : Wp (dropX c) st QS := by
  obtain ⟨r, s1, e, q⟩ := w
  cases r <;> exact ⟨_, _, by unfold dropX; rw [e]; rfl, q⟩
end
end Xm
set_option Elab.async false
set_option linter.all false
set_option maxRecDepth 100000
namespace Xm
open PySem PySem.Spec PyProof.Rows L2
def tLockv (t : TE) : TE := fun σ H Q => t σ H fun v H1 => Q v H1 ∨ ∃ d u, v = .ref d ∧ H1 d = some u ∧ Mut (some u) ∧ ∀ od, Q v (upd H1 d (.frz od u))
theorem pe_lockv {X : Cx} {e : Expr} {t : TE} (h : PE X e t) : PE X e (tLockv t) := by
  refine ⟨fun pins s σ H Q I hw => ?_⟩
  refine thn (h.run pins s σ _ _ I hw) fun v s1 ⟨x, H1, I1, r, z⟩ => ?_
  rcases z with q | ⟨d, u, e1, hd, mu, q⟩
  · exact ⟨x, H1, I1, r, q⟩
  · obtain ⟨od, I2⟩ := I1.lock hd mu
    exact ⟨x, _, I2, r, q od⟩
section
variable {X : Cx} {C : Ct} {pos : Pos}
theorem xd_emp : PE X (.Dict [] [] pos) (dOf (kxOf X) C (cst (.dict []))) := pe_wk (pe_lockv pe_dnewK) fun σ H Q q => by
  obtain ⟨F, st, w, R, e, q⟩ := q
  cases e
  intro p hp
  refine .inr ⟨p, .dK [], rfl, upd_same, True.intro, fun od => ?_⟩
  rw [upd_upd]
  have g := Gr.new (o := .frz od (.dK [])) R.fh hp
  exact q _ _ _ g.ff (R.grow g) (.dky (ps := []) upd_same rfl rfl (Nat.zero_le _) .nil)
end
section
variable {X : Cx} {C : Ct} {pos : Pos} {a b c : Expr} {f g h : EF} {r r' : R2} {k k' : D → D → Option D}
end
section
variable {X : Cx} {C : Ct} {pos : Pos} {a b e : Expr} {rest : List Expr} {f g : EF}
end
section
variable {f g : EF} {st : AS} {QD : D → AS → Prop} {QB : Bool → AS → Prop}
end
end Xm
set_option Elab.async false
set_option linter.all false
set_option maxRecDepth 100000
set_option maxHeartbeats 2000000
namespace Xm
open PySem PySem.Spec PyProof.Rows L2
def dStore (kvs : List (D × D)) (k v : D) : List (D × D) := if (kvs.any fun p => decide (keyOf p.1 = keyOf k)) = true then kvs.map fun p => if keyOf p.1 = keyOf k then (p.1, v) else p else kvs ++ [(k, v)]
def dPut (kvs : List (D × D)) (k v : D) : Option (List (D × D)) := if ((atomK k && kvs.all fun p => atomK p.1) || (tupK k && kvs.all fun p => tupK p.1)) = true ∧ kvs.length < sizeLine then some (dStore kvs k v) else none
section
variable {κ : Type} [DecidableEq κ] {K : Kx} {F : Hp} {kf : κ → NestedKey}
end
section
variable {K : Kx} {F : Hp} {kvs : List (D × D)} {xs : List (NestedKey × Addr × Value)} {kd d : D} {k : NestedKey} {b : Addr} {w : Value} {v : V}
end
section
variable {X : Cx} {pins : List (Addr × Obj)} {σ : L2.St} {H F : Hp} {s : Shared} {a : Addr} {u : HO} {kvs : List (D × D)} {A : Around} {E : Value → Shared → Prop} {k d : D} {yv vv : V} {y w : Value}
end
end Xm
set_option Elab.async false
set_option linter.all false
set_option maxRecDepth 100000
set_option maxHeartbeats 2000000
namespace Xm
open PySem PySem.Spec PyProof.Rows L2
def dcC (st : AS) (i : Nat) : Option (List (D × D)) := match st[i]? with
  | some (.dct kvs) => some kvs
  | some (.pdc kvs) => some kvs
  | _ => none
def putC (st : AS) (i : Nat) (kvs : List (D × D)) : AS := match st[i]? with
  | some (.pdc _) => st.set i (.pdc kvs)
  | _ => st.set i (.dct kvs)
theorem dcC_eq {st : AS} {i : Nat} {kvs : List (D × D)} (h : dcC st i = some kvs) : (st[i]? = some (.dct kvs) ∧ ∀ ls, putC st i ls = st.set i (.dct ls)) ∨ (st[i]? = some (.pdc kvs) ∧ ∀ ls, putC st i ls = st.set i (.pdc ls)) := by
  unfold dcC at h
  unfold putC
  split at h
  · rename_i e
    cases h
    exact .inl ⟨e, fun ls => by rw [e]⟩
  · rename_i e
    cases h
    exact .inr ⟨e, fun ls => by rw [e]⟩
  · cases h
section
variable {K : Kx} {C : Ct} {F F' H H' : Hp} {st : AS} {σ : L2.St} {i : Nat} {kvs : List (D × D)} {a : Addr}
theorem dcC_lt (h : dcC st i = some kvs) : i < st.length := by
  rcases dcC_eq h with ⟨e, _⟩ | ⟨e, _⟩ <;> exact (List.getElem?_eq_some_iff.mp e).1
theorem dcC_mu (h : dcC st i = some kvs) : Mu st i := by
  rcases dcC_eq h with ⟨e, _⟩ | ⟨e, _⟩ <;> exact ⟨_, e, rfl⟩
theorem putC_len (ls : List (D × D)) : (putC st i ls).length = st.length := by
  unfold putC
  split <;> rw [List.length_set]
theorem putC_ne (ls : List (D × D)) {j : Nat} (e : j ≠ i) : (putC st i ls)[j]? = st[j]? := by
  unfold putC
  split <;> rw [List.getElem?_set_ne (Ne.symm e)]
theorem putC_mu (h : dcC st i = some kvs) (ls : List (D × D)) {j : Nat} (m : Mu (putC st i ls) j) : Mu st j := by
  by_cases e : j = i
  · subst e; exact dcC_mu h
  · unfold Mu at m ⊢
    rw [putC_ne ls e] at m
    exact m
theorem Rel.dct (R : Rel K C F st σ H) (h : dcC st i = some kvs) : ∃ a u, σ[i]? = some (some (.ref a)) ∧ (C.H0 a = none ∨ C.pen = some a) ∧ F a = none ∧ H a = some u ∧ DR K F a u kvs := by
  rcases dcC_eq h with ⟨e, _⟩ | ⟨e, _⟩
  · obtain ⟨a, h1, h2, h3, u, h4, h5⟩ := R.slot i _ e
    exact ⟨a, u, h1, .inl h2, h3, h4, h5⟩
  · obtain ⟨a, h1, h2, h3, u, h4, h5⟩ := R.slot i _ e
    exact ⟨a, u, h1, .inr h2, h3, h4, h5⟩
theorem Rel.putD {u' : HO} {kvs' : List (D × D)} (R : Rel K C F st σ H) (h : dcC st i = some kvs) (ha : σ[i]? = some (some (.ref a))) (hd : DR K F a u' kvs') : Rel K C F (putC st i kvs') σ (upd H a u') := by
  obtain ⟨b, u, h1, h2, h3, h4, h5⟩ := R.dct h
  rw [ha] at h1
  cases h1
  have hi := dcC_lt h
  refine ⟨(putC_len _).trans R.len, R.f0, fun b o e => ?_, fun b o e hp => ?_, R.new, fun j s e => ?_, fun j k b hj hk e1 e2 => R.apart j k b (putC_mu h _ hj) (putC_mu h _ hk) e1 e2, R.penh, fun p hp => ?_, R.tab.up (Same.refl _) fun P ps _ e => (upd_ne (fun z => by
    subst z
    rw [h4] at e
    rcases h5 with ⟨rows, rfl, _⟩ | ⟨qs, rfl, _⟩ <;> cases e)).trans e⟩
  · have hb : b ≠ a := fun z => by subst z; rw [h3] at e; cases e
    rw [upd_ne hb]; exact R.fh b o e
  · have hb : b ≠ a := fun z => by
      subst z
      rcases h2 with q | q
      · rw [q] at e; cases e
      · exact hp q
    rw [upd_ne hb]; exact R.old b o e hp
  · by_cases ej : j = i
    · subst ej
      rcases dcC_eq h with ⟨g, q⟩ | ⟨g, q⟩
      · rw [q, List.getElem?_set_self hi] at e
        cases e
        obtain ⟨c, k1, k2, k3⟩ := R.slot j _ g
        rw [ha] at k1
        cases k1
        exact ⟨a, ha, k2, h3, u', upd_same, hd⟩
      · rw [q, List.getElem?_set_self hi] at e
        cases e
        obtain ⟨c, k1, k2, k3⟩ := R.slot j _ g
        rw [ha] at k1
        cases k1
        exact ⟨a, ha, k2, h3, u', upd_same, hd⟩
    · rw [putC_ne _ ej] at e
      have q := R.slot j s e
      have ne : ∀ b, σ[j]? = some (some (.ref b)) → Mu st j → b ≠ a := fun b q1 m z => by
        subst z
        exact ej (R.apart j i b m (dcC_mu h) q1 ha)
      cases s with
      | no => trivial
      | dat d => exact q
      | own zs =>
        obtain ⟨b, q1, q2, q3, ws, q4, q5⟩ := q
        exact ⟨b, q1, q2, q3, ws, by rw [upd_ne (ne b q1 ⟨_, e, rfl⟩)]; exact q4, q5⟩
      | pen zs =>
        obtain ⟨b, q1, q2, q3, ws, q4, q5⟩ := q
        exact ⟨b, q1, q2, q3, ws, by rw [upd_ne (ne b q1 ⟨_, e, rfl⟩)]; exact q4, q5⟩
      | dct zs =>
        obtain ⟨b, q1, q2, q3, ws, q4, q5⟩ := q
        exact ⟨b, q1, q2, q3, ws, by rw [upd_ne (ne b q1 ⟨_, e, rfl⟩)]; exact q4, q5⟩
      | pdc zs =>
        obtain ⟨b, q1, q2, q3, ws, q4, q5⟩ := q
        exact ⟨b, q1, q2, q3, ws, by rw [upd_ne (ne b q1 ⟨_, e, rfl⟩)]; exact q4, q5⟩
      | obj o => exact q
  · by_cases e : p = a
    · subst e; rw [upd_same]; simp
    · rw [upd_ne e]; exact R.pent p hp
end
def dcV (st : AS) (i : Nat) : Option (List (D × D)) := match st[i]? with
  | some (.dct kvs) => some kvs
  | some (.pdc kvs) => some kvs
  | some (.dat (.dict kvs)) => some kvs
  | _ => none
def frz (i : Nat) : EF := fun st => match st[i]? with
  | some (.dct kvs) => some (.dict kvs, st.set i (.dat (.dict kvs)))
  | some (.dat (.dict kvs)) => some (.dict kvs, st)
  | _ => none
def putD (i : Nat) (f g : EF) : SF := fun st => (dcC st i).bind fun _ => (f st).bind fun a => (dcC a.2 i).bind fun _ => (g a.2).bind fun b => (dcC b.2 i).bind fun kvs => (dPut kvs b.1 a.1).map fun r => (.nx, putC b.2 i r)
def ixD (i : Nat) (g : EF) : EF := fun st => (dcV st i).bind fun _ => (g st).bind fun b => (dcV b.2 i).bind fun kvs => (dGet kvs b.1).bind fun o => o.map fun z => (z, b.2)
section
variable {X : Cx} {C : Ct} {pos spos : Pos} {o ix e : Expr} {f g : EF} {i : Nat}
end
section
variable {X : Cx} {C : Ct} {o e f : Expr} {apos cpos : Pos} {td ty tx : TE} {g h k : EF} {i : Nat}
end
abbrev MF := AS → Option (List (D × D) × AS)
def noPen (st : AS) (i : Nat) : Bool := match st[i]? with
  | some (.pen _) => false
  | some _ => true
  | none => false
def asgM (i : Nat) (f : MF) : SF := fun st => (f st).bind fun a => if noPen a.2 i = true then some (.nx, a.2.set i (.dct a.1)) else none
section
variable {X : Cx} {C : Ct} {pos : Pos} {o e f : Expr} {apos cpos : Pos} {g h k : EF} {m : MF} {i : Nat}
end
section
variable {X : Cx} {C : Ct} {pos : Pos} {o e f : Expr} {apos cpos : Pos} {g h k : EF} {i : Nat}
end
section
variable {st : AS} {f g h k : EF} {m : MF} {i : Nat} {kvs : List (D × D)} {QD : D → AS → Prop} {QS : Fl → AS → Prop} {QM : List (D × D) → AS → Prop}
end
section
variable {X : Cx} {C : Ct} {pos : Pos} {o e : Expr} {g : EF} {i : Nat}
end
end Xm
set_option Elab.async false
set_option linter.all false
set_option maxRecDepth 100000
set_option maxHeartbeats 2000000
namespace Xm
open PySem PySem.Spec PyProof.Rows L2
section
variable {X : Cx} {pins : List (Addr × Obj)} {σ : L2.St} {H F : Hp} {s : Shared} {a : Addr} {u : HO} {kvs : List (D × D)}
end
section
variable {X : Cx} {C : Ct} {pos p : Pos} {a b : Expr} {f g : EF}
end
section
variable {X : Cx} {o : Expr} {p pos apos mpos : Pos} {td : TE}
end
section
variable {X : Cx} {C : Ct} {o : Expr} {p pos apos mpos : Pos} {f : EF}
end
end Xm
set_option Elab.async false
set_option linter.all false
set_option maxRecDepth 100000
set_option maxHeartbeats 2000000
namespace Xm
open PySem PySem.Spec PyProof.Rows L2
section
variable {X : Cx} {C : Ct} {tg e : Expr} {td : TE} {f : EF}
end
section
variable {X : Cx}
end
section
variable {X : Cx}
end
section
variable {X : Cx}
end
section
variable {X : Cx} {C : Ct} {pos spos py : Pos} {kx vx tg iter : Expr} {ifs : List Expr} {scope : Scope} {own : List (Str × Nat)} {it : LF} {u : D → AS → Option AS} {ts : List Nat} {tt : BF} {tk tv : EF} {vs : List Nat} {i : Nat} {y : Str}
end
section
variable {X : Cx} {C : Ct} {pos p apos cpos : Pos} {o e : Expr} {g : LF}
end
end Xm
set_option Elab.async false
set_option linter.all false
set_option maxRecDepth 100000
set_option maxHeartbeats 2000000
namespace Xm
open PySem PySem.Spec PyProof.Rows L2
structure Cmp (a b : D) : Prop where
  ne : a ≠ .none
  al : PySem.W.alike a b = true
  pa : a.plain = true
  pb : b.plain = true
  da : a.depth ≤ 60
  db : b.depth ≤ 60
section
variable {X : Cx}
end
section
variable {X : Cx} {C : Ct} {pos : Pos} {a b : Expr} {f g : EF}
end
section
variable {prog : Program} {w : World} {A : Around} {E : Value → Shared → Prop} {s : Shared}
end
section
variable {X : Cx}
end
section
variable {X : Cx} {C : Ct} {pos p : Pos} {a b : Expr} {g : LF}
end
end Xm
set_option Elab.async false
set_option linter.all false
set_option maxRecDepth 100000
set_option maxHeartbeats 2000000
namespace Xm
open PySem PySem.Spec PyProof.Rows L2 PySem.W PySem.F
section
variable {prog : Program} {w : World} {A : Around} {E : Value → Shared → Prop} {s : Shared}
end
section
variable {X : Cx} {C : Ct} {pos p : Pos} {a : Expr} {f : EF}
end
end Xm
set_option Elab.async false
set_option linter.all false
set_option maxRecDepth 100000
set_option maxHeartbeats 2000000
namespace Xm
open PySem PySem.Spec PyProof.Rows L2
def retD (m : MF) : SF := fun st => (m st).map fun a => (.ret (.dct a.1), a.2)
def rvM (c : AS → Option (RV × AS)) : MF := fun st => (c st).bind fun r => match r.1 with
  | .dct kvs => some (kvs, r.2)
  | _ => none
section
variable {X : Cx} {C : Ct} {pos : Pos} {e : Expr} {m : MF}
end
section
variable {K : Kx} {C : Ct} {mf : List D → Option RV} {g : LF} {n : Nat} {σ : L2.St} {H : Hp} {Q : VK} {dvs : List V} {dds : List D} {E : XK}
end
section
variable {X : Cx} {C : Ct} {j k n m : Nat} {x : Str} {p pos : Pos} {e : Expr} {es : List Expr} {g : LF} {mf : List D → Option RV} {dds : List D}
end
def pairsF : List (D × EF) → AS → Option (List (D × D) × AS)
  | [], st => some ([], st)
  | (k, f) :: r, st => if atomK k = true then (f st).bind fun a => (pairsF r a.2).map fun b => ((k, a.1) :: b.1, b.2) else none
def dispM (ps : List (D × EF)) : MF := fun st => (pairsF ps st).bind fun a => if a.1.length ≤ 15 then some (a.1.foldl (fun acc p => dStore acc p.1 p.2) [], a.2) else none
structure AtomsAre (K : Kx) (F : Hp) (qs : List (Key × V)) (kvs : List (D × D)) : Prop where
  ks : kvs.map (·.1) = qs.map (fun p => keyD p.1)
  vs : DpAll K F (qs.map (·.2)) (kvs.map (·.2))
theorem AtomsAre.len {K : Kx} {F : Hp} {qs : List (Key × V)} {kvs : List (D × D)} (h : AtomsAre K F qs kvs) : qs.length = kvs.length := by
  have := congrArg List.length h.ks
  simpa using this.symm
inductive PsOk (X : Cx) : List (Option Expr) → List Expr → List (D × EF) → Prop
  | nil : PsOk X [] [] []
  | cons {ke ve : Expr} {ks : List (Option Expr)} {vs : List Expr} {k : D} {f : EF} {r : List (D × EF)} (hk : ∀ C : Ct, PE X ke (dOf (kxOf X) C (cst k))) (hv : ∀ C : Ct, PE X ve (dOf (kxOf X) C f)) (hr : PsOk X ks vs r) : PsOk X (some ke :: ks) (ve :: vs) ((k, f) :: r)
section
variable {X : Cx} {C : Ct} {pos : Pos} {keys : List (Option Expr)} {values : List Expr} {ps : List (D × EF)}
end
def spD (K : Kx) (n : Nat) (mf : List (D × D) → List D → Option (RV × List (D × D))) : Sp := fun vs H Q _ => vs.length = n ∧ ∃ F p vs' u kvs ds r, vs = .ref p :: vs' ∧ Same F H ∧ F p = none ∧ H p = some u ∧ DR K F p u kvs ∧ DpAll K F vs' ds ∧ mf kvs ds = some r ∧ (∀ x, r.1 ≠ .exc x) ∧
  ∀ v F' H' u', GrP p F H F' H' → F' p = none → H' p = some u' → DR K F' p u' r.2 → RvOk K H F' H' v r.1 → Q v H'
def st1D (n : Nat) (kvs : List (D × D)) (ds : List D) : AS := Slot.pdc kvs :: (ds.map Slot.dat ++ List.replicate (n - ds.length - 1) Slot.no)
section
variable {P : Program} {w : World} {K : Kx} {mg : Str → Option Value} {base : Heap} {CX : CXT} {k : Nat} {f : Addr} {fd : FuncData} {ps N : List Str} {W : WX}
end
section
variable {P : Program} {w : World} {K : PySem.W.Frag} {mg : Str → Option Value} {base : Heap} {CX : CXT} {k j : Nat} {f : Addr} {fd : FuncData} {ps N : List Str} {dvs : List V}
end
structure HasD (P : Program) (w : World) (K : PySem.W.Frag) (mg : Str → Option Value) (base : Heap) (k : Nat) (x : Str) (n : Nat) (mq : List (D × D) → List D → Option (RV × List (D × D))) : Prop where
  ex : ∃ (f : Addr) (fd : FuncData) (ps : List Str), FnG P w K mg base (CXM P w) k f fd ps (spD ⟨K, P, w, mg⟩ n mq) ∧ mg x = some (.ref f) ∧ PySem.W.keepIn K (.ref f) = true ∧ Binds K fd ps []
def callD (mf : List (D × D) → List D → Option (RV × List (D × D))) (i : Nat) (g : LF) : AS → Option (RV × AS) := fun st => (dcC st i).bind fun _ => (g st).bind fun a => (dcC a.2 i).bind fun kvs => (mf kvs a.1).map fun r => (r.1, putC a.2 i r.2)
section
variable {K : Kx} {C : Ct} {mq : List (D × D) → List D → Option (RV × List (D × D))} {g : LF} {n : Nat} {σ : L2.St} {H : Hp} {Q : VK} {E : XK}
end
section
variable {X : Cx} {C : Ct} {j k n m : Nat} {x : Str} {p pos : Pos} {e : Expr} {es : List Expr} {g : LF} {mq : List (D × D) → List D → Option (RV × List (D × D))}
end
def runD (g : SF) (N : Nat) : List (D × D) → List D → Option (RV × List (D × D)) := fun kvs ds => (g (st1D N kvs ds)).bind fun w => match w.2[0]? with
  | some (Slot.pdc ls) => (match w.1 with
    | .ret r => some (r, ls)
    | .nx => some (.val .none, ls)
    | _ => none)
  | _ => none
section
variable {st : AS} {m : MF} {i : Nat} {kvs : List (D × D)} {QS : Fl → AS → Prop} {QM : List (D × D) → AS → Prop} {QR : RV → AS → Prop} {a : LF}
end
end Xm
set_option Elab.async false
set_option linter.all false
set_option maxRecDepth 100000
set_option maxHeartbeats 2000000
namespace Xm
open PySem PySem.Spec PyProof.Rows L2
section
variable {prog : Program} {w : World} {A : Around} {E : Value → Shared → Prop} {s : Shared}
end
section
variable {prog : Program} {w : World} {A : Around} {E : Value → Shared → Prop} {s : Shared}
end
section
variable {X : Cx} {C : Ct} {pos p tpos : Pos} {elts : List Expr} {kk : Nat} {a : Expr} {f : EF}
end
section
variable {X : Cx} {C : Ct} {pos p p2 : Pos} {a : Expr} {i : Nat}
end
section
variable {X : Cx} {C : Ct} {pos p tpos : Pos} {elts : List Expr} {kk : Nat} {a : Expr} {f : EF}
end
end Xm
set_option Elab.async false
set_option linter.all false
set_option maxRecDepth 100000
set_option maxHeartbeats 2000000
namespace Xm
open PySem PySem.Spec PyProof.Rows L2
def kStr : D → Option D
  | .int i => if i.natAbs.log2 < 1920 then some (.str (toString i)) else none
  | _ => none
def kIsNotB : D → D → Option D
  | .bool a, .bool b => some (.bool (!decide (a = b)))
  | _, _ => none
section
variable {K : Kx}
theorem ok_isNotB : Ok2 K (fun x y H Q => ∃ a b, x = .bl a ∧ y = .bl b ∧ Q (.bl (!decide (a = b))) H) kIsNotB := by
  intro F H x y a b z Q fh ha hb e q
  unfold kIsNotB at e
  split at e <;> cases e
  exact ⟨_, _, dp_bl ha, dp_bl hb, q _ F H (Gr.refl fh) (.bl _)⟩
end
section
variable {X : Cx} {C : Ct} {pos p : Pos} {a b : Expr} {f g : EF}
theorem xt_isNotB (ha : PE X a (dOf (kxOf X) C f)) (hb : PE X b (dOf (kxOf X) C g)) : PT X (.Compare a [.IsNot] [b] pos) (bOf (kxOf X) C (valB (bin2 kIsNotB f g))) := xt_cmp op_isnot_bl ok_isNotB ha hb (nomark _)
end
section
variable {X : Cx}
theorem t_mul_int (l : Addr) (items : Array Value) (n : Nat) (d : Option Addr) (sl : Array (Option Value)) (x : Int) (u : Tok) (hc0 : ¬(!Builtin.List.listFitsIndex x) = true)
    (hc1 : ¬items.size * x.toNat > (2 ^ 63 - 1) / 8) (hc2 : ¬Builtin.List.listTooLong (items.size * x.toNat) = true) :
    Meets (Builtin.«list.__mul__» ⟨[.ref l, .int x u], []⟩) (fun _ R s => s.heap.get? l = some { cls := .type "list", dict := d, data := .seq items n, slots := sl } ∧ R (.ok (.ret (Value.ref s.heap.objs.size))) { s with heap := s.heap.push { cls := Value.type "list", data := Data.seq (List.foldl (fun x1 x2 => x1 ++ x2) #[] (List.replicate (if items.isEmpty = true then 0 else x.toNat) items)) }, toks := s.toks }) :=
  .of_wp fun prog w A R s h => by
    obtain ⟨hp, g, d, tk, os⟩ := s; obtain ⟨hl, h⟩ := h
    have hsz := AutoListH.joined_fits hc2
    wp_walk; refine wpAny_ite_false (decide_eq_false (Nat.not_lt.mpr hsz)) ?_; wp_walk; exact ⟨_, rfl, h⟩
theorem t_rmul_int (a : Int) (t : Tok) (l : Addr) (items : Array Value) (n : Nat) (d : Option Addr) (sl : Array (Option Value)) :
    Meets (Builtin.«int.__rmul__» ⟨[.int a t, .ref l], []⟩) (fun _ R s => s.heap.get? l = some { cls := .type "list", dict := d, data := .seq items n, slots := sl } ∧ R (.ok (.ret Value.notImplemented)) s) :=
  .of_wp fun prog w A R s h => by obtain ⟨hp, g, d, tk, os⟩ := s; obtain ⟨hl, h⟩ := h; wp_walk; exact ⟨_, rfl, h⟩
def rRepL (K : PySem.W.Frag) : R2 := fun x y H Q => ∃ l k xs, x = .ref l ∧ y = .int k ∧ SqL K H l xs ∧ 0 ≤ k ∧ k ≤ 1000 ∧ xs.length ≤ 1000 ∧ ∀ p, H p = none → Q (.ref p) (upd H p (.lst (List.replicate k.toNat xs).flatten))
theorem op_repL : OpR X (binaryOp .Mult) (rRepL X.K) := by
  intro pins s σ H x y v u Q I rx ry h
  obtain ⟨l, k, xs, rfl, rfl, hs, h1, h2, hz, q⟩ := h
  cases rx
  obtain ⟨t, rfl⟩ := ry
  obtain ⟨its, rv, ⟨⟨cls, dd, data, sl⟩, n, ho, hc, hdn, hd⟩, hlen⟩ := I.list hs
  have hc1 : cls = Value.type "list" := hc
  have hd1 : data = Data.seq its.toArray n := hd
  subst hc1 hd1
  have hsl := sizeLine_eq
  have hm : its.toArray.size * k.toNat ≤ 1000 * 1000 := by
    rw [List.size_toArray, ← rv.length]
    exact Nat.mul_le_mul hz (by omega)
  have hcap : ¬ its.toArray.size * k.toNat > (2 ^ 63 - 1) / 8 := by omega
  have hfit : ¬ (!Builtin.List.listFitsIndex k) = true := by
    rw [fitsIndex_both (by omega) (by omega)]
    exact Bool.false_ne_true
  have hlong : ¬ Builtin.List.listTooLong (its.toArray.size * k.toNat) = true := by
    rw [notLongL (by omega)]
    exact Bool.false_ne_true
  have hnew : List.foldl (fun x1 x2 => x1 ++ x2) #[] (List.replicate (if its.toArray.isEmpty = true then 0 else k.toNat) its.toArray) = (List.replicate k.toNat its).flatten.toArray := by
    have f0 : ∀ m : Nat, List.foldl (fun x1 x2 => x1 ++ x2) #[] (List.replicate m its.toArray) = (List.replicate m its).flatten.toArray := fun m => by
      have := foldl_rep its m []
      rw [List.nil_append] at this
      exact this
    rw [f0]
    cases its with
    | nil => simp
    | cons a r' => rw [if_neg (by simp)]
  refine wpAny_binaryOp_repeat_ref (T := "list") (U := "int") (by decide) ⟨_, ho, rfl⟩ (fun s' => typeIs_int s' k t) noFill_list_mul F.fills_int_mul F.slot_int_rmul repeat_list F.slot_int_index.lookup
    (call_meets F.slot_int_rmul (typeIs_int s k t) F.entry_int_rmul (F.args_int_rmul_2 _ _) (t_rmul_int k t l its.toArray n dd sl)
      ⟨ho, rfl, ⟨_, ho, rfl⟩, call_meets F.slot_list_mul ⟨_, ho, rfl⟩ F.entry_list_mul (F.args_list_mul_2 _ _) (t_mul_int l its.toArray n dd sl k t hfit hcap hlong) ⟨ho, ?_⟩⟩)
  rw [hnew]
  have hlr : (List.replicate k.toNat xs).flatten.length ≤ sizeLine := by
    rw [PyProof.Rows.lm_len_rep_flat, Nat.mul_comm]
    have := rv.length
    rw [List.size_toArray] at hm
    rw [this]
    omega
  exact ⟨.ref s.heap.objs.size, upd H s.heap.objs.size (.lst (List.replicate k.toNat xs).flatten), I.laid (t' := s.toks) (fun b o e => Heap.get?_push_of_some _ e) (Nat.le_refl _) ⟨hlr, _, 0, rv.rep k.toNat, Heap.get?_push_size _ rfl⟩, rfl, q _ (I.hok.fresh (Nat.le_refl _))⟩
end
def kMulL : D → D → Option D
  | .list xs, .int k => if 0 ≤ k ∧ k ≤ 1000 ∧ xs.length ≤ 1000 then some (.list (List.replicate k.toNat xs).flatten) else none
  | _, _ => none
theorem ok_mulL {K : Kx} : Ok2 K (rRepL K.K) kMulL := by
  intro F H x y a b z Q fh ha hb e q
  unfold kMulL at e
  split at e
  · split at e <;> cases e
    rename_i h
    obtain ⟨h1, h2, h3⟩ := h
    cases ha with
    | lst hs hv =>
      exact ⟨_, _, _, rfl, dp_int hb, sql_up fh hs, h1, h2, by rw [DpAll_len hv]; exact h3, fun p hp => q _ _ _ (Gr.new fh hp) (.lst (.inl (.inl upd_same)) (DpAll_up (dpa_rep hv _) (same_upd (fh.free hp))))⟩
  · cases e
section
variable {X : Cx} {C : Ct} {pos : Pos} {a b : Expr} {f g : EF}
theorem xd_mulL (ha : PE X a (dOf (kxOf X) C f)) (hb : PE X b (dOf (kxOf X) C g)) : PE X (.BinOp a .Mult b pos) (dOf (kxOf X) C (bin2 kMulL f g)) := xd_op op_repL ok_mulL ha hb
end
end Xm
set_option Elab.async false
set_option linter.all false
set_option maxRecDepth 100000
set_option maxHeartbeats 2000000
namespace DwD
open PySem PySem.Spec PyProof.Rows L2 Xm
noncomputable section
def g_law_pen : SF := (retD (dispM [((.str (PySem.Str.ofString "cells")), (cutF (rd 0) noO (someO (cst (.int 63))))), ((.str (PySem.Str.ofString "at")), (cst (.int 0))), ((.str (PySem.Str.ofString "left")), (cst (.int 0)))]))
def mf_law_pen := runP g_law_pen 1
def g_law_take : SF := (seqS (asgS 2 (ixD 0 (cst (.str (PySem.Str.ofString "cells"))))) (seqS (ifS (valB (bin2 kGt (ixD 0 (cst (.str (PySem.Str.ofString "left")))) (cst (.int 0)))) (seqS (asgS 6 (bin2 kMod (ixD 0 (cst (.str (PySem.Str.ofString "left")))) (rd 1))) (seqS (putD 0 (bin2 kDiv (ixD 0 (cst (.str (PySem.Str.ofString "left")))) (rd 1)) (cst (.str (PySem.Str.ofString "left")))) (retS (rd 6)))) skipS) (seqS (asgS 3 (ixD 0 (cst (.str (PySem.Str.ofString "at"))))) (seqS (putD 0 (bin2 kCat (rd 3) (cst (.int 1))) (cst (.str (PySem.Str.ofString "at")))) (seqS (asgS 4 (bin2 kCat (bin2 kCat (bin2 kMul (bin2 kMul (cst (.int 20021)) (rd 3)) (rd 3)) (bin2 kMul (cst (.int 113)) (rd 3))) (cst (.int 43)))) (seqS (ifS (valB (bin2 kLt (rd 3) (un1 kLen (rd 2)))) (seqS (asgS 4 (bin2 kIx (rd 2) (rd 3))) (ifS (valB (bin2 kGe (un1 kAbs (rd 4)) (bin2 kPow (cst (.int 10)) (cst (.int 18))))) (seqS (putD 0 (bin2 kDiv (un1 kAbs (rd 4)) (rd 1)) (cst (.str (PySem.Str.ofString "left")))) (retS (bin2 kMod (un1 kAbs (rd 4)) (rd 1)))) skipS)) (ifS (valB (bin2 kGt (un1 kLen (rd 2)) (cst (.int 0)))) (asgS 4 (bin2 kCat (bin2 kMod (bin2 kIx (rd 2) (bin2 kMod (rd 3) (un1 kLen (rd 2)))) (bin2 kPow (cst (.int 10)) (cst (.int 17)))) (bin2 kMul (cst (.int 50051)) (rd 3)))) skipS)) (seqS (asgS 5 (bin2 kMod (bin2 kMul (bin2 kCat (bin2 kCat (bin2 kMod (rd 4) (cst (.int 2147483563))) (bin2 kMul (cst (.int 39041)) (rd 3))) (cst (.int 31))) (cst (.int 69621))) (cst (.int 2147483629)))) (seqS (asgS 5 (bin2 kMod (bin2 kCat (bin2 kMul (rd 5) (bin2 kCat (bin2 kMod (rd 5) (cst (.int 65423))) (cst (.int 13)))) (bin2 kMul (cst (.int 48271)) (rd 3))) (cst (.int 2147483587)))) (retS (bin2 kMod (bin2 kDiv (bin2 kMod (bin2 kMul (rd 5) (bin2 kCat (bin2 kMod (rd 5) (cst (.int 9901))) (cst (.int 5)))) (cst (.int 2147483549))) (cst (.int 64))) (rd 1)))))))))))
def mq_law_take := runD g_law_take 7
end
abbrev penD (cs : List Int) (u r : Int) : List (D × D) := [(.str (PySem.Str.ofString "cells"), .list (cs.map PyData.int)), (.str (PySem.Str.ofString "at"), .int u), (.str (PySem.Str.ofString "left"), .int r)]
def PenD (n : Nat) (kvs : List (D × D)) : Prop := ∃ cs u r, kvs = penD cs u r ∧ 0 ≤ u ∧ u ≤ n ∧ 0 ≤ r
theorem PenD.mono {j k : Nat} {xs : List (D × D)} (h : PenD j xs) (l : j ≤ k) : PenD k xs := by
  obtain ⟨cs, u, r, e, h1, h2, h3⟩ := h
  exact ⟨cs, u, r, e, h1, by omega, h3⟩
section
variable {cs : List Int} {u r z : Int}
end
end DwD
set_option Elab.async false
set_option linter.all false
set_option maxRecDepth 100000
set_option maxHeartbeats 2000000
namespace DwD
open PySem PySem.Spec PyProof.Rows L2 Xm
theorem wp_loopR {QS : Fl → AS → Prop} {u : D → AS → Option AS} {b : SF} {k : Nat} (I : Nat → AS → Prop) (hs : ∀ j s, j < k → I j s → ∃ s1, u (.int (j : Int)) s = some s1 ∧ Wp b s1 fun fl s2 => match fl with
    | .nx => I (j + 1) s2
    | .cont => I (j + 1) s2
    | .brk => QS .nx s2
    | .ret r => QS (.ret r) s2) (he : ∀ s, I k s → QS .nx s) (s : AS) (h : I 0 s) : Wp (loopS u b (rngD 0 (k : Int))) s QS := by
  have hr : rngD 0 (k : Int) = (List.range' 0 k).map fun i : Nat => PyData.int i := by
    unfold rngD
    rw [List.range_eq_range']
    simp
  rw [hr]
  refine wp_loop (fun ds s => ∃ j, j ≤ k ∧ ds = (List.range' j (k - j)).map (fun i : Nat => PyData.int i) ∧ I j s) ?_ ?_ _ _ ⟨0, by omega, by simp, h⟩
  · rintro d ds s ⟨j, hj, e, hI⟩
    by_cases hk : j < k
    · rw [show k - j = (k - (j + 1)) + 1 by omega, List.range'_succ, List.map_cons] at e
      obtain ⟨rfl, rfl⟩ := List.cons.inj e
      obtain ⟨s1, e1, fl, s2, e2, q⟩ := hs j s hk hI
      refine ⟨s1, e1, fl, s2, e2, ?_⟩
      cases fl with
      | nx => exact ⟨j + 1, by omega, rfl, q⟩
      | cont => exact ⟨j + 1, by omega, rfl, q⟩
      | brk => exact q
      | ret r => exact q
    · rw [show k - j = 0 by omega] at e
      cases e
  · rintro s ⟨j, hj, e, hI⟩
    have hl := congrArg List.length e
    rw [List.length_map, List.length_range', List.length_nil] at hl
    rw [show j = k by omega] at hI
    exact he s hI
theorem cut_ints (ns : List Int) : cutX (ns.map PyData.int) none (some 63) = (ns.take 63).map PyData.int := by
  rw [show (63 : Int) = ((63 : Nat) : Int) from rfl, cut_take, List.map_take]
end DwD
set_option Elab.async false
set_option linter.all false
set_option maxRecDepth 100000
set_option maxHeartbeats 4000000
namespace DwD
open PySem PySem.Spec PyProof.Rows L2 Xm
noncomputable section
def g_is_whole : SF := (retS (boolE (andB (valB (un1 (kIsa "int") (rd 0))) (valB (boolE (notB (valB (un1 (kIsa "bool") (rd 0)))))))))
def mf_is_whole := runP g_is_whole 1
theorem e_is_whole : ∀ ds r, ds.length = 1 → mf_is_whole ds = some r → Leaves g_is_whole (st0 1 ds) r fun _ => True := runP_ok
def g_law_pick : SF := (retS (bin2 kIx (rd 1) (rvD (callD mq_law_take 0 (consA (un1 kLen (rd 1)) nilA)))))
def mq_law_pick := runD g_law_pick 2
def g_law_odd : SF := (seqS (asgS 2 (lstF (consA (cst .none) (consA (cst (.bool true)) (consA (cst (.bool false)) (consA (cst (.int 0)) (consA (cst (.int 1)) (consA (un1 kNeg (cst (.int 1))) (consA (cst (.int 2)) (consA (cst (.int 3)) (consA (cst (.int 9)) (consA (bin2 kPow (cst (.int 10)) (cst (.int 60))) (consA (cst (.str (PySem.Str.ofString ""))) (consA (cst (.str (PySem.Str.ofString "a"))) (consA (lstF nilA) (consA (tupF nilA) (consA (cst (.dict [])) (consA (tupF (consA (cst (.int 0)) (consA (cst (.int 1)) nilA))) (consA (tupF (consA (cst (.int 1)) (consA (cst (.int 2)) nilA))) (consA (tupF (consA (cst (.int 1)) (consA (cst (.int 1)) nilA))) (consA (tupF (consA (cst (.int 2)) (consA (cst (.int 4)) nilA))) nilA))))))))))))))))))))) (seqS (asgS 2 (bin2 kCat (rd 2) (lstF (consA (tupF (consA (cst (.int 0)) (consA (cst (.int 0)) nilA))) (consA (tupF (consA (cst (.int 1)) (consA (cst (.int 0)) nilA))) (consA (tupF (consA (un1 kNeg (cst (.int 1))) (consA (cst (.int 2)) nilA))) (consA (tupF (consA (cst (.int 3)) (consA (cst (.int 4)) nilA))) (consA (lstF (consA (rd 1) nilA)) (consA (tupF (consA (rd 1) nilA)) (consA (tupF (consA (rd 1) (consA (rd 1) nilA))) (consA (tupF (consA (tupF (consA (cst (.int 0)) (consA (cst (.int 1)) nilA))) nilA)) (consA (tupF (consA (tupF (consA (cst (.int 1)) (consA (cst (.int 0)) nilA))) nilA)) (consA (tupF (consA (cst (.int 1)) (consA (cst (.int 2)) (consA (cst (.int 3)) nilA)))) nilA))))))))))))) (seqS (ifS (andB (valB (un1 (kIsa "int") (rd 1))) (notB (valB (un1 (kIsa "bool") (rd 1))))) (asgS 2 (bin2 kCat (rd 2) (lstF (consA (bin2 kCat (rd 1) (cst (.int 1))) (consA (bin2 kSub (rd 1) (cst (.int 1))) (consA (bin2 kCat (rd 1) (cst (.int 1))) (consA (bin2 kSub (rd 1) (cst (.int 1))) (consA (bin2 kEq (rd 1) (cst (.int 1))) (consA (un1 kStr (rd 1)) nilA))))))))) skipS) (seqS (ifS (valB (un1 (kIsa "tuple") (rd 1))) (asgS 2 (bin2 kCat (rd 2) (lstF (consA (un1 kList (rd 1)) (consA (bin2 kCat (rd 1) (rd 1)) (consA (revA (rd 1)) (consA (bin2 kCat (rd 1) (tupF (consA (cst (.int 0)) nilA))) (consA (cutF (rd 1) noO (someO (un1 kNeg (cst (.int 1))))) (consA (cutF (rd 1) noO (someO (un1 kNeg (cst (.int 1))))) (consA (bin2 kCat (rd 1) (cutF (rd 1) (someO (un1 kNeg (cst (.int 1)))) noO)) nilA)))))))))) skipS) (retS (rvD (callD mq_law_pick 0 (consA (rd 2) nilA))))))))
def mq_law_odd := runD g_law_odd 3
def g_law_bent (mq_law_bent : List (D × D) → List D → Option (RV × List (D × D))) : SF := (seqS (ifS (andB (valB (un1 (kIsa "tuple") (rd 1))) (andB (valB (bin2 kNe (rd 1) (tupF nilA))) (andB (valB (bin2 kGt (rd 2) (cst (.int 0)))) (valB (bin2 kGt (rvD (callD mq_law_take 0 (consA (cst (.int 5)) nilA))) (cst (.int 0))))))) (seqS (asgS 3 (rvD (callD mq_law_take 0 (consA (un1 kLen (rd 1)) nilA)))) (retS (bin2 kCat (bin2 kCat (cutF (rd 1) noO (someO (rd 3))) (tupF (consA (rvD (callD mq_law_bent 0 (consA (bin2 kIx (rd 1) (rd 3)) (consA (bin2 kSub (rd 2) (cst (.int 1))) nilA)))) nilA))) (cutF (rd 1) (someO (bin2 kCat (rd 3) (cst (.int 1)))) noO)))) skipS) (retS (rvD (callD mq_law_odd 0 (consA (rd 1) nilA)))))
def mqr_law_bent : Nat → List (D × D) → List D → Option (RV × List (D × D))
  | 0 => fun _ _ => none
  | k + 1 => runD (g_law_bent (mqr_law_bent k)) 4
def mq_law_bent := mqr_law_bent 8
end
structure RkE (k n : Nat) (d : D) : Prop where
  sh : d.showable = true
  cl : tupE d = true
  dp : d.depth ≤ k
  sz : d.shown.length ≤ n
theorem RkE.mono {j k m n : Nat} {d : D} (h : RkE j m d) (l : j ≤ k) (l2 : m ≤ n) : RkE k n d := ⟨h.sh, h.cl, Nat.le_trans h.dp l, Nat.le_trans h.sz l2⟩
theorem rke_all {k n : Nat} : ∀ {ds : List D}, (∀ d ∈ ds, RkE k n d) → PyData.showableAll ds = true ∧ tupEs ds = true ∧ PyData.depthAll ds ≤ k ∧ ((PyData.shownAll ds).map (·.length)).sum ≤ ds.length * n ∧ (PyData.shownAll ds).length = ds.length
  | [], _ => ⟨rfl, rfl, Nat.zero_le k, by simp [PyData.shownAll], rfl⟩
  | d :: ds, h => by
    have h1 := h d (.head _)
    obtain ⟨a1, a2, a3, a4, a5⟩ := rke_all (fun x hx => h x (.tail _ hx))
    refine ⟨by simp [PyData.showableAll, h1.sh, a1], by simp [tupEs, h1.cl, a2], by simpa [PyData.depthAll] using Nat.max_le.mpr ⟨h1.dp, a3⟩, ?_, by simp [PyData.shownAll, a5]⟩
    have := h1.sz
    simp only [PyData.shownAll, List.map_cons, List.sum_cons, List.length_cons, Nat.add_mul, Nat.one_mul]
    omega
theorem RkE.tuple {k n : Nat} {ds : List D} (h : ∀ d ∈ ds, RkE k n d) : RkE (k + 1) (ds.length * n + 2 * ds.length + 3) (.tuple ds) := by
  obtain ⟨a1, a2, a3, a4, a5⟩ := rke_all h
  refine ⟨by simpa [PyData.showable] using a1, by simpa [tupE] using a2, by simp [PyData.depth, a3], ?_⟩
  have := tupleText_len_le (PyData.shownAll ds)
  simp only [PyData.shown]
  omega
mutual
def lim : D → Bool
  | .int i => decide (i.natAbs < 2 ^ 240)
  | .list ds => limAll ds
  | .tuple ds => decide (ds.length ≤ 50) && limAll ds
  | .none | .bool _ | .str _ | .dict _ => true
def limAll : List D → Bool
  | [] => true
  | d :: ds => lim d && limAll ds
end
theorem limAll_iff : ∀ {ds : List D}, limAll ds = true ↔ ∀ d ∈ ds, lim d = true
  | [] => ⟨fun _ _ h => (nomatch h), fun _ => rfl⟩
  | d :: ds => by
    rw [show limAll (d :: ds) = (lim d && limAll ds) from rfl, Bool.and_eq_true, limAll_iff (ds := ds), List.forall_mem_cons]
theorem lim_t {ds : List D} (hl : ds.length ≤ 50) (h : ∀ d ∈ ds, lim d = true) : lim (.tuple ds) = true := by
  show (decide (ds.length ≤ 50) && limAll ds) = true
  rw [decide_eq_true hl, limAll_iff.mpr h]
  rfl
def Bo (k n : Nat) (d : D) : Prop := Rk k n d ∧ RkE k n d ∧ lim d = true
def Gd (k n : Nat) (d : D) : Prop := (Rk k n d ∨ RkE k n d) ∧ lim d = true
theorem Bo.gd {k n : Nat} {d : D} (h : Bo k n d) : Gd k n d := ⟨.inl h.1, h.2.2⟩
theorem Bo.mono {j k m n : Nat} {d : D} (h : Bo j m d) (l : j ≤ k) (l2 : m ≤ n) : Bo k n d := ⟨h.1.mono l l2, h.2.1.mono l l2, h.2.2⟩
theorem Gd.mono {j k m n : Nat} {d : D} (h : Gd j m d) (l : j ≤ k) (l2 : m ≤ n) : Gd k n d := ⟨h.1.elim (fun h => .inl (h.mono l l2)) fun h => .inr (h.mono l l2), h.2⟩
theorem Bo.tuple {k n : Nat} {ds : List D} (h : ∀ d ∈ ds, Bo k n d) (hl : ds.length ≤ 50 := by first | omega | (simp; done) | (simp; omega)) : Bo (k + 1) (ds.length * n + 2 * ds.length + 3) (.tuple ds) := ⟨.tuple fun d hd => (h d hd).1, .tuple fun d hd => (h d hd).2.1, lim_t hl fun d hd => (h d hd).2.2⟩
theorem Gd.tuple {k n : Nat} {a b : List D} {x : D} (ha : ∀ d ∈ a, Bo k n d) (hx : Gd k n x) (hb : ∀ d ∈ b, Bo k n d) (hl : (a ++ [x] ++ b).length ≤ 50 := by simp; omega) : Gd (k + 1) ((a ++ [x] ++ b).length * n + 2 * (a ++ [x] ++ b).length + 3) (.tuple (a ++ [x] ++ b)) := by
  refine ⟨?_, lim_t hl fun d hd => ?_⟩
  · rcases hx.1 with hx | hx
    · refine .inl (.tuple fun d hd => ?_)
      rcases List.mem_append.mp hd with hd | hd
      · rcases List.mem_append.mp hd with hd | hd
        · exact (ha d hd).1
        · rw [List.mem_singleton.mp hd]; exact hx
      · exact (hb d hd).1
    · refine .inr (.tuple fun d hd => ?_)
      rcases List.mem_append.mp hd with hd | hd
      · rcases List.mem_append.mp hd with hd | hd
        · exact (ha d hd).2.1
        · rw [List.mem_singleton.mp hd]; exact hx
      · exact (hb d hd).2.1
  · rcases List.mem_append.mp hd with hd | hd
    · rcases List.mem_append.mp hd with hd | hd
      · exact (ha d hd).2.2
      · rw [List.mem_singleton.mp hd]; exact hx.2
    · exact (hb d hd).2.2
theorem pick_memT {l : List D} {i : Int} (h0 : 0 ≤ i) (h1 : i < l.length) : ∃ b, b ∈ l ∧ kIx (.tuple l) (.int i) = some b := by
  have h3 : i.toNat < l.length := by omega
  refine ⟨l[i.toNat], List.getElem_mem _, ?_⟩
  have := at_n (n := i.toNat) (xs := l) (x := l[i.toNat]) (List.getElem?_eq_getElem h3)
  rw [Int.toNat_of_nonneg h0] at this
  exact this
theorem pick_memL {l : List D} {i : Int} (h0 : 0 ≤ i) (h1 : i < l.length) : ∃ b, b ∈ l ∧ kIx (.list l) (.int i) = some b := pick_memT h0 h1
theorem Bo.shaped {k n : Nat} {d : D} (h : Bo k n d) (hk : k ≤ 64) : SeqAt.shaped d = true := by
  unfold SeqAt.shaped
  rw [h.1.cl, decide_eq_true (Nat.le_trans h.1.dp hk)]
  rfl
end DwD
set_option Elab.async false
set_option linter.all false
set_option maxRecDepth 100000
set_option maxHeartbeats 4000000
namespace DwD
open PySem PySem.Spec PyProof.Rows L2 Xm
end DwD
set_option Elab.async false
set_option linter.all false
set_option maxRecDepth 100000
set_option maxHeartbeats 4000000
namespace DwD
open PySem PySem.Spec PyProof.Rows L2 Xm
def isW : D → Bool
  | .int _ => true
  | _ => false
theorem m_is_whole (d : D) : mf_is_whole [d] = some (.val (.bool (isW d))) := by
  cases d <;> rfl
end DwD
set_option Elab.async false
set_option linter.all false
set_option maxRecDepth 100000
namespace Xm
open PySem PySem.Spec PyProof.Rows L2
def g_total : SF := (seqS (asgS 1 (cst (.tuple [(.int 0), (.int 1)]))) (seqS (forS (itD (rd 0)) (setD 2) (asgS 1 (rvD (callP mf_plus [] (consA (rd 1) (consA (rd 2) nilA)))))) (retS (rd 1))))
def mf_total := runP g_total 3
end Xm
set_option Elab.async false
set_option linter.all false
set_option maxRecDepth 100000
namespace K07
open PySem PySem.Spec PyProof.Rows L2 Xm DwD
noncomputable section
def g_law_common : SF := (seqS (clrS [1] (whileS (valB (bin2 kNe (rd 1) (cst (.int 0)))) (par2 0 1 (consA (rd 1) (consA (bin2 kMod (rd 0) (rd 1)) nilA))) msAll)) (retS (un1 kAbs (rd 0))))
def mf_law_common := runP g_law_common 2
theorem e_law_common : ∀ ds r, ds.length = 2 → mf_law_common ds = some r → Leaves g_law_common (st0 2 ds) r fun _ => True := runP_ok
def g_is_share : SF := (seqS (ifS (orB (notB (valB (un1 (kIsa "tuple") (rd 0)))) (orB (valB (bin2 kNe (un1 kLen (rd 0)) (cst (.int 2)))) (orB (notB (valB (rvD (callP mf_is_whole [] (consA (bin2 kIx (rd 0) (cst (.int 0))) nilA))))) (notB (valB (rvD (callP mf_is_whole [] (consA (bin2 kIx (rd 0) (cst (.int 1))) nilA)))))))) (retS (cst (.bool false))) skipS) (retS (boolE (andB (valB (bin2 kGt (bin2 kIx (rd 0) (cst (.int 1))) (cst (.int 0)))) (valB (bin2 kEq (rvD (callP mf_common [] (consA (bin2 kIx (rd 0) (cst (.int 0))) (consA (bin2 kIx (rd 0) (cst (.int 1))) nilA)))) (cst (.int 1))))))))
def mf_is_share := runP g_is_share 1
theorem e_is_share : ∀ ds r, ds.length = 1 → mf_is_share ds = some r → Leaves g_is_share (st0 1 ds) r fun _ => True := runP_ok
def g_law_share : SF := (seqS (asgS 2 (rvD (callP mf_law_common [] (consA (rd 0) (consA (rd 1) nilA))))) (retS (tupF (consA (bin2 kDiv (rd 0) (rd 2)) (consA (bin2 kDiv (rd 1) (rd 2)) nilA)))))
def mf_law_share := runP g_law_share 3
theorem e_law_share : ∀ ds r, ds.length = 2 → mf_law_share ds = some r → Leaves g_law_share (st0 3 ds) r fun _ => True := runP_ok
def g_law_bottom : SF := (retS (bin2 kIx (lstF (consA (cst (.int 2)) (consA (cst (.int 4)) (consA (bin2 kCat (cst (.int 3)) (rvD (callD mq_law_take 0 (consA (cst (.int 10)) nilA)))) (consA (bin2 kCat (cst (.int 3)) (rvD (callD mq_law_take 0 (consA (cst (.int 9997)) nilA)))) (consA (cst (.int 9999)) nilA)))))) (rvD (callD mq_law_take 0 (consA (cst (.int 5)) nilA)))))
def mq_law_bottom := runD g_law_bottom 1
def g_law_is_share : SF := (seqS (ifS (orB (notB (valB (un1 (kIsa "tuple") (rd 0)))) (valB (bin2 kNe (un1 kLen (rd 0)) (cst (.int 2))))) (retS (cst (.bool false))) skipS) (seqS (forS (itD (rd 0)) (setD 1) (clrS [1] (ifS (orB (notB (valB (un1 (kIsa "int") (rd 1)))) (valB (un1 (kIsa "bool") (rd 1)))) (retS (cst (.bool false))) skipS))) (retS (boolE (andB (valB (bin2 kGt (bin2 kIx (rd 0) (cst (.int 1))) (cst (.int 0)))) (valB (bin2 kEq (rvD (callP mf_law_common [] (consA (bin2 kIx (rd 0) (cst (.int 0))) (consA (bin2 kIx (rd 0) (cst (.int 1))) nilA)))) (cst (.int 1)))))))))
def mf_law_is_share := runP g_law_is_share 2
theorem e_law_is_share : ∀ ds r, ds.length = 1 → mf_law_is_share ds = some r → Leaves g_law_is_share (st0 2 ds) r fun _ => True := runP_ok
def g_is_gap : SF := (retS (boolE (andB (valB (rvD (callP mf_is_share [] (consA (rd 0) nilA)))) (andB (valB (bin2 kGe (bin2 kIx (rd 0) (cst (.int 0))) (cst (.int 0)))) (valB (boolE (notB (valB (rvD (callP mf_is_less [] (consA (cst (.tuple [(.int 1), (.int 2)])) (consA (rd 0) nilA))))))))))))
def mf_is_gap := runP g_is_gap 1
def g_law_mark : SF := (seqS (asgS 2 (rvD (callD mq_law_bottom 0 nilA))) (seqS (ifS (andB (valB (rd 1)) (valB (bin2 kGt (rd 2) (cst (.int 2))))) (seqS (asgS 3 (bin2 kCat (cst (.int 1)) (rvD (callD mq_law_take 0 (consA (bin2 kSub (rd 2) (cst (.int 2))) nilA))))) (seqS (asgS 4 (bin2 kCat (cst (.int 1)) (rvD (callD mq_law_take 0 (consA (bin2 kSub (bin2 kSub (rd 2) (rd 3)) (cst (.int 1))) nilA))))) (retS (tupF (consA (rvD (callP mf_law_share [] (consA (rd 3) (consA (rd 2) nilA)))) (consA (rvD (callP mf_law_share [] (consA (rd 4) (consA (rd 2) nilA)))) (consA (rvD (callP mf_law_share [] (consA (bin2 kSub (bin2 kSub (rd 2) (rd 3)) (rd 4)) (consA (rd 2) nilA)))) nilA))))))) skipS) (seqS (asgS 3 (bin2 kCat (cst (.int 1)) (rvD (callD mq_law_take 0 (consA (bin2 kSub (rd 2) (cst (.int 1))) nilA))))) (retS (tupF (consA (rvD (callP mf_law_share [] (consA (rd 3) (consA (rd 2) nilA)))) (consA (rvD (callP mf_law_share [] (consA (bin2 kSub (rd 2) (rd 3)) (consA (rd 2) nilA)))) nilA)))))))
def mq_law_mark := runD g_law_mark 5
def g_law_is_track : SF := (seqS (ifS (orB (notB (valB (un1 (kIsa "tuple") (rd 0)))) (valB (bin2 kNe (un1 kLen (rd 0)) (cst (.int 2))))) (retS (cst (.bool false))) skipS) (seqS (ifS (orB (notB (valB (un1 (kIsa "tuple") (bin2 kIx (rd 0) (cst (.int 0)))))) (orB (notB (valB (un1 (kIsa "tuple") (bin2 kIx (rd 0) (cst (.int 1)))))) (notB (valB (chE kLe kLe (cst (.int 1)) (un1 kLen (bin2 kIx (rd 0) (cst (.int 0)))) (cst (.int 3))))))) (retS (cst (.bool false))) skipS) (seqS (forS (itD (bin2 kIx (rd 0) (cst (.int 0)))) (setD 1) (clrS [1, 2] (seqS (ifS (orB (notB (valB (un1 (kIsa "tuple") (rd 1)))) (valB (bin2 kNotIn (un1 kLen (rd 1)) (tupF (consA (cst (.int 2)) (consA (cst (.int 3)) nilA)))))) (retS (cst (.bool false))) skipS) (seqS (ifS (valB (bin2 kNe (listE (compR (itD (rd 1)) (setD 3) (orB (notB (valB (rvD (callP mf_law_is_share [] (consA (rd 3) nilA))))) (valB (bin2 kLt (bin2 kIx (rd 3) (cst (.int 0))) (cst (.int 1))))) (cst (.int 1)) [3])) (lstF nilA))) (retS (cst (.bool false))) skipS) (seqS (asgS 2 (cst (.int 1))) (seqS (forS (itD (rd 1)) (setD 3) (asgS 2 (bin2 kMul (rd 2) (bin2 kIx (rd 3) (cst (.int 1)))))) (ifS (valB (bin2 kNe (un1 kSum (listE (compR (itD (rd 1)) (setD 3) yesB (bin2 kMul (bin2 kIx (rd 3) (cst (.int 0))) (bin2 kDiv (rd 2) (bin2 kIx (rd 3) (cst (.int 1))))) [3]))) (rd 2))) (retS (cst (.bool false))) skipS))))))) (seqS (ifS (valB (bin2 kNe (listE (compR (itD (bin2 kIx (rd 0) (cst (.int 1)))) (setD 3) (orB (notB (valB (rvD (callP mf_law_is_share [] (consA (rd 3) nilA))))) (notB (valB (chE kLe kLe (cst (.int 0)) (bin2 kMul (cst (.int 2)) (bin2 kIx (rd 3) (cst (.int 0)))) (bin2 kIx (rd 3) (cst (.int 1))))))) (cst (.int 1)) [3])) (lstF nilA))) (retS (cst (.bool false))) skipS) (retS (bin2 kEq (un1 kLen (bin2 kIx (rd 0) (cst (.int 1)))) (bin2 kSub (un1 kLen (bin2 kIx (rd 0) (cst (.int 0)))) (cst (.int 1)))))))))
def mf_law_is_track := runP g_law_is_track 4
def g_law_track : SF := (seqS (asgS 2 (listE (compR (itR1 (bin2 kCat (cst (.int 1)) (rvD (callD mq_law_take 0 (consA (rd 1) nilA))))) (setD 4) yesB (rvD (callD mq_law_mark 0 (consA (bin2 kEq (rvD (callD mq_law_take 0 (consA (cst (.int 3)) nilA))) (cst (.int 0))) nilA))) [4]))) (seqS (asgN 3 (newF nilA)) (seqS (forS (itR1 (bin2 kSub (un1 kLen (rd 2)) (cst (.int 1)))) (setD 4) (clrS [4, 5, 6] (seqS (asgS 5 (rvD (callD mq_law_bottom 0 nilA))) (seqS (asgS 6 (bin2 kIx (lstF (consA (cst (.int 0)) (consA (bin2 kDiv (rd 5) (cst (.int 2))) (consA (rvD (callD mq_law_take 0 (consA (bin2 kCat (bin2 kDiv (rd 5) (cst (.int 2))) (cst (.int 1))) nilA))) (consA (rvD (callD mq_law_take 0 (consA (bin2 kCat (bin2 kDiv (rd 5) (cst (.int 2))) (cst (.int 1))) nilA))) nilA))))) (rvD (callD mq_law_take 0 (consA (cst (.int 4)) nilA))))) (dropS (appM 3 (rvD (callP mf_law_share [] (consA (rd 6) (consA (rd 5) nilA)))))))))) (retS (tupF (consA (un1 kTuple (rd 2)) (consA (un1 kTuple (rd 3)) nilA)))))))
def mq_law_track := runD g_law_track 7
def g_is_mark : SF := (seqS (ifS (orB (notB (valB (un1 (kIsa "tuple") (rd 0)))) (orB (valB (bin2 kNotIn (un1 kLen (rd 0)) (cst (.tuple [(.int 2), (.int 3)])))) (notB (valB (un1 kAll (listE (compF (itD (rd 0)) (setD 1) yesB (rvD (callP mf_is_share [] (consA (rd 1) nilA))) [1]))))))) (retS (cst (.bool false))) skipS) (retS (boolE (andB (valB (un1 kAll (listE (compF (itD (rd 0)) (setD 1) yesB (bin2 kGt (bin2 kIx (rd 1) (cst (.int 0))) (cst (.int 0))) [1])))) (valB (bin2 kEq (rvD (callP mf_total [] (consA (rd 0) nilA))) (cst (.tuple [(.int 1), (.int 1)]))))))))
def mf_is_mark := runP g_is_mark 2
def g_is_line : SF := (seqS (ifS (orB (notB (valB (un1 (kIsa "tuple") (rd 0)))) (valB (bin2 kNe (un1 kLen (rd 0)) (cst (.int 2))))) (retS (cst (.bool false))) skipS) (seqS (asgT (rd 0) (unpT 2 (consT (setD 1) (consT (setD 2) nilT)))) (seqS (ifS (orB (notB (valB (un1 (kIsa "tuple") (rd 1)))) (orB (notB (valB (chE kLe kLe (cst (.int 1)) (un1 kLen (rd 1)) (cst (.int 3))))) (notB (valB (un1 kAll (listE (compF (itD (rd 1)) (setD 3) yesB (rvD (callP mf_is_mark [] (consA (rd 3) nilA))) [3]))))))) (retS (cst (.bool false))) skipS) (retS (boolE (andB (valB (un1 (kIsa "tuple") (rd 2))) (andB (valB (bin2 kEq (un1 kLen (rd 2)) (bin2 kSub (un1 kLen (rd 1)) (cst (.int 1))))) (valB (un1 kAll (listE (compF (itD (rd 2)) (setD 3) yesB (rvD (callP mf_is_gap [] (consA (rd 3) nilA))) [3])))))))))))
def mf_is_line := runP g_is_line 4
def g_law : SF := (seqS (asgM 1 (rvM (callP mf_law_pen [] (consA (rd 0) nilA)))) (seqS (clrS [6] (forS (itR1 (cst (.int 5))) (setD 2) (clrS [2, 3, 4, 5, 7, 8, 9] (seqS (asgS 3 (rvD (callD mq_law_track 1 (consA (cst (.int 3)) nilA)))) (seqS (asgT (rd 3) (unpT 2 (consT (setD 7) (consT (setD 8) nilT)))) (seqS (asgS 4 (tupF (consA (tupF (consA (cst (.int 1)) (consA (cst (.int 2)) nilA))) (consA (tupF (consA (cst (.int 1)) (consA (cst (.int 2)) nilA))) nilA)))) (seqS (asgS 5 (lstF (consA (rd 3) (consA (tupF (consA (rd 7) (consA (bin2 kCat (rd 8) (tupF (consA (tupF (consA (cst (.int 1)) (consA (cst (.int 2)) nilA))) nilA))) nilA))) (consA (tupF (consA (bin2 kCat (rd 7) (tupF (consA (rd 4) nilA))) (consA (bin2 kCat (rd 8) (tupF (consA (tupF (consA (cst (.int 1)) (consA (cst (.int 2)) nilA))) nilA))) nilA))) nilA))))) (seqS (asgS 5 (bin2 kCat (rd 5) (lstF (consA (un1 kList (rd 3)) (consA (tupF (consA (rd 7) (consA (cutF (rd 8) noO (someO (un1 kNeg (cst (.int 1))))) nilA))) (consA (tupF (consA (cutF (rd 7) noO (someO (un1 kNeg (cst (.int 1))))) (consA (cutF (rd 8) noO (someO (un1 kNeg (cst (.int 1))))) nilA))) (consA (tupF (consA (rd 7) nilA)) (consA (cst .none) nilA)))))))) (seqS (asgS 5 (bin2 kCat (rd 5) (lstF (consA (bin2 kCat (rd 3) (tupF (consA (tupF nilA) nilA))) (consA (cst (.dict [])) nilA))))) (seqS (asgS 5 (bin2 kCat (rd 5) (lstF (consA (tupF (consA (tupF (consA (tupF (consA (tupF (consA (cst (.int 1)) (consA (cst (.int 1)) nilA))) nilA)) nilA)) (consA (tupF nilA) nilA))) (consA (tupF (consA (tupF (consA (bin2 kMulR (tupF (consA (tupF (consA (cst (.int 1)) (consA (cst (.int 4)) nilA))) nilA)) (cst (.int 4))) nilA)) (consA (tupF nilA) nilA))) (consA (tupF (consA (bin2 kMulR (tupF (consA (rd 4) nilA)) (cst (.int 4))) (consA (bin2 kMulR (tupF (consA (tupF (consA (cst (.int 0)) (consA (cst (.int 1)) nilA))) nilA)) (cst (.int 3))) nilA))) (consA (tupF (consA (tupF nilA) (consA (tupF nilA) nilA))) (consA (cst (.str (PySem.Str.ofString ""))) (consA (cst (.int 0)) nilA))))))))) (seqS (asgS 5 (bin2 kCat (rd 5) (lstF (consA (tupF (consA (tupF (consA (rd 4) nilA)) (consA (tupF nilA) nilA))) (consA (tupF (consA (tupF (consA (rd 4) (consA (rd 4) nilA))) (consA (tupF (consA (tupF (consA (cst (.int 4999)) (consA (cst (.int 9999)) nilA))) nilA)) nilA))) (consA (tupF (consA (tupF (consA (rd 4) (consA (rd 4) nilA))) (consA (tupF (consA (tupF (consA (cst (.int 5000)) (consA (cst (.int 9999)) nilA))) nilA)) nilA))) nilA)))))) (seqS (asgS 5 (bin2 kCat (rd 5) (listE (compR (itD (tupF (consA (tupF (consA (cst (.int 1)) (consA (cst (.int 2)) nilA))) (consA (tupF (consA (cst (.int 0)) (consA (cst (.int 1)) nilA))) (consA (tupF (consA (cst (.int 51)) (consA (cst (.int 100)) nilA))) (consA (tupF (consA (un1 kNeg (cst (.int 1))) (consA (cst (.int 2)) nilA))) (consA (tupF (consA (cst (.int 1)) (consA (cst (.int 1)) nilA))) (consA (tupF (consA (cst (.int 2)) (consA (cst (.int 4)) nilA))) nilA)))))))) (setD 6) yesB (tupF (consA (tupF (consA (rd 4) (consA (rd 4) nilA))) (consA (tupF (consA (rd 6) nilA)) nilA))) [6])))) (seqS (asgS 5 (bin2 kCat (rd 5) (lstF (consA (tupF (consA (tupF (consA (tupF (consA (tupF (consA (cst (.int 1)) (consA (cst (.int 3)) nilA))) (consA (tupF (consA (cst (.int 1)) (consA (cst (.int 3)) nilA))) (consA (tupF (consA (cst (.int 1)) (consA (cst (.int 3)) nilA))) nilA)))) nilA)) (consA (tupF nilA) nilA))) (consA (tupF (consA (tupF (consA (tupF (consA (tupF (consA (cst (.int 1)) (consA (cst (.int 2)) nilA))) (consA (tupF (consA (cst (.int 1)) (consA (cst (.int 3)) nilA))) nilA))) nilA)) (consA (tupF nilA) nilA))) (consA (tupF (consA (tupF (consA (tupF (consA (tupF (consA (cst (.int 3)) (consA (cst (.int 2)) nilA))) (consA (tupF (consA (un1 kNeg (cst (.int 1))) (consA (cst (.int 2)) nilA))) nilA))) nilA)) (consA (tupF nilA) nilA))) nilA)))))) (seqS (forS (itD (bin2 kCat (rd 5) (listE (compF (itR1 (cst (.int 12))) (setD 10) yesB (rvD (callD mq_law_bent 1 (consA (rd 3) (consA (cst (.int 4)) nilA)))) [10])))) (setD 6) (clrS [9] (seqS (asgS 9 (un1 kRepr (rd 6))) (ifS (orB (valB (bin2 kNe (un1 kRepr (lstF (consA (rvD (callP mf_is_line [] (consA (rd 6) nilA))) (consA (rvD (callK mf_is_line [.inr 0] nilA (consA (rd 6) nilA))) nilA)))) (un1 kRepr (bin2 kMulL (lstF (consA (rvD (callP mf_law_is_track [] (consA (rd 6) nilA))) nilA)) (cst (.int 2)))))) (valB (bin2 kNe (un1 kRepr (rd 6)) (rd 9)))) (retS (cst (.bool false))) skipS)))) (ifS (valB (bin2 kIsNotB (rvD (callP mf_is_line [] (consA (rd 3) nilA))) (cst (.bool true)))) (retS (cst (.bool false))) skipS))))))))))))))) (retS (cst (.bool true)))))
def mf_law := runP g_law 11
theorem e_law : ∀ ds r, ds.length = 1 → mf_law ds = some r → Leaves g_law (st0 11 ds) r fun _ => True := runP_ok
end
end K07
set_option Elab.async false
set_option linter.all false
set_option maxRecDepth 100000
set_option maxHeartbeats 4000000
namespace K07
open PySem PySem.Spec PyProof.Rows L2 Xm DwD
theorem gcd_step (a b : Int) (hb : b ≠ 0) : Int.gcd b (a.fmod b) = Int.gcd a b := by
  have e : a.fmod b = a - b * (a.fdiv b) := by
    have := Int.mul_fdiv_add_fmod a b
    omega
  rw [e, Int.gcd_comm b, Int.gcd_comm a]
  have h1 : (Int.gcd (a - b * a.fdiv b) b : Nat) ∣ Int.gcd b a := by
    refine Int.dvd_gcd (Int.gcd_dvd_right _ _) ?_
    have h2 : ((Int.gcd (a - b * a.fdiv b) b : Nat) : Int) ∣ (a - b * a.fdiv b) + b * a.fdiv b := Int.dvd_add (Int.gcd_dvd_left _ _) (Int.dvd_mul_of_dvd_left (Int.gcd_dvd_right _ _))
    rwa [Int.sub_add_cancel] at h2
  have h3 : (Int.gcd b a : Nat) ∣ Int.gcd (a - b * a.fdiv b) b := by
    refine Int.dvd_gcd ?_ (Int.gcd_dvd_left _ _)
    exact Int.dvd_sub (Int.gcd_dvd_right _ _) (Int.dvd_mul_of_dvd_left (Int.gcd_dvd_left _ _))
  exact Nat.dvd_antisymm h1 h3
theorem fmod_lt (a b : Int) (hb : b ≠ 0) : (a.fmod b).natAbs < b.natAbs := by
  rw [Int.fmod_eq_emod]
  have h1 := Int.emod_nonneg a hb
  have h2 := Int.emod_lt a hb
  split
  · omega
  · rename_i h
    have h3 : a % b ≠ 0 := fun z => h (.inr (Int.dvd_of_emod_eq_zero z))
    omega
theorem m_law_common (a b : Int) : mf_law_common [.int a, .int b] = some (.val (.int (Int.gcd a b))) := by
  refine runP_wp ?_
  unfold g_law_common
  repeat (first | with_reducible refine Xm.wp_seq ?_ | with_reducible refine Xm.wp_clr ?_)
  refine wp_while (fun n s => ∃ x y : Int, s = [.dat (.int x), .dat (.int y)] ∧ Int.gcd x y = Int.gcd a b ∧ y.natAbs ≤ n) b.natAbs ⟨a, b, rfl, rfl, Nat.le_refl _⟩ (by simp [msAll, wt, st0]; omega) ?_
  rintro n s ⟨x, y, rfl, hg, hn⟩
  by_cases h0 : y = 0
  · have hb : (!(y == 0)) = false := by rw [h0]; rfl
    repeat (first | with_reducible refine Xm.wp_bin2 ?_ | with_reducible refine Xm.wp_un1 ?_ | with_reducible refine Xm.wp_cst ?_ | with_reducible refine Xm.wp_valB ?_ | with_reducible refine Xm.wp_retS ?_ | with_reducible refine Xm.ex_bool ?_ | with_reducible refine Xm.ex_of Xm.k_neI ?_ | with_reducible refine Xm.ex_of Xm.k_abs ?_ | ((with_reducible apply Xm.ite_f); · with_reducible assumption) | ((with_reducible apply Xm.wp_rd); · rfl))
    rw [h0, Int.gcd_zero_right] at hg
    rw [← hg]
  · have hb : (!(y == 0)) = true := by
      rw [Bool.not_eq_true']
      exact beq_false_of_ne h0
    have km : kMod (.int x) (.int y) = some (.int (x.fmod y)) := k_mod h0
    repeat (first | with_reducible refine Xm.wp_bin2 ?_ | with_reducible refine Xm.wp_cst ?_ | with_reducible refine Xm.wp_valB ?_ | with_reducible refine Xm.ex_bool ?_ | with_reducible refine Xm.ex_of Xm.k_neI ?_ | ((with_reducible apply Xm.ite_t); · with_reducible assumption) | ((with_reducible apply Xm.wp_rd); · rfl))
    refine ⟨n - 1, by omega, ?_⟩
    repeat (first | with_reducible refine Xm.wp_bin2 ?_ | with_reducible refine Xm.wp_consA ?_ | with_reducible refine Xm.wp_nilA ?_ | with_reducible refine Xm.wp_par2 ?_ | ((with_reducible apply Xm.ex_of); · with_reducible assumption) | ((with_reducible apply Xm.wp_rd); · rfl))
    exact ⟨_, _, rfl, rfl, rfl, y, x.fmod y, rfl, by rw [gcd_step x y h0, hg], by have := fmod_lt x y h0; omega⟩
def shareB : D → Bool
  | .tuple [.int a, .int b] => decide (0 < b) && (((Int.gcd a b : Nat) : Int) == 1)
  | _ => false
theorem shareB_of (q : Rat) : shareB (sh q) = true := by
  show (decide (0 < (q.den : Int)) && (((Int.gcd q.num q.den : Nat) : Int) == 1)) = true
  have h1 := q.den_pos
  have h2 : Int.gcd q.num q.den = 1 := by
    have := q.reduced
    unfold Nat.Coprime at this
    rw [Int.gcd, Int.natAbs_natCast]
    exact this
  rw [h2, decide_eq_true (by omega)]
  rfl
theorem tuple_of {d : D} (h : isaT (tyD d) "tuple" = true) : ∃ ds, d = .tuple ds := by
  cases d <;> first
    | exact ⟨_, rfl⟩
    | exact absurd (show false = true from h) Bool.false_ne_true
theorem m_common' (a b : Int) : mf_common [.int a, .int b] = some (.val (.int (Int.gcd a b))) := rfl
theorem isW_int {d : D} (h : isW d = true) : ∃ i, d = .int i := by
  cases d <;> first
    | exact ⟨_, rfl⟩
    | cases h
theorem len2 {es : List D} (h : es.length = 2) : ∃ a b, es = [a, b] := by
  match es, h with
  | [a, b], _ => exact ⟨a, b, rfl⟩
theorem shareB_W {a b : D} (h : isW a = false ∨ isW b = false) : shareB (.tuple [a, b]) = false := by
  unfold shareB
  split
  · rename_i e
    cases e
    rcases h with h | h <;> cases h
  · rfl
theorem shareB_len {es : List D} (h : es.length ≠ 2) : shareB (.tuple es) = false := by
  unfold shareB
  split
  · rename_i e
    cases e
    exact absurd rfl h
  · rfl
theorem shareB_ij (i j : Int) : shareB (.tuple [.int i, .int j]) = (decide (0 < j) && (((Int.gcd i j : Nat) : Int) == 1)) := rfl
theorem shareB_not {d : D} (h : isaT (tyD d) "tuple" = false) : shareB d = false := by
  cases d <;> first
    | rfl
    | exact Bool.noConfusion (show true = false from h)
theorem m_is_share (d : D) : mf_is_share [d] = some (.val (.bool (shareB d))) := by
  refine runP_wp ?_
  unfold g_is_share
  by_cases ht : isaT (tyD d) "tuple" = true
  · obtain ⟨es, rfl⟩ := tuple_of ht
    by_cases hl : es.length = 2
    · obtain ⟨a, b, rfl⟩ := len2 hl
      have hb2 : (!((([a, b] : List D).length : Int) == 2)) = false := rfl
      have wa := m_is_whole a
      have wb := m_is_whole b
      cases hA : isW a with
      | false =>
        rw [hA] at wa
        rw [shareB_W (.inl hA)]
        repeat (first | with_reducible refine Xm.wp_seq ?_ | with_reducible refine Xm.wp_bin2 ?_ | with_reducible refine Xm.wp_un1 ?_ | with_reducible refine Xm.wp_consA ?_ | with_reducible refine Xm.wp_nilA ?_ | with_reducible refine Xm.wp_cst ?_ | with_reducible refine Xm.wp_valB ?_ | with_reducible refine Xm.wp_ifS ?_ | with_reducible refine Xm.wp_rvD ?_ | with_reducible refine Xm.wp_callP0 ?_ | with_reducible refine Xm.wp_retS ?_ | with_reducible refine Xm.wp_orB ?_ | with_reducible refine Xm.wp_notB ?_ | with_reducible refine Xm.ite_tt ?_ | with_reducible refine Xm.ite_nf ?_ | with_reducible refine Xm.ex_bool ?_ | with_reducible refine Xm.ex_of Xm.k_neI ?_ | with_reducible refine Xm.ex_of Xm.k_lenT ?_ | with_reducible refine Xm.ex_of Xm.ix_t0 ?_ | with_reducible refine Xm.ex_of Xm.k_isa ?_ | ((with_reducible apply Xm.ex_of); · with_reducible assumption) | ((with_reducible apply Xm.ite_f); · with_reducible assumption) | ((with_reducible apply Xm.ite_nbf); · with_reducible assumption) | ((with_reducible apply Xm.wp_rd); · rfl))
        rfl
      | true =>
        rw [hA] at wa
        cases hB : isW b with
        | false =>
          rw [hB] at wb
          rw [shareB_W (.inr hB)]
          repeat (first | with_reducible refine Xm.wp_seq ?_ | with_reducible refine Xm.wp_bin2 ?_ | with_reducible refine Xm.wp_un1 ?_ | with_reducible refine Xm.wp_consA ?_ | with_reducible refine Xm.wp_nilA ?_ | with_reducible refine Xm.wp_cst ?_ | with_reducible refine Xm.wp_valB ?_ | with_reducible refine Xm.wp_ifS ?_ | with_reducible refine Xm.wp_rvD ?_ | with_reducible refine Xm.wp_callP0 ?_ | with_reducible refine Xm.wp_retS ?_ | with_reducible refine Xm.wp_orB ?_ | with_reducible refine Xm.wp_notB ?_ | with_reducible refine Xm.ite_nt ?_ | with_reducible refine Xm.ite_nf ?_ | with_reducible refine Xm.ex_bool ?_ | with_reducible refine Xm.ex_of Xm.k_neI ?_ | with_reducible refine Xm.ex_of Xm.k_lenT ?_ | with_reducible refine Xm.ex_of Xm.ix_t0 ?_ | with_reducible refine Xm.ex_of Xm.ix_t1 ?_ | with_reducible refine Xm.ex_of Xm.k_isa ?_ | ((with_reducible apply Xm.ex_of); · with_reducible assumption) | ((with_reducible apply Xm.ite_f); · with_reducible assumption) | ((with_reducible apply Xm.ite_nbf); · with_reducible assumption) | ((with_reducible apply Xm.wp_rd); · rfl))
          rfl
        | true =>
          rw [hB] at wb
          obtain ⟨i, rfl⟩ := isW_int hA
          obtain ⟨j, rfl⟩ := isW_int hB
          have kc := m_common' i j
          rw [shareB_ij]
          by_cases h0 : 0 < j
          · have b0 : decide (0 < j) = true := decide_eq_true h0
            rw [b0]
            repeat (first | with_reducible refine Xm.wp_seq ?_ | with_reducible refine Xm.wp_bin2 ?_ | with_reducible refine Xm.wp_un1 ?_ | with_reducible refine Xm.wp_consA ?_ | with_reducible refine Xm.wp_nilA ?_ | with_reducible refine Xm.wp_cst ?_ | with_reducible refine Xm.wp_valB ?_ | with_reducible refine Xm.wp_ifS ?_ | with_reducible refine Xm.wp_rvD ?_ | with_reducible refine Xm.wp_callP0 ?_ | with_reducible refine Xm.wp_skip ?_ | with_reducible refine Xm.wp_retS ?_ | with_reducible refine Xm.wp_andB ?_ | with_reducible refine Xm.wp_orB ?_ | with_reducible refine Xm.wp_notB ?_ | with_reducible refine Xm.wp_boolE ?_ | with_reducible refine Xm.ite_nt ?_ | with_reducible refine Xm.ex_bool ?_ | with_reducible refine Xm.ex_of Xm.k_gt ?_ | with_reducible refine Xm.ex_of Xm.k_eqI ?_ | with_reducible refine Xm.ex_of Xm.k_neI ?_ | with_reducible refine Xm.ex_of Xm.k_lenT ?_ | with_reducible refine Xm.ex_of Xm.ix_t0 ?_ | with_reducible refine Xm.ex_of Xm.ix_t1 ?_ | with_reducible refine Xm.ex_of Xm.k_isa ?_ | ((with_reducible apply Xm.ex_of); · with_reducible assumption) | ((with_reducible apply Xm.ite_t); · with_reducible assumption) | ((with_reducible apply Xm.ite_f); · with_reducible assumption) | ((with_reducible apply Xm.ite_nbf); · with_reducible assumption) | ((with_reducible apply Xm.wp_rd); · rfl))
            rfl
          · have b0 : decide (0 < j) = false := decide_eq_false h0
            rw [b0]
            repeat (first | with_reducible refine Xm.wp_seq ?_ | with_reducible refine Xm.wp_bin2 ?_ | with_reducible refine Xm.wp_un1 ?_ | with_reducible refine Xm.wp_consA ?_ | with_reducible refine Xm.wp_nilA ?_ | with_reducible refine Xm.wp_cst ?_ | with_reducible refine Xm.wp_valB ?_ | with_reducible refine Xm.wp_ifS ?_ | with_reducible refine Xm.wp_rvD ?_ | with_reducible refine Xm.wp_callP0 ?_ | with_reducible refine Xm.wp_skip ?_ | with_reducible refine Xm.wp_retS ?_ | with_reducible refine Xm.wp_andB ?_ | with_reducible refine Xm.wp_orB ?_ | with_reducible refine Xm.wp_notB ?_ | with_reducible refine Xm.wp_boolE ?_ | with_reducible refine Xm.ite_nt ?_ | with_reducible refine Xm.ex_bool ?_ | with_reducible refine Xm.ex_of Xm.k_gt ?_ | with_reducible refine Xm.ex_of Xm.k_neI ?_ | with_reducible refine Xm.ex_of Xm.k_lenT ?_ | with_reducible refine Xm.ex_of Xm.ix_t0 ?_ | with_reducible refine Xm.ex_of Xm.ix_t1 ?_ | with_reducible refine Xm.ex_of Xm.k_isa ?_ | ((with_reducible apply Xm.ex_of); · with_reducible assumption) | ((with_reducible apply Xm.ite_f); · with_reducible assumption) | ((with_reducible apply Xm.ite_nbf); · with_reducible assumption) | ((with_reducible apply Xm.wp_rd); · rfl))
            rfl
    · have hb2 : (!((es.length : Int) == 2)) = true := by
        rw [Bool.not_eq_true']
        exact beq_false_of_ne (by omega)
      rw [shareB_len hl]
      repeat (first | with_reducible refine Xm.wp_seq ?_ | with_reducible refine Xm.wp_bin2 ?_ | with_reducible refine Xm.wp_un1 ?_ | with_reducible refine Xm.wp_cst ?_ | with_reducible refine Xm.wp_valB ?_ | with_reducible refine Xm.wp_ifS ?_ | with_reducible refine Xm.wp_retS ?_ | with_reducible refine Xm.wp_orB ?_ | with_reducible refine Xm.wp_notB ?_ | with_reducible refine Xm.ite_tt ?_ | with_reducible refine Xm.ex_bool ?_ | with_reducible refine Xm.ex_of Xm.k_neI ?_ | with_reducible refine Xm.ex_of Xm.k_lenT ?_ | with_reducible refine Xm.ex_of Xm.k_isa ?_ | ((with_reducible apply Xm.ite_t); · with_reducible assumption) | ((with_reducible apply Xm.ite_nbf); · with_reducible assumption) | ((with_reducible apply Xm.wp_rd); · rfl))
      rfl
  · rw [Bool.not_eq_true] at ht
    rw [shareB_not ht]
    repeat (first | with_reducible refine Xm.wp_seq ?_ | with_reducible refine Xm.wp_un1 ?_ | with_reducible refine Xm.wp_cst ?_ | with_reducible refine Xm.wp_valB ?_ | with_reducible refine Xm.wp_ifS ?_ | with_reducible refine Xm.wp_retS ?_ | with_reducible refine Xm.wp_orB ?_ | with_reducible refine Xm.wp_notB ?_ | with_reducible refine Xm.ite_tt ?_ | with_reducible refine Xm.ex_bool ?_ | with_reducible refine Xm.ex_of Xm.k_isa ?_ | ((with_reducible apply Xm.ite_nbt); · with_reducible assumption) | ((with_reducible apply Xm.wp_rd); · rfl))
    rfl
theorem m_law_is_share (d : D) : mf_law_is_share [d] = some (.val (.bool (shareB d))) := by
  refine runP_wp ?_
  unfold g_law_is_share
  by_cases ht : isaT (tyD d) "tuple" = true
  · obtain ⟨es, rfl⟩ := tuple_of ht
    by_cases hl : es.length = 2
    · obtain ⟨a, b, rfl⟩ := len2 hl
      have hb2 : (!((([a, b] : List D).length : Int) == 2)) = false := rfl
      repeat (first | with_reducible refine Xm.wp_seq ?_ | with_reducible refine Xm.wp_bin2 ?_ | with_reducible refine Xm.wp_un1 ?_ | with_reducible refine Xm.wp_cst ?_ | with_reducible refine Xm.wp_valB ?_ | with_reducible refine Xm.wp_ifS ?_ | with_reducible refine Xm.wp_skip ?_ | with_reducible refine Xm.wp_orB ?_ | with_reducible refine Xm.wp_notB ?_ | with_reducible refine Xm.wp_itD ?_ | with_reducible refine Xm.wp_for ?_ | with_reducible refine Xm.ex_bool ?_ | with_reducible refine Xm.ex_of Xm.k_neI ?_ | with_reducible refine Xm.ex_of Xm.k_lenT ?_ | with_reducible refine Xm.ex_of Xm.k_isa ?_ | ((with_reducible apply Xm.ite_f); · with_reducible assumption) | ((with_reducible apply Xm.ite_nbf); · with_reducible assumption) | ((with_reducible apply Xm.wp_rd); · rfl))
      refine ⟨[a, b], .inr rfl, ?_⟩
      have isw : ∀ x : D, (isW x = true ∧ isaT (tyD x) "int" = true ∧ isaT (tyD x) "bool" = false) ∨ (isW x = false ∧ (isaT (tyD x) "int" = false ∨ (isaT (tyD x) "int" = true ∧ isaT (tyD x) "bool" = true))) := fun x => by
        cases x <;> first
          | exact .inl ⟨rfl, rfl, rfl⟩
          | exact .inr ⟨rfl, .inl rfl⟩
          | exact .inr ⟨rfl, .inr ⟨rfl, rfl⟩⟩
      refine wp_loop (fun l s => s = [.dat (.tuple [a, b]), .no] ∧ (∀ x ∈ l, x = a ∨ x = b) ∧ (∀ x, (x = a ∨ x = b) → x ∉ l → isW x = true)) ?_ ?_ _ _ ⟨rfl, fun x hx => by simpa using hx, fun x hx hn => absurd (by simpa using hx) hn⟩
      · rintro x l s ⟨rfl, h1, h2⟩
        refine ⟨_, rfl, ?_⟩
        rcases isw x with ⟨w1, w2, w3⟩ | ⟨w1, w2⟩
        · repeat (first | with_reducible refine Xm.wp_un1 ?_ | with_reducible refine Xm.wp_valB ?_ | with_reducible refine Xm.wp_ifS ?_ | with_reducible refine Xm.wp_skip ?_ | with_reducible refine Xm.wp_orB ?_ | with_reducible refine Xm.wp_notB ?_ | with_reducible refine Xm.wp_clr ?_ | with_reducible refine Xm.ex_bool ?_ | with_reducible refine Xm.ex_of Xm.k_isa ?_ | ((with_reducible apply Xm.ite_f); · with_reducible assumption) | ((with_reducible apply Xm.ite_nbf); · with_reducible assumption) | ((with_reducible apply Xm.wp_rd); · rfl))
          refine ⟨rfl, fun y hy => h1 y (.tail _ hy), fun y hy hn => ?_⟩
          by_cases e : y = x
          · rw [e]; exact w1
          · exact h2 y hy fun hm => (List.mem_cons.mp hm).elim e hn
        · have : shareB (.tuple [a, b]) = false := shareB_W (a := a) (b := b) (by
            rcases h1 x (.head _) with e | e
            · left; rw [← e]; exact w1
            · right; rw [← e]; exact w1)
          rw [this]
          rcases w2 with w2 | ⟨w2, w3⟩
          · repeat (first | with_reducible refine Xm.wp_un1 ?_ | with_reducible refine Xm.wp_cst ?_ | with_reducible refine Xm.wp_valB ?_ | with_reducible refine Xm.wp_ifS ?_ | with_reducible refine Xm.wp_retS ?_ | with_reducible refine Xm.wp_orB ?_ | with_reducible refine Xm.wp_notB ?_ | with_reducible refine Xm.wp_clr ?_ | with_reducible refine Xm.ite_tt ?_ | with_reducible refine Xm.ex_bool ?_ | with_reducible refine Xm.ex_of Xm.k_isa ?_ | ((with_reducible apply Xm.ite_nbt); · with_reducible assumption) | ((with_reducible apply Xm.wp_rd); · rfl))
            rfl
          · repeat (first | with_reducible refine Xm.wp_un1 ?_ | with_reducible refine Xm.wp_cst ?_ | with_reducible refine Xm.wp_valB ?_ | with_reducible refine Xm.wp_ifS ?_ | with_reducible refine Xm.wp_retS ?_ | with_reducible refine Xm.wp_orB ?_ | with_reducible refine Xm.wp_notB ?_ | with_reducible refine Xm.wp_clr ?_ | with_reducible refine Xm.ex_bool ?_ | with_reducible refine Xm.ex_of Xm.k_isa ?_ | ((with_reducible apply Xm.ite_t); · with_reducible assumption) | ((with_reducible apply Xm.ite_nbf); · with_reducible assumption) | ((with_reducible apply Xm.wp_rd); · rfl))
            rfl
      · rintro s ⟨rfl, _, h2⟩
        obtain ⟨i, rfl⟩ := isW_int (h2 a (.inl rfl) (by simp))
        obtain ⟨j, rfl⟩ := isW_int (h2 b (.inr rfl) (by simp))
        have kc := m_law_common i j
        rw [shareB_ij]
        by_cases h0 : 0 < j
        · have b0 : decide (0 < j) = true := decide_eq_true h0
          rw [b0]
          repeat (first | with_reducible refine Xm.wp_bin2 ?_ | with_reducible refine Xm.wp_consA ?_ | with_reducible refine Xm.wp_nilA ?_ | with_reducible refine Xm.wp_cst ?_ | with_reducible refine Xm.wp_valB ?_ | with_reducible refine Xm.wp_rvD ?_ | with_reducible refine Xm.wp_callP0 ?_ | with_reducible refine Xm.wp_retS ?_ | with_reducible refine Xm.wp_andB ?_ | with_reducible refine Xm.wp_boolE ?_ | with_reducible refine Xm.ex_bool ?_ | with_reducible refine Xm.ex_of Xm.k_gt ?_ | with_reducible refine Xm.ex_of Xm.k_eqI ?_ | with_reducible refine Xm.ex_of Xm.ix_t0 ?_ | with_reducible refine Xm.ex_of Xm.ix_t1 ?_ | ((with_reducible apply Xm.ex_of); · with_reducible assumption) | ((with_reducible apply Xm.ite_t); · with_reducible assumption) | ((with_reducible apply Xm.wp_rd); · rfl))
          rfl
        · have b0 : decide (0 < j) = false := decide_eq_false h0
          rw [b0]
          repeat (first | with_reducible refine Xm.wp_bin2 ?_ | with_reducible refine Xm.wp_cst ?_ | with_reducible refine Xm.wp_valB ?_ | with_reducible refine Xm.wp_retS ?_ | with_reducible refine Xm.wp_andB ?_ | with_reducible refine Xm.wp_boolE ?_ | with_reducible refine Xm.ex_bool ?_ | with_reducible refine Xm.ex_of Xm.k_gt ?_ | with_reducible refine Xm.ex_of Xm.ix_t1 ?_ | ((with_reducible apply Xm.ite_f); · with_reducible assumption) | ((with_reducible apply Xm.wp_rd); · rfl))
          rfl
    · have hb2 : (!((es.length : Int) == 2)) = true := by
        rw [Bool.not_eq_true']
        exact beq_false_of_ne (by omega)
      rw [shareB_len hl]
      repeat (first | with_reducible refine Xm.wp_seq ?_ | with_reducible refine Xm.wp_bin2 ?_ | with_reducible refine Xm.wp_un1 ?_ | with_reducible refine Xm.wp_cst ?_ | with_reducible refine Xm.wp_valB ?_ | with_reducible refine Xm.wp_ifS ?_ | with_reducible refine Xm.wp_retS ?_ | with_reducible refine Xm.wp_orB ?_ | with_reducible refine Xm.wp_notB ?_ | with_reducible refine Xm.ex_bool ?_ | with_reducible refine Xm.ex_of Xm.k_neI ?_ | with_reducible refine Xm.ex_of Xm.k_lenT ?_ | with_reducible refine Xm.ex_of Xm.k_isa ?_ | ((with_reducible apply Xm.ite_t); · with_reducible assumption) | ((with_reducible apply Xm.ite_nbf); · with_reducible assumption) | ((with_reducible apply Xm.wp_rd); · rfl))
      rfl
  · rw [Bool.not_eq_true] at ht
    rw [shareB_not ht]
    repeat (first | with_reducible refine Xm.wp_seq ?_ | with_reducible refine Xm.wp_un1 ?_ | with_reducible refine Xm.wp_cst ?_ | with_reducible refine Xm.wp_valB ?_ | with_reducible refine Xm.wp_ifS ?_ | with_reducible refine Xm.wp_retS ?_ | with_reducible refine Xm.wp_orB ?_ | with_reducible refine Xm.wp_notB ?_ | with_reducible refine Xm.ite_tt ?_ | with_reducible refine Xm.ex_bool ?_ | with_reducible refine Xm.ex_of Xm.k_isa ?_ | ((with_reducible apply Xm.ite_nbt); · with_reducible assumption) | ((with_reducible apply Xm.wp_rd); · rfl))
    rfl
end K07
set_option Elab.async false
set_option linter.all false
set_option maxRecDepth 100000
namespace Xm
open PySem PySem.Spec PyProof.Rows L2
noncomputable section
def gx_share_of : SF := (seqS (ifS (valB (bin2 kEq (rd 1) (cst (.int 0)))) (raiseS "NoShare") skipS) (seqS (asgS 2 (rvD (callP mf_common [] (consA (rd 0) (consA (rd 1) nilA))))) (seqS (ifS (valB (bin2 kLt (rd 1) (cst (.int 0)))) (asgS 2 (un1 kNeg (rd 2))) skipS) (retS (tupF (consA (bin2 kDiv (rd 0) (rd 2)) (consA (bin2 kDiv (rd 1) (rd 2)) nilA)))))))
def mx_share_of := runP gx_share_of 3
theorem ex_share_of : ∀ ds r, ds.length = 2 → mx_share_of ds = some r → Leaves gx_share_of (st0 3 ds) r fun _ => True := runP_ok
end
theorem guard_sub {c : BF} {n : Str} {s : SF} {st : AS} {w : Fl × AS} (h : seqS (ifS c neverS skipS) s st = some w) : seqS (ifS c (raiseS n) skipS) s st = some w := by
  rw [e_seqS, e_ifS] at h ⊢
  obtain ⟨v, hv, h⟩ := Option.bind_eq_some_iff.mp h
  obtain ⟨a, ha, hv⟩ := Option.bind_eq_some_iff.mp hv
  rw [ha]
  split at hv
  · cases hv
  · rename_i hn
    cases hv
    simp only [Option.bind_some]
    rw [if_neg hn]
    exact h
theorem leaves_sub {g g' : SF} {N : Nat} {ds : List D} {r : RV} (k : ∀ st w, g st = some w → g' st = some w) (l : Leaves g (st0 N ds) r fun _ => True) : runP g' N ds = some r := by
  obtain ⟨st', h | ⟨h, rfl⟩, _⟩ := l
  · exact runP_of (k _ _ h)
  · unfold runP
    rw [k _ _ h]
    rfl
theorem sub_share_of : ∀ ds r, mf_share_of ds = some r → mx_share_of ds = some r := by
  intro ds r h
  have hl : ds.length = 2 := by
    unfold mf_share_of at h
    split at h
    · rfl
    · cases h
  exact leaves_sub (fun st w hw => guard_sub hw) (e_share_of ds r hl h)
theorem mx_share_of_0 (t : Int) : mx_share_of [.int t, .int 0] = some (.exc ⟨"NoShare", []⟩) := rfl
end Xm
set_option Elab.async false
set_option linter.all false
set_option maxRecDepth 100000
set_option maxHeartbeats 2000000
namespace Xm
open PySem PySem.Spec PyProof.Rows L2
abbrev JF := AS → Option (Ob × AS)
def setB (i : Nat) (o : Ob) (st : AS) : Option AS := match st[i]? with
  | some (.pen _) => none
  | some _ => some (st.set i (.obj o))
  | none => none
def obC (st : AS) (i : Nat) : Option Ob := match st[i]? with
  | some (.obj o) => some o
  | _ => none
theorem mu_set_obj {st : AS} {i j : Nat} {o : Ob} (h : Mu (st.set i (.obj o)) j) : Mu st j ∧ j ≠ i := by
  obtain ⟨s, e, m⟩ := h
  by_cases hj : j = i
  · subst hj
    by_cases hl : j < st.length
    · rw [List.getElem?_set_self hl] at e
      cases e
      cases m
    · rw [List.getElem?_eq_none (by rw [List.length_set]; omega)] at e
      cases e
  · rw [List.getElem?_set_ne (Ne.symm hj)] at e
    exact ⟨⟨s, e, m⟩, hj⟩
section
variable {K : Kx} {C : Ct} {F F' H H' : Hp} {st : AS} {σ : L2.St}
theorem Rel.setB {i : Nat} {o : Ob} {a : Addr} {st' : AS} (R : Rel K C F st σ H) (h : setB i o st = some st') (ho : ObOk K F a o) : Rel K C F st' (σ.set i (some (.ref a))) H := by
  have e : st' = st.set i (.obj o) ∧ i < st.length := by
    unfold Xm.setB at h
    split at h <;> cases h
    exact ⟨rfl, (List.getElem?_eq_some_iff.mp ‹_›).1⟩
  obtain ⟨rfl, hi⟩ := e
  have hiσ : i < σ.length := by rw [← R.len]; exact hi
  refine ⟨by rw [List.length_set, List.length_set]; exact R.len, R.f0, R.fh, R.old, R.new, fun j s hj => ?_, fun j k b hj hk e1 e2 => ?_, R.penh, R.pent, R.tab⟩
  · by_cases e : j = i
    · subst e
      rw [List.getElem?_set_self hi] at hj
      cases hj
      exact ⟨a, List.getElem?_set_self hiσ, ho⟩
    · rw [List.getElem?_set_ne (Ne.symm e)] at hj
      rw [List.getElem?_set_ne (Ne.symm e)]
      exact R.slot j s hj
  · obtain ⟨m1, n1⟩ := mu_set_obj hj
    obtain ⟨m2, n2⟩ := mu_set_obj hk
    rw [List.getElem?_set_ne (Ne.symm n1)] at e1
    rw [List.getElem?_set_ne (Ne.symm n2)] at e2
    exact R.apart j k b m1 m2 e1 e2
theorem Rel.obj {i : Nat} {o : Ob} (R : Rel K C F st σ H) (h : obC st i = some o) : ∃ a, σ[i]? = some (some (.ref a)) ∧ ObOk K F a o := by
  unfold obC at h
  split at h <;> cases h
  exact R.slot i _ ‹_›
end
section
variable {X : Cx} {C : Ct} {pos : Pos} {e : Expr} {f : JF}
end
def okD : Option Key → D
  | none => .none
  | some k => keyD k
section
variable {X : Cx} {C : Ct} {pos : Pos} {keys : List (Option Expr)} {values : List Expr}
inductive PsOkN (X : Cx) : List (Option Expr) → List Expr → List (Option Key × EF) → Prop
  | nil : PsOkN X [] [] []
  | cons {ke ve : Expr} {ks : List (Option Expr)} {vs : List Expr} {k : Option Key} {f : EF} {r : List (Option Key × EF)} (hk : ∀ C : Ct, PE X ke (dOf (kxOf X) C (cst (okD k)))) (hv : ∀ C : Ct, PE X ve (dOf (kxOf X) C f)) (hr : PsOkN X ks vs r) : PsOkN X (some ke :: ks) (ve :: vs) ((k, f) :: r)
end
section
variable {X : Cx} {C : Ct} {pos : Pos} {a b : Expr} {g : EF} {i : Nat}
end
section
variable {st : AS} {i : Nat} {QS : Fl → AS → Prop} {QD : D → AS → Prop} {f : JF} {g : EF}
end
end Xm
set_option Elab.async false
set_option linter.all false
set_option maxRecDepth 100000
set_option maxHeartbeats 2000000
namespace Xm
open PySem PySem.Spec PyProof.Rows L2
theorem keptO_ok {P : Program} {w : World} {H : Hp} {h : Heap} {cls : Value} {d : Option Addr} {a : Addr} {oe : Obj} {vs : Array Value} (e : h.get? a = some oe) (z : Zc cls d oe) (hd : oe.data = .fields vs) : ObjOk P w H h a (keptO cls d a) :=
  ⟨⟨oe, vs, e, z, hd⟩, ⟨oe, e⟩, fun _ _ ⟨ob, us, e1, z1, d1⟩ k => ⟨ob, us, k ob e1, z1, d1⟩⟩
section
variable {X : Cx} {pins : List (Addr × Obj)} {σ : L2.St} {H : Hp} {s : Shared}
theorem Inv.knows {a : Addr} {o : HO} {oe : Obj} {us : Array Value} (I : Inv X pins σ H s) (ha : s.heap.get? a = some oe) (hd : oe.data = .fields us) (hn : H a = none) (h0 : X.s_0.heap.get? a = none) (nL : a ≠ X.env.locals) (np : ∀ p ∈ X.pn ++ pins, p.1 ≠ a) (new : ObjOk X.prog X.w (upd H a o) s.heap a o) :
    Inv X pins σ (upd H a o) s where
  ok := I.ok
  os := I.os
  bare := I.bare
  base := {
    keep := fun b ob e n hb hx => I.base.keep b ob e n hb hx
    slot := fun b ob e n hb hx => I.base.slot b ob e n hb hx
    free := fun b ob e n hx => by
      have hb : b ≠ a := fun z => by rw [z, h0] at e; cases e
      rw [upd_ne hb]
      exact I.base.free b ob e n hx
    there := fun b ob e hx => I.base.there b ob e hx
    tups := fun b xs e => by
      have q := I.base.tups b xs e
      rw [upd_ne (ne_of_none q hn)]
      exact q
    frzs := fun b ob u e => by
      have q := I.base.frzs b ob u e
      rw [upd_ne (ne_of_none q hn)]
      exact q
    tbls := fun b ps e => by
      obtain ⟨more, q⟩ := I.base.tbls b ps e
      exact ⟨more, by rw [upd_ne (ne_of_none q hn)]; exact q⟩ }
  loc := I.loc
  cell := I.cell
  free := by rw [upd_ne (Ne.symm nL)]; exact I.free
  freeC := fun x c e => by
    have hc : c ≠ a := fun z => by
      obtain ⟨v, q⟩ := I.cell x c e
      obtain ⟨ob, q1, q2⟩ := q
      rw [z, ha] at q1
      cases q1
      rw [hd] at q2
      simp at q2
    rw [upd_ne hc]
    exact I.freeC x c e
  pin := fun p hp => by
    obtain ⟨q1, q2, q3⟩ := I.pin p hp
    exact ⟨q1, by rw [upd_ne (np p hp)]; exact q2, q3⟩
  hok := HOk.laidN I.hok (fun _ _ q => q) hn new
  len := I.len
end
def TestOk (X : Cx) (te : Expr) (cs : List Value) : Prop := ∀ (a : Addr) (oe : Obj) (pn : List (Addr × Obj)) (s : Shared) (σ : L2.St) (H : Hp) (b : Bool) (Q : Bool → Shared → Prop) (E : Value → Shared → Prop),
  Inv (X.suite a ((a, oe) :: pn)) [] σ H s → s.heap.get? a = some oe → PySem.W.exmAny X.K oe.cls cs = some b → (∀ h', (∀ q o, s.heap.get? q = some o → h'.get? q = some o) → Q b { s with heap := h' }) →
  wpAny (model X.prog X.w) (X.A.mark (some (.ref a))) (eval te X.env) (fun c s1 => wpAny (model X.prog X.w) (X.A.mark (some (.ref a))) (excMatches (.ref a) c) Q E s1) E s
section
variable {X : Cx}
theorem nm_suite {x : Str} {c : Value} {np : Pos} (hc : Names X x c) {a : Addr} {oe : Obj} {pn : List (Addr × Obj)} {s : Shared} {σ : L2.St} {H : Hp} (S : Inv (X.suite a ((a, oe) :: pn)) [] σ H s) {Q E : Value → Shared → Prop} (q : Q c s) :
    wpAny (model X.prog X.w) (X.A.mark (some (.ref a))) (eval (.Name x np) X.env) Q E s := by
  obtain ⟨g1, g2, g3 | ⟨g3, g4, g5⟩⟩ := hc
  · exact ld_glob (X := X.suite a ((a, oe) :: pn)) S g1 g3 q g2
  · exact ld_blt (X := X.suite a ((a, oe) :: pn)) S g1 g3 g4 q g5 g2
theorem looks_cls {M : Model} {h : Heap} {a : Addr} {oe : Obj} (e : h.get? a = some oe) : PySem.W.Looks M h (typeOf (.ref a)) oe.cls := fun _ _ _ _ k q => wpAny_typeOf_ref (k a oe e) q
theorem test3 {x y z : Str} {c d e : Value} {p1 p2 p3 tp : Pos} {k : Nat} (h1 : Names X x c) (h2 : Names X y d) (h3 : Names X z e) : TestOk X (.Tuple [.Name x p1, .Name y p2, .Name z p3] k tp) [c, d, e] := fun a oe pn s σ H b Q E S ha hb q => by
  refine wpAny_Tuple (wpAny_items_cons (nm_suite h1 S (wpAny_items_cons (nm_suite h2 S (wpAny_items_cons (nm_suite h3 S (wpAny_items_nil ⟨by size_fits, ?_⟩)))))))
  have up : ∀ r o, s.heap.get? r = some o → (s.heap.push { cls := .type "tuple", data := .seq [c, d, e].toArray }).get? r = some o := fun _ _ z => Heap.get?_push_of_some _ z
  exact (PySem.W.exm_tup3 (S.kIn.keeps up) ((looks_cls ha).keeps up) (Heap.get?_push_size s.heap rfl) hb).here (q _ up)
end
theorem fly_up {B h h' : Heap} {l : List Env} {e : Addr} {Z : Obj → Prop} (f : HandSPX.FlyingZ B l e Z h) (k : ∀ q o, h.get? q = some o → h'.get? q = some o) : HandSPX.FlyingZ B l e Z h' := by
  obtain ⟨f1, f2, f3, oe, vs, T, oT, ts, g1, g2, g3, g4, g5, g6, g7, g8⟩ := f
  exact ⟨fun b o q => k b o (f1 b o q), f2, Heap.FunFrames.of_keeps (fun b o q _ => ⟨o, k b o q, rfl⟩) f3, oe, vs, T, oT, ts, k _ _ g1, g2, g3, g4, g5, g6, k _ _ g7, g8⟩
def wKeep (K : PySem.W.Frag) (cs : List Value) (i j : Nat) (Wo : WX) (D : Ends) : WX := fun cls d σ H =>
  ∃ b, PySem.W.exmAny K cls cs = some b ∧ (b = true → ∀ a, H a = none → D.nx (((σ.set i (some (.ref a))).set j (some (.ref a))).set i none) (upd H a (keptO cls d a))) ∧ (b = false → Wo cls d σ H)
def asgV (i j : Nat) : TS := fun D σ H => ∃ v, σ[i]? = some (some v) ∧ D.nx (σ.set j (some v)) H
section
variable {X : Cx} {n : Str} {cs : List Value} {i j : Nat} {body : List Stmt} {te : Expr} {st0 : Stmt} {pos pos' : Pos} {tb : WX → TS} {Wo : WX}
theorem ps_try_keep (hex : X.ex = []) (hs : X.stack = X.env :: X.outer) (hf : X.env.frame = some X.env.locals) (hN : X.N.Nodup) (hi : X.N[i]? = some n) (hln : X.env.kindOf n = some .local) (hT : TestOk X te cs) (tk : Takes X Wo)
    (hb : ∀ (W : WX) (pn : List (Addr × Obj)) (xe : Value → Shared → Prop), Takes (X.tr pn xe) W → PassesOwn (model X.prog X.w) X.A X.env xe → PSs (X.tr pn xe) body (tb W))
    (hsu : ∀ (a : Addr) (oe : Obj) (pn : List (Addr × Obj)), PSs (X.suite a ((a, oe) :: pn)) [st0] (asgV i j)) :
    PS X (.Try body [.ExceptHandler (some te) (some n) [st0] pos'] [] [] pos) (fun D σ H => tb (wKeep X.K cs i j Wo D) D σ H) := by
  refine ⟨fun pins s σ H D I h => wpAny_Try_except ?_⟩
  have ok := I.ok
  have hA : X.A.frames = some (X.env :: X.outer) := by rw [ok.frames, hs]
  have run := (hb (wKeep X.K cs i j Wo D) (X.pn ++ pins) (fun e s₁ => wpAny (model X.prog X.w) X.A (noteFrame e X.env) (fun _ s₂ => wpAny (model X.prog X.w) X.A (setFlight e none)
    (fun _ s₃ => wpAny (model X.prog X.w) X.A (handleBy e X.env [.ExceptHandler (some te) (some n) [st0] pos']) (SP X pins D) X.xe s₃) X.xe s₂) X.xe s₁) ?_ PassesOwn.looking).run [] s σ H D (I.toTry _) h
  · refine wpAny_mono run (fun f s1 hsp => ?_) fun _ _ z => z
    cases f with
    | next => obtain ⟨σ1, H1, J1, q⟩ := hsp; exact wpAny_execs_nil ⟨σ1, H1, J1.ofTry ok, q⟩
    | brk => obtain ⟨σ1, H1, J1, q⟩ := hsp; exact ⟨σ1, H1, J1.ofTry ok, q⟩
    | cont => obtain ⟨σ1, H1, J1, q⟩ := hsp; exact ⟨σ1, H1, J1.ofTry ok, q⟩
    | ret u => obtain ⟨v, σ1, H1, J1, r, q⟩ := hsp; exact ⟨v, σ1, H1, J1.ofTry ok, r, q⟩
  · intro u s' air
    obtain ⟨a, B, sI, ps1, σ1, H1, cls, d, rfl, I0, nb, up, sky, na, os, ag, b, hb1, yes, no⟩ := air
    have J := I0.ofTry ok
    rw [hs] at sky
    refine Sky.land Zc.steady hA hf sky fun h3 fl up3 => ?_
    have J3 : Inv X pins σ1 H1 { s' with heap := h3 } := J.landed nb fl.1 (up.trans up3) os ag
    obtain ⟨oe, vs, ge, gz, gd⟩ := fl.there
    have ownB : B.get? a = none := fl.2.1
    have far : ∀ {h : Heap} {o : Obj} {us : Array Value}, h.FunFrames B (X.env :: X.outer) → h.get? a = some o → o.data = .fields us → a ∉ frs (X.env :: X.outer) := fun ff e dd hm => by
      obtain ⟨_, o', e', x⟩ := ff.mem hm
      rw [e] at e'
      cases e'
      exact x _ dd
    have nfr := far fl.2.2.1 ge gd
    have nL : a ≠ X.env.locals := fun z => nfr (List.mem_filterMap.mpr ⟨X.env, .head _, by rw [hf, z]⟩)
    have nF : a ∉ X.fs := fun hm => by
      obtain ⟨e, he, q⟩ := List.mem_filterMap.mp hm
      exact nfr (List.mem_filterMap.mpr ⟨e, .tail _ he, q⟩)
    have inB : ∀ o, sI.heap.get? a ≠ some o := fun o e => by
      have := nb a o e (by rw [hs]; exact nfr)
      rw [ownB] at this
      cases this
    have new0 : X.s_0.heap.get? a = none := by
      cases e : X.s_0.heap.get? a with
      | none => rfl
      | some o =>
        obtain ⟨o', e'⟩ := J.base.there a o e (by rw [hex]; exact List.not_mem_nil)
        exact absurd e' (inB o')
    have npin : ∀ p ∈ X.pn ++ pins, p.1 ≠ a := fun p hp z => by
      obtain ⟨e, _⟩ := J.pin p hp
      rw [z] at e
      exact inB _ e
    have S3 := J3.suite ge gd na nL nF
    refine wpAny_handleBy_cons (codeAny_handlers_test (hT a oe _ _ _ _ b _ _ S3 ge (by rw [gz.1]; exact hb1) fun h5 k5 => ?_)) (by intro q; cases q)
    have fl5 := fly_up fl k5
    have up5 := (up.trans up3).trans (Heap.UpToSlots.of_keeps k5)
    cases b with
    | true =>
      refine codeAny_handlers_suite_as (HandSPX.lands_againZ fl5 fun h6 fl6 up6 => ?_)
      have J6 : Inv X pins σ1 H1 { s' with heap := h6 } := J.landed nb fl6.1 (up5.trans up6) os ag
      obtain ⟨oe6, vs6, ge6, gz6, gd6⟩ := fl6.there
      have S6 := J6.suite ge6 gd6 na nL nF
      refine store_ok (X := X.suite a ((a, oe6) :: (X.pn ++ pins))) (v := .ref a) S6 hN hi (.inl hln) rfl (fun s7 S7 => ?_) (.inr hln)
      have hiσ : i < σ1.length := by rw [J.len]; exact (List.getElem?_eq_some_iff.mp hi).1
      refine wpAny_mono ((hsu a oe6 (X.pn ++ pins)).run [] s7 _ H1 { nx := fun σ' H' => σ' = (σ1.set i (some (.ref a))).set j (some (.ref a)) ∧ H' = H1, rt := fun _ _ => False, bk := fun _ _ => False, ct := fun _ _ => False } S7 ⟨.ref a, List.getElem?_set_self hiσ, rfl, rfl⟩) (fun f s8 hsp => ?_) fun _ _ z => z.elim
      cases f with
      | brk => obtain ⟨_, _, _, z⟩ := hsp; exact z.elim
      | cont => obtain ⟨_, _, _, z⟩ := hsp; exact z.elim
      | ret u => obtain ⟨_, _, _, _, _, z⟩ := hsp; exact z.elim
      | next =>
        obtain ⟨_, _, S8, rfl, rfl⟩ := hsp
        obtain ⟨g8, _⟩ := S8.pin (a, oe6) (List.mem_append_left _ (.head _))
        have J8 := S8.unsuite ok
        have J9 := Inv.knows J8 g8 gd6 na new0 nL npin (keptO_ok g8 gz6 gd6)
        exact gone_ok J9 hN hi hln fun s9 J10 => ⟨_, _, J10, yes rfl a na⟩
    | false =>
      refine wpAny_handleBy_nil ?_
      obtain ⟨k1, k2, k3, oe', vs', T, oT, ts, q1, q2, q3, q4, q5⟩ := id fl5
      unfold PySem.passOn
      refine wpAny_bind (wpAny_field q1 q3 q4 ?_)
      rw [if_neg (show ¬ ((Value.ref T == Value.none) = true) from by simp)]
      have out : wpAny (model X.prog X.w) X.A (setFlight (.ref a) X.env.frame) (fun _ s4 => wpAny (model X.prog X.w) X.A (throw (.ref a) : Sem Flow) (SP X pins D) X.xe s4) X.xe { s' with heap := h5 } := by
        rw [hf]
        refine HandSPX.setFlight_upZ fl5 fun h4 hh4 up4 => wpAny_throw (tk _ _ ?_)
        exact ⟨a, B, sI, pins, σ1, H1, cls, d, rfl, J, nb, up5.trans up4, .inr (.inr (by rw [hs]; exact hh4)), na, os, ag, no rfl⟩
      first
        | exact wpAny_bind (wpAny_pure (wpAny_bind out))
        | exact wpAny_bind out
end
end Xm
set_option Elab.async false
set_option linter.all false
set_option maxRecDepth 100000
set_option maxHeartbeats 2000000
namespace Xm
open PySem PySem.Spec PyProof.Rows L2
def noB (st : AS) (i : Nat) : Bool := match st[i]? with
  | some .no => true
  | _ => false
def tryK (ct : Str → Option Bool) (i j : Nat) (b : SF) : SF := fun st => (b st).bind fun w => match w.1 with
  | .ret (.exc x) => (match ct x.cls with
    | some true => if noB w.2 i = true then (setB j (.exc x) w.2).map fun s => (.nx, s) else none
    | some false => some w
    | none => none)
  | _ => some w
theorem noB_at {st : AS} {i : Nat} (h : noB st i = true) : st[i]? = some .no := by
  unfold noB at h
  split at h
  · assumption
  · cases h
theorem setB_eq {st s : AS} {i : Nat} {o : Ob} (h : setB i o st = some s) : s = st.set i (.obj o) := by
  unfold setB at h
  split at h <;> cases h
  rfl
section
variable {X : Cx} {C : Ct} {n : Str} {cs : List Value} {i j : Nat} {body : List Stmt} {te : Expr} {st0 : Stmt} {pos pos' : Pos} {b : SF} {ct : Str → Option Bool}
theorem xs_tryK (hij : i ≠ j) (hex : X.ex = []) (hs : X.stack = X.env :: X.outer) (hf : X.env.frame = some X.env.locals) (hN : X.N.Nodup) (hi : X.N[i]? = some n) (hln : X.env.kindOf n = some .local) (hT : TestOk X te cs) (tk : Takes X C.W)
    (hct : ∀ m y cls, ct m = some y → X.mg m = some cls → PySem.W.exmAny X.K cls cs = some y)
    (hb : ∀ (W : WX) (pn : List (Addr × Obj)) (xe : Value → Shared → Prop), Takes (X.tr pn xe) W → PassesOwn (model X.prog X.w) X.A X.env xe → PSs (X.tr pn xe) body (sOf (kxOf X) { C with W := W } b))
    (hsu : ∀ (a : Addr) (oe : Obj) (pn : List (Addr × Obj)), PSs (X.suite a ((a, oe) :: pn)) [st0] (asgV i j)) :
    PS X (.Try body [.ExceptHandler (some te) (some n) [st0] pos'] [] [] pos) (sOf (kxOf X) C (tryK ct i j b)) :=
  ps_wk (ps_try_keep (tb := fun W => sOf (kxOf X) { C with W := W } b) hex hs hf hN hi hln hT tk hb hsu) fun Z σ H q => by
    obtain ⟨F, st, w, R, e, q⟩ := q
    obtain ⟨⟨fl, s2⟩, ev, e⟩ := Option.bind_eq_some_iff.mp e
    refine ⟨F, st, (fl, s2), R.withW, ev, ?_⟩
    cases fl with
    | nx => cases e; exact fun σ' H' F' s1 R1 => q σ' H' F' s1 R1.unW
    | brk => cases e; exact fun σ' H' F' s1 R1 => q σ' H' F' s1 R1.unW
    | cont => cases e; exact fun σ' H' F' s1 R1 => q σ' H' F' s1 R1.unW
    | ret r =>
      cases r with
      | val d => cases e; exact fun v σ' H' F' s1 R1 ok => q v σ' H' F' s1 R1.unW ok
      | new d => cases e; exact fun v σ' H' F' s1 R1 ok => q v σ' H' F' s1 R1.unW ok
      | dct d => cases e; exact fun v σ' H' F' s1 R1 ok => q v σ' H' F' s1 R1.unW ok
      | exc x =>
        dsimp only at e
        refine fun cls d σ' H' F' s1 R1 ok => ?_
        cases hx : ct x.cls with
        | none => rw [hx] at e; cases e
        | some y =>
          rw [hx] at e
          refine ⟨y, hct _ _ _ hx ok.1, fun hy a ha => ?_, fun hy => ?_⟩
          · subst hy
            dsimp only at e
            split at e
            · rename_i hno
              obtain ⟨s3, es, e⟩ := Option.map_eq_some_iff.mp e
              cases e
              obtain ⟨A, _⟩ := R1.unW.aside ha
              obtain ⟨ff, R2⟩ := (R1.unW.write (o := keptO cls d a) A).freezeO A.h0 A.f upd_same A.ap
              have R3 := R2.setB es ⟨cls, d, upd_same, ok.up ff⟩
              have hl : σ'.length = s2.length := R1.len.symm
              have e3 := setB_eq es
              have R4 := R3.slots (τ := ((σ'.set i (some (.ref a))).set j (some (.ref a))).set i none) (by simp) fun k hk => by
                have hki : k ≠ i := fun z => by
                  subst z
                  apply hk
                  rw [e3, List.getElem?_set_ne (Ne.symm hij)]
                  exact noB_at hno
                rw [List.getElem?_set_ne (Ne.symm hki)]
                by_cases hkj : k = j
                · subst hkj
                  by_cases hb : k < σ'.length
                  · rw [List.getElem?_set_self (by simpa using hb), List.getElem?_set_self hb]
                  · rw [List.getElem?_eq_none (by simp; omega), List.getElem?_eq_none (by simp; omega)]
                · rw [List.getElem?_set_ne (Ne.symm hkj), List.getElem?_set_ne (Ne.symm hkj), List.getElem?_set_ne (Ne.symm hki)]
              exact q _ _ _ (s1.trans ff) R4
            · cases e
          · subst hy
            cases e
            exact q cls d σ' H' F' s1 R1.unW ok
end
section
variable {X : Cx} {C : Ct} {pos p : Pos} {a : Expr} {i : Nat}
end
def CtOk (K : PySem.W.Frag) (mg : Str → Option Value) (ct : Str → Option Bool) (T : Addr → Bool → Prop) : Prop := ∀ m y cls, ct m = some y → mg m = some cls → ∃ Ca, cls = .ref Ca ∧ ExcC K Ca ∧ T Ca y
theorem kept_kit {X : Cx} {pins : List (Addr × Obj)} {σ : L2.St} {H : Hp} {s : Shared} {a Ca : Addr} {d : Option Addr} (I : Inv X pins σ H s) (T : ExcC X.K Ca) (ha : H a = some (keptO (.ref Ca) d a)) (hd : ∀ dd, d = some dd → ∃ fs, H dd = some (.xd fs)) :
    ∃ P : Heap → Prop, PySem.W.KitX X.K (.ref a) (.ref Ca) P ∧ P s.heap := by
  obtain ⟨⟨oe, vs, e, z, hv⟩, _⟩ := I.hok a _ ha
  have hc : (PySem.W.clsIn X.K Ca).isSome = true := by
    obtain ⟨cd, q, _⟩ := PySem.W.any_some T.hd
    rw [q]
    rfl
  have no : PySem.W.notCls oe = true := by unfold PySem.W.notCls; rw [hv] <;> rfl
  cases d with
  | none => exact ⟨_, PySem.W.kitx_exc (od := none) hc T.hg T.hk T.hs T.ha T.hn T.ht T.hm, ⟨e, z.1, no, by rw [z.2]; trivial⟩⟩
  | some dd =>
    obtain ⟨fs, hx⟩ := hd dd rfl
    obtain ⟨mA, hns, _⟩ := (show ObjOk X.prog X.w H s.heap dd (.xd fs) from I.hok dd _ hx)
    obtain ⟨od, ho, _⟩ := lookIn_ns hns
    exact ⟨_, PySem.W.kitx_exc (od := some od) hc T.hg T.hk T.hs T.ha T.hn T.ht T.hm, ⟨e, z.1, no, by rw [z.2]; exact ho⟩⟩
def isaX (i : Nat) (ct : Str → Option Bool) : EF := fun st => (obC st i).bind fun o => match o with
  | .exc x => (ct x.cls).map fun b => (.bool b, st)
  | _ => none
def rIsX1 (K : PySem.W.Frag) : List V → Hp → VK → Prop := fun xs H Q => ∃ (a Ca : Addr) (d : Option Addr) (c : V) (u : Value) (b : Bool), xs = [.ref a, c] ∧ ClsV c u ∧ ExcC K Ca ∧ H a = some (keptO (.ref Ca) d a) ∧ (∀ dd, d = some dd → ∃ fs, H dd = some (.xd fs)) ∧ PySem.W.kitOne K (.ref Ca) u = some b ∧ Q (.bl b) H
def rIsXT (K : PySem.W.Frag) : List V → Hp → VK → Prop := fun xs H Q => ∃ (a tp Ca : Addr) (d : Option Addr) (cs : List V) (us : List Value) (b : Bool), xs = [.ref a, .ref tp] ∧ H tp = some (.tup cs) ∧ Paired ClsV cs us ∧ ExcC K Ca ∧ H a = some (keptO (.ref Ca) d a) ∧ (∀ dd, d = some dd → ∃ fs, H dd = some (.xd fs)) ∧ PySem.W.kitAny K (.ref Ca) us = some b ∧ Q (.bl b) H
theorem call_isX1 {X : Cx} : CallR X (.builtin "isinstance") (rIsX1 X.K) := by
  intro pins s σ H xs us Q I r h
  obtain ⟨a, Ca, d, c, u, b, rfl, k, T, ha, hd, e, q⟩ := h
  obtain ⟨u1, u2, rfl, r1, r2⟩ := vals2 r
  have e2 := k.eq r2
  subst e2
  cases r1
  obtain ⟨P, Z, p⟩ := kept_kit I T ha hd
  exact PySem.W.kia_one Z I.kIn p e (fun z => nomatch z) fun tk => ⟨.bl b, H, I.tok tk, rfl, q⟩
theorem call_isXT {X : Cx} : CallR X (.builtin "isinstance") (rIsXT X.K) := by
  intro pins s σ H xs us Q I r h
  obtain ⟨a, tp, Ca, d, cs, ws, b, rfl, hT, k, T, ha, hd, e, q⟩ := h
  obtain ⟨u1, u2, rfl, r1, r2⟩ := vals2 r
  cases r1
  cases r2
  obtain ⟨P, Z, p⟩ := kept_kit I T ha hd
  obtain ⟨_, its, rv, o, h1, h2, n, h3⟩ := (show ObjOk X.prog X.w H s.heap tp (.tup cs) from I.hok tp _ hT)
  have e3 := ClsV.all k rv
  subst e3
  obtain ⟨oc, od, dt, sl⟩ := o
  simp only at h2 h3
  subst h2 h3
  exact PySem.W.kia_tup Z I.kIn p h1 e (fun z => nomatch z) fun tk => ⟨.bl b, H, I.tok tk, rfl, q⟩
section
variable {X : Cx} {C : Ct} {pos p p2 : Pos} {a c : Expr} {i : Nat} {ct : Str → Option Bool}
theorem Rel.excAt {F H : Hp} {st : AS} {σ : L2.St} {x : Ex} (R : Rel (kxOf X) C F st σ H) (h : obC st i = some (.exc x)) : ∃ (q : Addr) (cls : Value) (d : Option Addr), σ[i]? = some (some (.ref q)) ∧ F q = some (keptO cls d q) ∧ ExOk (kxOf X) F x cls d ∧ ∀ dd, d = some dd → ∃ fs, F dd = some (.xd fs) := by
  obtain ⟨q, h1, cls, d, h2, h3⟩ := R.obj h
  refine ⟨q, cls, d, h1, h2, h3, fun dd e => ?_⟩
  rcases h3.2 with ⟨_, z⟩ | ⟨d2, fs, z, hx, _⟩
  · rw [z] at e; cases e
  · rw [z] at e
    cases e
    exact ⟨fs, hx⟩
theorem xd_isaX1 {v : V} {u : Value} (hm : X.mg "isinstance" = none) (ha : PE X a (tVar i)) (hc : PE X c (tC v)) (k : ClsV v u) (hct : CtOk X.K X.mg ct fun Ca y => PySem.W.kitOne X.K (.ref Ca) u = some y) (hg : Gl X "isinstance" := by rfl)
    (he : starEach [a, c] X.env = (false, eval a X.env) :: starEach [c] X.env := by rfl) (he2 : starEach [c] X.env = (false, eval c X.env) :: starEach [] X.env := by rfl) (hpl : (backTo pos (starEach [c] X.env)).any (·.1) = false := by rfl) :
    PE X (.Call (.Name "isinstance" p) [a, c] [] pos) (dOf (kxOf X) C (isaX i ct)) :=
  pe_wk (pe_callB call_isX1 hg hm (by decide +kernel) (pa_cons ha (pa_cons hc pa_nil he2) he) (he := he) (hpl := hpl)) fun σ H Q q => by
    obtain ⟨F, st, w, R, e, q⟩ := q
    obtain ⟨o, eo, e⟩ := Option.bind_eq_some_iff.mp e
    cases o with
    | nkd _ => cases e
    | fnc _ => cases e
    | exc x =>
      obtain ⟨y, ey, e⟩ := Option.map_eq_some_iff.mp e
      cases e
      obtain ⟨r, cls, d, h1, h2, ok, hx⟩ := R.excAt eo
      obtain ⟨Ca, rfl, T, hk⟩ := hct _ _ _ ey ok.1
      exact ⟨.ref r, h1, r, Ca, d, v, u, y, rfl, k, T, R.fh _ _ h2, fun dd z => let ⟨fs, g⟩ := hx dd z; ⟨fs, R.fh _ _ g⟩, hk, q _ H F (Same.refl _) R (.bl _)⟩
def tCs (vs : List V) : TA := fun _ H Q => Q vs H
theorem pa_cs {es : List Expr} {vs : List V} {v : V} {e : Expr} (he : PE X e (tC v)) (hr : PA X es (tCs vs)) (hs : starEach (e :: es) X.env = (false, eval e X.env) :: starEach es X.env := by rfl) : PA X (e :: es) (tCs (v :: vs)) := pa_cons he hr hs
theorem xd_isaXT {es : List Expr} {kk : Nat} {tp : Pos} {vs : List V} {us : List Value} (hm : X.mg "isinstance" = none) (ha : PE X a (tVar i)) (hc : PA X es (tCs vs)) (hl : vs.length ≤ 1000) (k : Paired ClsV vs us) (hct : CtOk X.K X.mg ct fun Ca y => PySem.W.kitAny X.K (.ref Ca) us = some y) (hg : Gl X "isinstance" := by rfl)
    (he : starEach [a, .Tuple es kk tp] X.env = (false, eval a X.env) :: starEach [.Tuple es kk tp] X.env := by rfl) (he2 : starEach [.Tuple es kk tp] X.env = (false, eval (.Tuple es kk tp) X.env) :: starEach [] X.env := by rfl) (hpl : (backTo pos (starEach [.Tuple es kk tp] X.env)).any (·.1) = false := by rfl) :
    PE X (.Call (.Name "isinstance" p) [a, .Tuple es kk tp] [] pos) (dOf (kxOf X) C (isaX i ct)) :=
  pe_wk (pe_callB call_isXT hg hm (by decide +kernel) (pa_cons ha (pa_cons (pe_tup hc) pa_nil he2) he) (he := he) (hpl := hpl)) fun σ H Q q => by
    obtain ⟨F, st, w, R, e, q⟩ := q
    obtain ⟨o, eo, e⟩ := Option.bind_eq_some_iff.mp e
    cases o with
    | nkd _ => cases e
    | fnc _ => cases e
    | exc x =>
      obtain ⟨y, ey, e⟩ := Option.map_eq_some_iff.mp e
      cases e
      obtain ⟨r, cls, d, h1, h2, ok, hx⟩ := R.excAt eo
      obtain ⟨Ca, rfl, T, hk⟩ := hct _ _ _ ey ok.1
      refine ⟨.ref r, h1, sl_le (by omega), fun t ht => ?_⟩
      have g := Gr.new (o := .tup vs) R.fh ht
      have g2 : ∀ {b : Addr} {o : HO}, F b = some o → upd H t (.tup vs) b = some o := fun {b o} z => g.hh _ _ (R.fh _ _ z)
      exact ⟨r, t, Ca, d, vs, us, y, rfl, upd_same, k, T, g2 h2, fun dd z => let ⟨fs, gg⟩ := hx dd z; ⟨fs, g2 gg⟩, hk, q _ _ _ g.ff (R.grow g) (.bl _)⟩
end
section
variable {st : AS} {i j : Nat} {b : SF} {ct : Str → Option Bool} {QS : Fl → AS → Prop} {QD : D → AS → Prop}
theorem wp_tryK (w : Wp b st fun fl s1 => match fl with
    | .ret (.exc x) => ∃ y, ct x.cls = some y ∧ if y = true then noB s1 i = true ∧ ∃ s2, setB j (.exc x) s1 = some s2 ∧ QS .nx s2 else QS (.ret (.exc x)) s1
    | .ret (.val d) => QS (.ret (.val d)) s1
    | .ret (.new d) => QS (.ret (.new d)) s1
    | .ret (.dct d) => QS (.ret (.dct d)) s1
    | .nx => QS .nx s1
    | .brk => QS .brk s1
    | .cont => QS .cont s1) : Wp (tryK ct i j b) st QS := by
  obtain ⟨fl, s1, e, q⟩ := w
  cases fl with
  | nx => exact ⟨_, _, by unfold tryK; rw [e]; rfl, q⟩
  | brk => exact ⟨_, _, by unfold tryK; rw [e]; rfl, q⟩
  | cont => exact ⟨_, _, by unfold tryK; rw [e]; rfl, q⟩
  | ret r =>
    cases r with
    | val d => exact ⟨_, _, by unfold tryK; rw [e]; rfl, q⟩
    | new d => exact ⟨_, _, by unfold tryK; rw [e]; rfl, q⟩
    | dct d => exact ⟨_, _, by unfold tryK; rw [e]; rfl, q⟩
    | exc x =>
      obtain ⟨y, hy, q⟩ := q
      cases y with
      | true =>
        rw [if_pos rfl] at q
        obtain ⟨h1, s2, e2, q⟩ := q
        exact ⟨.nx, s2, by unfold tryK; rw [e]; simp only [Option.bind_some, hy, if_pos h1, e2]; rfl, q⟩
      | false =>
        rw [if_neg Bool.false_ne_true] at q
        exact ⟨_, _, by unfold tryK; rw [e]; simp only [Option.bind_some, hy], q⟩
theorem wp_isaX {x : Ex} {y : Bool} (e : st[i]? = some (.obj (.exc x))) (hy : ct x.cls = some y) (q : QD (.bool y) st) : Wp (isaX i ct) st QD := ⟨_, _, by unfold isaX obC; rw [e]; simp only [Option.bind_some, hy]; rfl, q⟩
end
end Xm
set_option Elab.async false
set_option linter.all false
set_option maxRecDepth 100000
namespace Xm
open PySem PySem.Spec PyProof.Rows L2
section
variable {X : Cx} {C : Ct} {pos : Pos}
end
section
variable {X : Cx} {C : Ct} {pos : Pos} {elt tg iter tg1 iter1 : Expr} {ifs ifs1 : List Expr} {scope : Scope} {own : List (Str × Nat)} {it it1 : LF} {u u1 : D → AS → Option AS} {ts ts1 : List Nat} {tt tt1 : BF} {te : EF} {vs vs1 : List Nat}
end
section
variable {it it1 : LF} {u u1 : D → AS → Option AS} {tt tt1 : BF} {te : EF} {vs vs1 : List Nat} {st : AS} {QL : List D → AS → Prop}
end
end Xm
set_option Elab.async false
set_option linter.all false
set_option maxRecDepth 100000
namespace Xm
open PySem PySem.Spec PyProof.Rows L2
section
variable {prog : Program} {w : World} {A : Around} {E : Value → Shared → Prop} {s : Shared}
end
section
variable {X : Cx} {C : Ct} {pos p : Pos} {e : Expr} {es : List Expr}
end
end Xm
set_option Elab.async false
set_option linter.all false
set_option maxRecDepth 100000
namespace Xm
open PySem PySem.Spec PyProof.Rows L2
abbrev IsZs (h : Heap) (z TI TO : Addr) (sb : Bool) (f0 f1 : Value) : Prop :=
  h.get? z = some { cls := .type "zip", dict := none, data := .fields #[f0, f1, .bool sb, .ref TI, .ref TO], slots := #[] }
abbrev TupN (h : Heap) (T : Addr) (xs : Array Value) : Prop := h.get? T = some { cls := .type "tuple", data := .seq xs }
structure Sep2 (z TI TO i1 i2 : Addr) (q1 q2 : List Addr) : Prop where
  TIz : TI ≠ z
  TOz : TO ≠ z
  TIO : TI ≠ TO
  j1 : TI ≠ i1
  j2 : TI ≠ i2
  k1 : i1 ∈ q1
  k2 : i2 ∈ q2
  z1 : z ∉ q1
  z2 : z ∉ q2
  o1 : TO ∉ q1
  o2 : TO ∉ q2
  s1_2 : i2 ∉ q1
  s2_1 : i1 ∉ q2
structure Sep3 (z TI TO i1 i2 i3 : Addr) (q1 q2 q3 : List Addr) : Prop extends Sep2 z TI TO i1 i2 q1 q2 where
  j3 : TI ≠ i3
  k3 : i3 ∈ q3
  z3 : z ∉ q3
  o3 : TO ∉ q3
  s1_3 : i3 ∉ q1
  s2_3 : i3 ∉ q2
  s3_1 : i1 ∉ q3
  s3_2 : i2 ∉ q3
section
variable {z TI TO i1 i2 i3 : Addr} {q1 q2 q3 : List Addr}
theorem Sep2.n1 (S : Sep2 z TI TO i1 i2 q1 q2) : TO ≠ i1 := fun e => S.o1 (e ▸ S.k1)
theorem Sep2.n2 (S : Sep2 z TI TO i1 i2 q1 q2) : TO ≠ i2 := fun e => S.o2 (e ▸ S.k2)
theorem Sep2.w1 (S : Sep2 z TI TO i1 i2 q1 q2) : z ≠ i1 := fun e => S.z1 (e ▸ S.k1)
theorem Sep2.w2 (S : Sep2 z TI TO i1 i2 q1 q2) : z ≠ i2 := fun e => S.z2 (e ▸ S.k2)
theorem Sep3.n1 (S : Sep3 z TI TO i1 i2 i3 q1 q2 q3) : TO ≠ i1 := S.toSep2.n1
theorem Sep3.n2 (S : Sep3 z TI TO i1 i2 i3 q1 q2 q3) : TO ≠ i2 := S.toSep2.n2
theorem Sep3.w1 (S : Sep3 z TI TO i1 i2 i3 q1 q2 q3) : z ≠ i1 := S.toSep2.w1
theorem Sep3.w2 (S : Sep3 z TI TO i1 i2 i3 q1 q2 q3) : z ≠ i2 := S.toSep2.w2
theorem Sep3.n3 (S : Sep3 z TI TO i1 i2 i3 q1 q2 q3) : TO ≠ i3 := fun e => S.o3 (e ▸ S.k3)
theorem Sep3.w3 (S : Sep3 z TI TO i1 i2 i3 q1 q2 q3) : z ≠ i3 := fun e => S.z3 (e ▸ S.k3)
end
section
variable {prog : Program} {w : World} {A : Around} {E : Value → Shared → Prop} {s : Shared}
end
section
variable {prog : Program} {w : World} {A : Around} {E : Value → Shared → Prop} {s : Shared}
end
section
variable {prog : Program} {w : World} {A : Around} {E : Value → Shared → Prop} {s : Shared}
end
section
variable {prog : Program} {w : World} {A : Around} {E : Value → Shared → Prop} {s : Shared} {z TI TO i1 i2 : Addr} {q1 q2 : List Addr} {n i : Nat} {P1 P2 : Nat → Value → Prop} {T1 T2 : Nat → Heap → Prop} {a1 a2 f0 f1 : Value}
end
section
variable {prog : Program} {w : World} {A : Around} {E : Value → Shared → Prop} {s : Shared} {z TI TO i1 i2 : Addr} {q1 q2 : List Addr} {n i : Nat} {P1 P2 : Nat → Value → Prop} {T1 T2 : Nat → Heap → Prop} {a1 a2 f0 f1 : Value}
end
section
variable {prog : Program} {w : World} {A : Around} {E : Value → Shared → Prop} {s : Shared} {z TI TO i1 i2 i3 : Addr} {q1 q2 q3 : List Addr} {n i : Nat} {P1 P2 P3 : Nat → Value → Prop} {T1 T2 T3 : Nat → Heap → Prop} {a1 a2 a3 f0 f1 : Value}
end
end Xm
set_option Elab.async false
set_option linter.all false
set_option maxRecDepth 100000
set_option maxHeartbeats 1000000
namespace Xm
open PySem PySem.Spec PyProof.Rows L2
end Xm
set_option Elab.async false
set_option linter.all false
set_option maxRecDepth 100000
set_option maxHeartbeats 1000000
namespace Xm
open PySem PySem.Spec PyProof.Rows L2
def SqI (t : Bool) (h : Heap) (it l : Addr) (k : Nat) : Prop := match t with
  | true => h.IsTupleIter it l k
  | false => h.IsListIter it l k
def SqO (t : Bool) (h : Heap) (l : Addr) (items : Array Value) : Prop := match t with
  | true => h.IsTuple l items
  | false => h.IsList l items
def Sq (t : Bool) (K : PySem.W.Frag) (H : Hp) (a : Addr) (xs : List V) : Prop := match t with
  | true => SqT K H a xs
  | false => SqL K H a xs
section
variable {prog : Program} {w : World} {A : Around} {E : Value → Shared → Prop} {s : Shared}
theorem sqI_at {t : Bool} {h h' : Heap} {it l : Addr} {k : Nat} (x : SqI t h it l k) (kk : ∀ o, h.get? it = some o → h'.get? it = some o) : SqI t h' it l k := by
  cases t with
  | true => exact Heap.IsTupleIter.at x kk
  | false => exact Heap.IsListIter.at x kk
end
theorem _root_.L2.Inv.sq {X : Cx} {pins : List (Addr × Obj)} {σ : L2.St} {H : Hp} {s : Shared} {t : Bool} {a : Addr} {xs : List V} (I : Inv X pins σ H s) (h : Sq t X.K H a xs) : ∃ its : List Value, Vals xs its ∧ SqO t s.heap a its.toArray ∧ a < s.heap.objs.size := by
  cases t with
  | true => obtain ⟨its, rv, p, _⟩ := I.tuple h; obtain ⟨o, e, c, n, d⟩ := p; exact ⟨its, rv, ⟨o, e, c, n, d⟩, Heap.lt_size e⟩
  | false => obtain ⟨its, rv, p, _⟩ := I.list h; exact ⟨its, rv, p.isList, p.lt⟩
end Xm
set_option Elab.async false
set_option linter.all false
set_option maxRecDepth 100000
set_option maxHeartbeats 1000000
namespace Xm
open PySem PySem.Spec PyProof.Rows L2
section
variable {M : Model} {A : Around} {E : Value → Shared → Prop} {s : Shared} {env : Env}
end
section
variable {X : Cx} {C : Ct} {pos p tpos p2 kp : Pos} {elts : List Expr} {kk j : Nat} {a b c : Expr} {f g h : EF} {ta : TA}
end
section
variable {f g h : EF} {st : AS} {QL : List D → AS → Prop}
end
end Xm
set_option Elab.async false
set_option linter.all false
set_option maxRecDepth 100000
set_option maxHeartbeats 1000000
namespace Xm
open PySem PySem.Spec PyProof.Rows L2
structure ZL (h : Heap) (sb : Bool) (z TI TO i1 i2 a1 a2 S : Addr) (b1 b2 : Bool) (u1 u2 : Array Value) (i : Nat) : Prop where
  zz : ∃ f0 fb, IsZs h z TI TO sb f0 (.bool fb) ∧ (f0 = .none ∨ ∃ (T : Addr) (oT : Obj), f0 = rawInt (T : Nat) ∧ h.get? T = some oT ∧ T ≠ S)
  hI : TupN h TI #[.ref i1, .ref i2]
  hO : ∃ x y, TupN h TO #[x, y]
  t1 : SqI b1 h i1 a1 i
  t2 : SqI b2 h i2 a2 i
  o1 : SqO b1 h a1 u1
  o2 : SqO b2 h a2 u2
theorem sqO_at {t : Bool} {h h' : Heap} {l : Addr} {u : Array Value} (x : SqO t h l u) (kk : ∀ o, h.get? l = some o → h'.get? l = some o) : SqO t h' l u := by
  cases t with
  | true => obtain ⟨o, e, r⟩ := x; exact ⟨o, kk _ e, r⟩
  | false => exact Heap.IsList.at x kk
structure ZLok (z TI TO i1 i2 a1 a2 S : Addr) : Prop where
  sep : Sep2 z TI TO i1 i2 [i1, a1] [i2, a2]
  n1 : a1 ≠ i1
  n2 : a2 ≠ i2
  sz : S ≠ z
  sI : S ≠ TI
  sO : S ≠ TO
  s1 : S ≠ i1
  s2 : S ≠ i2
  sa : S ≠ a1
  sb : S ≠ a2
theorem ZL.keep {h h' : Heap} {sb : Bool} {z TI TO i1 i2 a1 a2 S : Addr} {b1 b2 : Bool} {u1 u2 : Array Value} {i : Nat} (x : ZL h sb z TI TO i1 i2 a1 a2 S b1 b2 u1 u2 i) (k : ZLok z TI TO i1 i2 a1 a2 S) (kk : ∀ b o, b ≠ S → h.get? b = some o → h'.get? b = some o) : ZL h' sb z TI TO i1 i2 a1 a2 S b1 b2 u1 u2 i where
  zz := by
    obtain ⟨f0, fb, e, r⟩ := x.zz
    refine ⟨f0, fb, kk _ _ k.sz.symm e, ?_⟩
    rcases r with r | ⟨T, oT, r1, r2, r3⟩
    · exact .inl r
    · exact .inr ⟨T, oT, r1, kk _ _ r3 r2, r3⟩
  hI := kk _ _ k.sI.symm x.hI
  hO := let ⟨a, b, e⟩ := x.hO; ⟨a, b, kk _ _ k.sO.symm e⟩
  t1 := sqI_at x.t1 fun o e => kk _ _ k.s1.symm e
  t2 := sqI_at x.t2 fun o e => kk _ _ k.s2.symm e
  o1 := sqO_at x.o1 fun o e => kk _ _ k.sa.symm e
  o2 := sqO_at x.o2 fun o e => kk _ _ k.sb.symm e
section
variable {prog : Program} {w : World} {A : Around} {E : Value → Shared → Prop} {s : Shared} {z TI TO i1 i2 a1 a2 S : Addr} {sb b1 b2 : Bool} {u1 u2 : Array Value} {i : Nat}
end
section
variable {prog : Program} {w : World} {A : Around} {s : Shared} {R : Result → Shared → Prop} {z TI TO i1 i2 a1 a2 S : Addr} {sb b1 b2 : Bool} {u1 u2 : Array Value}
end
section
variable {prog : Program} {w : World} {A : Around} {s : Shared} {R : Result → Shared → Prop} {z TI TO i1 i2 a1 a2 S : Addr} {sb b1 b2 : Bool} {u1 u2 : Array Value}
end
section
variable {prog : Program} {w : World} {A : Around} {E : Value → Shared → Prop} {s : Shared} {z TI TO i1 i2 a1 a2 : Addr} {sb b1 b2 : Bool} {u1 u2 : Array Value}
end
end Xm
set_option Elab.async false
set_option linter.all false
set_option maxRecDepth 100000
set_option maxHeartbeats 1000000
namespace Xm
open PySem PySem.Spec PyProof.Rows L2
section
variable {X : Cx} {C : Ct} {pos p pos2 q p2 kp : Pos} {j : Nat} {a b : Expr} {f g : EF} {ta : TA}
end
section
variable {X : Cx} {C : Ct} {pos p pos2 q p2 kp : Pos} {j : Nat} {a b : Expr} {f g : EF}
end
end Xm
set_option Elab.async false
set_option linter.all false
set_option maxRecDepth 100000
set_option maxHeartbeats 1000000
namespace Xm
open PySem PySem.Spec PyProof.Rows L2
section
variable {prog : Program} {w : World} {A : Around} {R : Result → Shared → Prop} {s : Shared} {elt : Expr} {gs : List Comprehension} {sco : Scope} {ps : Pos} {k : Nat} {t0 : Expr} {ifs : List Expr} {p : Pos} {act : (Unit → Sem PySem.Fin) → Sem PySem.Fin} {it acc : Value} {env : Env}
end
section
variable {prog : Program} {w : World} {A : Around} {R : Result → Shared → Prop} {s : Shared} {elt t0 i0 t1 i1 t2 i2 : Expr} {f0 f1 f2 : List Expr} {scope : Scope} {pos : Pos} {it acc : Value} {env : Env}
end
abbrev TB := L2.St → Hp → (Hp → Prop) → Prop
section
variable {X : Cx} {elt : Expr} {gs : List Comprehension} {sco : Scope} {ps : Pos} {k : Nat} {t0 i0 : Expr} {ifs : List Expr} {p : Pos} {act : (Unit → Sem PySem.Fin) → Sem PySem.Fin} {D : Addr} {wi : TI} {g : TG} {tt : TT} {B : TB} {vs vs1 : List Nat}
end
end Xm
set_option Elab.async false
set_option linter.all false
set_option maxRecDepth 100000
set_option maxHeartbeats 1000000
namespace Xm
open PySem PySem.Spec PyProof.Rows L2
section
variable {X : Cx}
section
variable {elt tg iter tg1 iter1 tg2 iter2 : Expr} {ifs ifs1 ifs2 : List Expr} {scope : Scope} {own : List (Str × Nat)} {vs1 vs2 : List Nat} {pos : Pos} {wi wi1 wi2 : TI} {g g1 g2 : TG} {tt tt1 tt2 : TT} {te : TE}
end
end
abbrev RowF := AS → Option (List D × AS)
section
variable {X : Cx} {C : Ct} {pos : Pos} {elt tg iter tg1 iter1 tg2 iter2 : Expr} {ifs ifs1 ifs2 : List Expr} {scope : Scope} {own : List (Str × Nat)} {it it1 it2 : LF} {u u1 u2 : D → AS → Option AS} {ts ts1 ts2 : List Nat} {tt tt1 tt2 : BF} {te : EF} {vs vs1 vs2 : List Nat}
end
section
variable {it : LF} {u : D → AS → Option AS} {tt : BF} {te : EF} {body : RowF} {vs : List Nat} {st : AS} {QL : List D → AS → Prop}
end
end Xm
set_option Elab.async false
set_option linter.all false
set_option maxRecDepth 100000
set_option maxHeartbeats 1000000
namespace Xm
open PySem PySem.Spec PyProof.Rows L2
section
variable {X : Cx} {pins : List (Addr × Obj)} {σ : L2.St} {H : Hp} {s : Shared}
end
section
variable {X : Cx} {C : Ct} {pos p : Pos} {e : Expr} {f : EF}
end
end Xm
set_option Elab.async false
set_option linter.all false
set_option maxRecDepth 100000
set_option maxHeartbeats 2000000
namespace Xm
open PySem PySem.Spec PyProof.Rows L2
theorem asgV_ok {Y : Cx} {st : Stmt} {i j : Nat} (h : PS Y st (tAsg (tVar i) (gName j))) : PSs Y [st] (asgV i j) := pss_one h
section
variable {X : Cx}
end
theorem ct1_T {mg : Str → Option Value} {n : Str} {D : Value} {b : Bool} {T : Value → Bool → Prop} (hm : mg n = some D) (h : T D b) : ∀ m y cls, ct1 n b m = some y → mg m = some cls → T cls y := fun m y cls e1 e2 => by
  unfold ct1 at e1
  split at e1
  · rename_i hm'
    cases e1
    subst hm'
    rw [hm] at e2
    cases e2
    exact h
  · cases e1
section
variable {K : PySem.W.Frag} {t c d e : Value} {b1 b2 b3 b : Bool}
theorem exm3 (h1 : PySem.W.exmOne K t c = some b1) (h2 : PySem.W.exmOne K t d = some b2) (h3 : PySem.W.exmOne K t e = some b3) (hb : (b1 || (b2 || (b3 || false))) = b := by rfl) : PySem.W.exmAny K t [c, d, e] = some b := by
  subst hb
  simp only [PySem.W.exmAny, h1, h2, h3]
end
theorem ctOk_of {K : PySem.W.Frag} {mg : Str → Option Value} {ct : Str → Option Bool} {T : Addr → Bool → Prop} (h : ∀ m y cls, ct m = some y → mg m = some cls → (fun v b => ∃ Ca, v = Value.ref Ca ∧ ExcC K Ca ∧ T Ca b) cls y) : CtOk K mg ct T := h
theorem ctOk1 {K : PySem.W.Frag} {mg : Str → Option Value} {n : Str} {D : Addr} {b : Bool} {T : Addr → Bool → Prop} (hm : mg n = some (.ref D)) (hx : ExcC K D) (h : T D b) : CtOk K mg (ct1 n b) T := ctOk_of (ct1_T hm ⟨D, rfl, hx, h⟩)
theorem ExcC.xf {K : PySem.W.Frag} {D : Addr} (h : ExcC K D) : XfC K D := ⟨h.hg, h.hk, h.hs, h.hd⟩
end Xm
set_option Elab.async false
set_option linter.all false
set_option maxRecDepth 100000
set_option maxHeartbeats 2000000
namespace Xm
open PySem PySem.Spec PyProof.Rows L2
section
variable {X : Cx} {C : Ct} {pos spos py : Pos} {y : Str} {i : Nat} {elt tg iter tg1 iter1 : Expr} {ifs ifs1 : List Expr} {scope : Scope} {own : List (Str × Nat)} {it it1 : LF} {u u1 : D → AS → Option AS} {ts ts1 : List Nat} {tt tt1 : BF} {te : EF} {vs vs1 : List Nat}
end
end Xm
set_option Elab.async false
set_option linter.all false
set_option maxRecDepth 100000
set_option maxHeartbeats 4000000
namespace Xm
open PySem PySem.Spec PyProof.Rows L2 LamX
section
variable {X : Cx} {pins : List (Addr × Obj)} {σ : L2.St} {H : Hp} {s : Shared}
end
end Xm
set_option Elab.async false
set_option linter.all false
set_option maxRecDepth 100000
set_option maxHeartbeats 4000000
namespace Xm
open PySem PySem.Spec PyProof.Rows L2 LamX
def callZ (f : Addr) (r0 : RV) (i : Nat) : AS → Option (RV × AS) := fun st => match st[i]? with
  | some (.obj (.fnc g)) => if g = f then some (r0, st) else none
  | _ => none
abbrev hearCx (P : Program) (w : World) (K : PySem.W.Frag) (mg : Str → Option Value) (base : Heap) (N : List Str) (x : Str) (sg : Scope) (g : Addr) (cdv : Value) (A : Around) (outer : List Env) (s : Shared) (H : Hp) : Cx := cxOf (CXM P w) P w K mg base N x sg g cdv A outer s H E0
def ActsZ (Z : Cx) (K : Kx) (a : Str) (F0 : Hp) (f : Addr) (r0 : RV) : Prop :=
  ∀ (W : WX) (pn : List (Addr × Obj)) (xe : Value → Shared → Prop), Takes (Z.tr pn xe) W → ∀ C : Ct, C.W = W → C.F0 = F0 → ∀ p1 p2 : Pos, PE (Z.tr pn xe) (.Call (.Name a p1) [] [] p2) (xOf K C (callZ f r0 0))
section
variable {X : Cx} {pins : List (Addr × Obj)} {σ : L2.St} {H : Hp} {s : Shared}
end
end Xm
set_option Elab.async false
set_option linter.all false
set_option maxRecDepth 100000
set_option maxHeartbeats 4000000
namespace Xm
open PySem PySem.Spec PyProof.Rows L2 LamX
def sth (n : Nat) (f : Addr) : AS := Slot.obj (.fnc f) :: List.replicate (n - 1) Slot.no
open Classical in
noncomputable def mfH (g : Addr → RV → SF) (n : Nat) : RV → Option RV := fun r0 => if h : ∃ r', ∀ f, Leaves (g f r0) (sth n f) r' (fun _ => True) then some h.choose else none
structure Heard (P : Program) (w : World) (K : PySem.W.Frag) (mg : Str → Option Value) (base : Heap) (k : Nat) (x : Str) (mfh : RV → Option RV) : Prop where
  ex : ∃ (g : Addr) (fd : FuncData) (st : Stmt) (a : Str) (N : List Str) (gr : Addr → RV → SF), Dn K x st [] g fd ∧ FnScope N [a] (defScope st) ∧ mg x = some (.ref g) ∧ PySem.W.keepIn K (.ref g) = true ∧ Binds K fd [a] [] ∧ N[0]? = some a ∧ Vis (defScope st) a ∧ (a == ("__debug__" : Str)) = false ∧ (a == ("__classdict__" : Str)) = false ∧
    (∀ r0 r', mfh r0 = some r' → ∀ f, Leaves (gr f r0) (sth N.length f) r' fun _ => True) ∧
    ∀ (f : Addr) (r0 : RV) (C : Ct) (cdv : Value) (A : Around) (outer : List Env) (s : Shared) (H : Hp), Room k (A.deeper (envOfC x (defScope st) s.heap.objs.size g cdv)) → (A.deeper (envOfC x (defScope st) s.heap.objs.size g cdv)).guards = some [] →
      ActsZ (hearCx P w K mg base N x (defScope st) g cdv A outer s H) ⟨K, P, w, mg⟩ a C.F0 f r0 → C.W = (fun cls d _ H => E0 cls d H) → PSs (hearCx P w K mg base N x (defScope st) g cdv A outer s H) (defBody st) (sOf ⟨K, P, w, mg⟩ C (gr f r0))
section
variable {X : Cx}
end
end Xm
set_option Elab.async false
set_option linter.all false
set_option maxRecDepth 100000
set_option maxHeartbeats 4000000
namespace Xm
open PySem PySem.Spec PyProof.Rows L2 LamX
section
variable {P : Program} {w : World} {K : PySem.W.Frag} {mg : Str → Option Value} {base : Heap} {CX : CXT} {k : Nat} {f c T : Addr} {N : List Str}
end
end Xm
set_option Elab.async false
set_option linter.all false
set_option maxRecDepth 100000
set_option maxHeartbeats 4000000
namespace Xm
open PySem PySem.Spec PyProof.Rows L2 LamX
end Xm
set_option Elab.async false
set_option linter.all false
set_option maxRecDepth 100000
namespace Xm
open PySem PySem.Spec PyProof.Rows L2
section
variable {X : Cx} {C : Ct} {j k n m : Nat} {x : Str} {p pos kpos : Pos} {e : Expr} {es : List Expr} {kws : List Keyword} {g h : LF} {f : EF} {mf : List D → Option RV} {ks : List Str} {src : List (Nat ⊕ Nat)} {nm : Option Str}
end
end Xm
namespace Xm
open PySem PySem.Spec PyProof.Rows L2
end Xm
namespace Xm
open PySem PySem.Spec PyProof.Rows L2
end Xm
namespace Xm
open PySem PySem.Spec PyProof.Rows L2
end Xm
set_option Elab.async false
set_option linter.all false
set_option maxRecDepth 100000
set_option maxHeartbeats 2000000
namespace Xm
open PySem PySem.Spec PyProof.Rows L2
structure ClsG (mg : Str → Option Value) (n : Str) (C : Addr) : Prop where
  mg : mg n = some (.ref C)
section
variable {X : Cx} {C : Ct} {e : Expr} {c : AS → Option (RV × AS)}
end
section
variable {X : Cx} {C : Ct} {pos : Pos} {a b : Expr} {i : Nat}
end
section
variable {X : Cx} {C : Ct} {j k : Nat} {x : Str} {p pos : Pos} {e : Expr} {mf : List D → Option RV} {c : AS → Option (RV × AS)}
end
end Xm
set_option Elab.async false
set_option linter.all false
set_option maxRecDepth 100000
set_option maxHeartbeats 4000000
namespace Xk
open PySem PySem.HandSPX PySem.Builtin PySem.Builtin.ObjectAttr
abbrev keT : List Value := [.type "KeyError", .type "LookupError", .type "Exception", .type "BaseException", .type "object"]
theorem initSlot : Slot "KeyError" "__init__" "KeyError.__init__" := by refine .of (owner := "KeyError") (n := "__init__") ?_ ?_ ?_ ?_ ?_ ?_ <;> first | decide +kernel | exact .inl (by decide +kernel) | exact .inr (by decide +kernel) | (rw [typeLookup_type, builtinLookup_eq_fast]; kernel_rfl) | (rw [isSubtype_type]; kernel_rfl)
theorem initEntry : entryFor table "KeyError.__init__" = some Builtin.«BaseException.__init__» := by refine entryFor_alias (id' := "BaseException.__init__") ?_ ?_ ?_ ?_ <;> first | decide +kernel | rfl | (rw [fastTable_eq_tree]; kernel_rfl)
theorem storeK : StoreFacts "KeyError" keT "object.__setattr__" "object" := { mro := by kernel_rfl, entry := F.entry_object_sa, kind := by decide +kernel, split := by decide +kernel, hasOwner := by decide +kernel, args := (fun a b c => by unfold argsOk; kernel_rfl), passes := (fun a => by kernel_rfl), slot := (by refine .of (owner := "object") (n := "__setattr__") ?_ ?_ ?_ ?_ ?_ ?_ <;> first | decide +kernel | exact .inl (by decide +kernel) | exact .inr (by decide +kernel) | (rw [typeLookup_type, builtinLookup_eq_fast]; kernel_rfl) | (rw [isSubtype_type]; kernel_rfl)) }
abbrev keO (nm q : Str) (C N : Addr) (bs : List Value) (hdct : Bool) (sn : List Str) (sub : List Value) (ab : Bool) (col : Option Bool) (dd : Option Addr) (k0 k1 k2 k3 k5 : Option Value) : Obj := excClassObj nm q C N bs keT hdct sn sub ab col dd k0 k1 k2 k3 k5 "LookupError.__new__"
section
variable {h : Heap} {g : Array GenState} {d : Drawn} {t : Nat} {os : OsState} {nm q : Str} {C N : Addr} {bs : List Value} {hdct : Bool} {sn : List Str} {sub : List Value} {ab : Bool} {col : Option Bool} {dd : Option Addr} {k0 k1 k2 k3 k5 : Option Value} {A : Around}
theorem chkNew {M : Model} {E : Value → Shared → Prop} {rest : List Value} {Q : Unit → Shared → Prop} (hC : h.get? C = some (keO nm q C N bs hdct sn sub ab col dd k0 k1 k2 k3 k5)) (hq : Q () ⟨h, g, d, t, os⟩) : wpAny M A (checkBuiltinCall "LookupError.__new__" ⟨.ref C :: rest, []⟩) Q E ⟨h, g, d, t, os⟩ := by
  have hcont : (Value.ref C :: keT).contains (.type "LookupError") = true := by (rw [List.contains_cons]; exact (Bool.or_eq_true _ _).mpr (.inr (by decide +kernel)))
  have hstar := F.excBase_LookupError.noStar; simp only [checkBuiltinCall, F.excBase_LookupError.newKind, F.excBase_LookupError.newSplit, F.excBase_LookupError.newRow]
  repeat (first | refine wpAny_loadPart_at hC ?_ | (refine wpAny_isSubtype_exc hC ?_; (rw [hcont])) | refine wpAny_staticBase_exc hC ?_ | refine wpAny_madeBy_exc hC ?_ | (simp only [bne_self_eq_false, if_false, Bool.false_eq_true]) | wp_step)
  exact hq
theorem newK {prog : Program} {w : World} {R : Result → Shared → Prop} {rest : List Value} (hC : h.get? C = some (keO nm q C N bs hdct sn sub ab col dd k0 k1 k2 k3 k5))
    (hq : R (.ok (.ret (.ref (h.objs.size + 1)))) ⟨(h.push (W.kdv_tup rest)).push (excO C h.objs.size), g, d, t, os⟩) (hrest : rest.length ≤ sizeLine) : codeAny (model prog w) A (.builtin "LookupError.__new__" ⟨.ref C :: rest, []⟩) R ⟨h, g, d, t, os⟩ := by
  have hends := F.excBase_LookupError.ends
  have hcB : (Value.ref C :: keT).contains (.type "LookupError") = true := by (rw [List.contains_cons]; exact (Bool.or_eq_true _ _).mpr (.inr (by decide +kernel)))
  have hcA : (Value.ref C :: keT).contains (.type "AttributeError") = false := by (rw [List.contains_cons, show keT.contains (.type "AttributeError") = false by decide +kernel]; rfl)
  have hcN : (Value.ref C :: keT).contains (.type "NameError") = false := by (rw [List.contains_cons, show keT.contains (.type "NameError") = false by decide +kernel]; rfl)
  refine codeAny_builtinAt F.excBase_LookupError.entry ?_; unfold Builtin.«BaseException.__new__»; refine wpAt_bind ?_; show wpAt _ _ _ (stack >>= _) _ _ _
  refine wpAt_bind (wpAt_stack fun p below => wpAt_of_wpAny ?_); wp_walk; refine wpAt_of_wpAny ?_; rw [F.excBase_LookupError.owner]
  repeat (first | with_reducible refine wpAny_madeHere_exc F.excBase_LookupError.canon hC ?_ | with_reducible refine wpAny_loadPart_at hC ?_ | (with_reducible refine wpAny_isSubtype_exc hC ?_; first | rw [hcB] | rw [hcA] | rw [hcN]) | with_reducible refine L2.wp_if_neg (show ¬ (rest.toArray.size > sizeLine) from by rw [List.size_toArray]; exact Nat.not_lt.mpr hrest) ?_ | wp_step)
  show R _ _; rw [Heap.size_push]; exact hq
theorem typeCallK {prog : Program} {w : World} {E : Value → Shared → Prop} {rest : List Value} {fI : Addr} {Q : Fin → Shared → Prop} (hC : h.get? C = some (keO nm q C N bs hdct sn sub ab col dd k0 k1 k2 k3 k5))
    (hi : W.Looks (model prog w) h (typeLookup (.ref C) "__init__") (some (.ref fI))) (hb : ∀ self, W.Looks (model prog w) h (bindSpecial (.ref fI) self) (.ref fI, [self])) (hz : rest.length ≤ sizeLine)
    (hq : codeAny (model prog w) A (.call (.ref fI) ⟨.ref (h.objs.size + 1) :: rest, []⟩) (fun r s' => match r with | .ok (.ret v) => v = .none ∧ Q (.done (.ret (.ref (h.objs.size + 1)))) s' | .ok _ => False | .error e => E e s') ⟨(h.push (W.kdv_tup rest)).push (excO C h.objs.size), g, d, t, os⟩) : wpAny (model prog w) A (Builtin.«type.__call__» ⟨.ref C :: rest, []⟩) Q E ⟨h, g, d, t, os⟩ := by
  repeat (first | with_reducible refine wpAny_madeBy_exc hC ?_ | with_reducible refine wpAny_loadPart_at hC ?_ | wp_step)
  refine codeAny_call_builtin_code (Code.quiet_builtin _ F.excBase_LookupError.quiet) (chkNew hC ?_); refine newK hC ?_ hz; show wpAny _ _ _ _ _ _
  have k : ∀ b o, h.get? b = some o → ((h.push (W.kdv_tup rest)).push (excO C h.objs.size)).get? b = some o := (fun b o e => Heap.get?_push_of_some _ (Heap.get?_push_of_some _ e)); have hC₁ := k _ _ hC
  have hget : ((h.push (W.kdv_tup rest)).push (excO C h.objs.size)).get? (h.objs.size + 1) = some (excO C h.objs.size) := by (heap_get)
  have hcC : (Value.ref C :: keT).contains (.ref C) = true := by simp
  have i1 := hi.keeps k; have b1 := (hb (.ref (h.objs.size + 1))).keeps k; unfold isInstance
  repeat (first | (with_reducible refine wpAny_isSubtype_exc hC₁ ?_; (rw [hcC])) | with_reducible refine wpAny_loadPart_at hget ?_ | wp_step)
  show wpAny _ _ (typeLookup (.ref C) _) _ _ _; refine i1.at ?_; refine wpAny_holding (wpAny_bind (b1.at ?_)); refine wpAny_bind (wpAny_call (codeAny_mono hq (fun r s' z => ?_)))
  rcases r with e | (v | _ | _ | _) <;> first | exact z | exact z.elim | (obtain ⟨rfl, z⟩ := z; first | exact wpAny_pure (wpAny_pure z) | (wp_walk; exact z))
theorem callK {prog : Program} {w : World} {R : Result → Shared → Prop} {rest : List Value} {fI : Addr} (hC : h.get? C = some (keO nm q C N bs hdct sn sub ab col dd k0 k1 k2 k3 k5))
    (hi : W.Looks (model prog w) h (typeLookup (.ref C) "__init__") (some (.ref fI))) (hb : ∀ self, W.Looks (model prog w) h (bindSpecial (.ref fI) self) (.ref fI, [self])) (hz : rest.length ≤ sizeLine)
    (hq : codeAny (model prog w) (A.under (.builtin "type.__call__" ⟨.ref C :: rest, []⟩)) (.call (.ref fI) ⟨.ref (h.objs.size + 1) :: rest, []⟩) (W.InitBack (h.objs.size + 1) R) ⟨(h.push (W.kdv_tup rest)).push (excO C h.objs.size), g, d, t, os⟩) : codeAny (model prog w) A (.call (.ref C) ⟨rest, []⟩) R ⟨h, g, d, t, os⟩ := by
  have f1 := tc_lookup; have f2 := tc_bind (.ref C); have hTy : (⟨h, g, d, t, os⟩ : Shared).TypeIs (.ref C) "type" := ⟨_, hC, rfl⟩; refine codeAny_of_tree ?_; show wpAny _ _ (callAny (.ref C) _) _ _ _
  repeat (any_goals (first | with_reducible refine wpAny_loadPart_at hC ?_ | assumption | wp_step))
  refine ⟨rfl, ?_⟩; refine codeAny_call_builtin_at (Code.quiet_builtin _ (by decide +kernel)) entry_typeCall (wpAny_check_type_call_sub hC (typeCallK hC hi hb hz ?_)); refine codeAny_mono hq (fun r s' z => ?_)
  rcases r with e | (v | _ | _ | _) <;> (exact z)
end
theorem ikSplit : splitId "KeyError.__init__" = some ("KeyError", "__init__") := by kernel_rfl
theorem ikKind : builtinKind "KeyError.__init__" = some Manifest.AttrKind.slot := by kernel_rfl
theorem ikRow : Manifest.signature? "KeyError.__init__" = some ⟨.positional, "*", "KeyError", .self, [⟨"args", .varPos, false⟩]⟩ := by kernel_rfl
section
variable {h : Heap} {g : Array GenState} {d : Drawn} {t : Nat} {os : OsState} {nm q : Str} {C N : Addr} {bs : List Value} {hdct : Bool} {sn : List Str} {sub : List Value} {ab : Bool} {col : Option Bool} {dd : Option Addr} {k0 k1 k2 k3 k5 : Option Value} {A : Around}
theorem chkInit {M : Model} {E : Value → Shared → Prop} {e : Addr} {oe : Obj} {rest : List Value} {Q : Unit → Shared → Prop} (hC : h.get? C = some (keO nm q C N bs hdct sn sub ab col dd k0 k1 k2 k3 k5)) (he : h.get? e = some oe) (hcls : oe.cls = .ref C) (hq : Q () ⟨h, g, d, t, os⟩) : wpAny M A (checkBuiltinCall "KeyError.__init__" ⟨.ref e :: rest, []⟩) Q E ⟨h, g, d, t, os⟩ := by
  have hcB : (Value.ref C :: keT).contains (.type "KeyError") = true := by (rw [List.contains_cons]; exact (Bool.or_eq_true _ _).mpr (.inr (by decide +kernel)))
  have hshort : ("KeyError" != "*") = true := (by decide); simp only [checkBuiltinCall, ikKind, ikSplit, ikRow]
  repeat (first | (with_reducible refine wpAny_loadPart_at he ?_; (rw [hcls])) | (with_reducible refine wpAny_isSubtype_exc hC ?_; (rw [hcB])) | with_reducible refine wpAny_loadPart_at hC ?_ | wp_step)
  refine wpAny_onRaise ?_; rw [show ∀ (a b : String) (n : Nat), Bind.check ⟨.positional, "*", "KeyError", .self, [⟨"args", .varPos, false⟩]⟩ a b n (List.map (fun x => x.fst) ({ pos := Value.ref e :: rest } : Args).kw) = pure () from (fun a b n => check_star_args _ _ _ _ _ _)]; exact wpAny_pure hq
theorem initK {prog : Program} {w : World} {R : Result → Shared → Prop} {e t0 : Addr} {rest : List Value} (hC : h.get? C = some (keO nm q C N bs hdct sn sub ab col dd k0 k1 k2 k3 k5)) (he : h.get? e = some (excO C t0)) (hz : rest.length ≤ sizeLine)
    (hq : ∀ h' t1, (∀ b o, b ≠ e → h.get? b = some o → h'.get? b = some o) → h'.get? e = some (excO C t1) → R (.ok (.ret .none)) ⟨h', g, d, t, os⟩) : codeAny (model prog w) A (.call (.builtin "KeyError.__init__") ⟨.ref e :: rest, []⟩) R ⟨h, g, d, t, os⟩ := by
  refine codeAny_call_builtin initSlot.plain initEntry (chkInit hC he rfl ?_); repeat (first | with_reducible refine L2.wp_if_neg (show ¬ (rest.toArray.size > sizeLine) from by rw [List.size_toArray]; exact Nat.not_lt.mpr hz) ?_ | wp_step)
  refine hq _ h.objs.size (fun b o hb ho => ?_) ?_
  · rw [Heap.get?_update_other _ _ (Ne.symm hb)]; exact Heap.get?_push_of_some _ ho
  · rw [Heap.get?_update_self _ (Heap.get?_push_of_some _ he) rfl]; rfl
end
theorem osaK {prog : Program} {w : World} {A : Around} {R : Result → Shared → Prop} {hp : Heap} {g : Array GenState} {d : Drawn} {t : Nat} {os : OsState} {K : W.Frag} {name : Str} {tk : Tok} {v : Value} {x C : Addr} {fv : Array Value} {cd : ClassData}
    (X : K.In hp) (hx : hp.get? x = some { cls := .ref C, data := .fields fv }) (hcd : W.clsIn K C = some cd) (ho : W.excOver K C keT = true) (ht : W.takerIn K C name = some none) (hh : cd.hasDict = true)
    (hq : ∀ h' tk' dx, (∀ b o, b ≠ x → hp.get? b = some o → h'.get? b = some o) → hp.objs.size ≤ dx → dx ≠ x → h'.get? x = some { cls := .ref C, dict := some dx, data := .fields fv } → h'.Ns1 dx (fun y => if y = name then some v else none) → R (.ok (.ret .none)) ⟨h', g, d, tk', os⟩) :
    codeAny (model prog w) A (.call (.builtin "object.__setattr__") ⟨[.ref x, .str name tk, v], []⟩) R ⟨hp, g, d, t, os⟩ := by
  have I : W.InstAt hp x { cls := .ref C, data := .fields fv } C none := (⟨hx, rfl, rfl, trivial⟩)
  have hxs : x ≠ hp.objs.size := (Nat.ne_of_lt (Heap.lt_size hx))
  refine W.osa_openX (s := ⟨hp, g, d, t, os⟩) (od := none) storeK X I ho ht fun b => ?_
  have hcls : W.Looks (model prog w) hp (classData C) cd := (W.looks_clsIn X hcd); obtain ⟨nm, bs, mro, ns, qn, hd, sn, sb, ab, col, del⟩ := cd; dsimp only at hh; subst hh; show wpAny _ _ (storeInOwnDict (.ref x) (.ref C) (.str name tk) name v b) _ _ _; unfold storeInOwnDict ownDictForStores
  repeat (first | with_reducible refine store_in_new ?_ ?_ | with_reducible refine hcls.at ?_ | with_reducible refine wpAny_loadPart_at hx ?_ | wp_step)
  · exact (⟨_, #[], _, (Heap.get?_update_ne _ _ _ _ hxs.symm).trans (Heap.get?_push_at rfl rfl), rfl, fun e he => absurd he (by simp), fun _ => rfl⟩)
  · intro h' tk' hn' hs; have hx₁ : (hp.push { cls := .type "dict", data := .dict #[] }).get? x = some { cls := .ref C, data := .fields fv } := Heap.get?_push_of_some _ hx; refine hq h' tk' hp.objs.size (fun b o hb ho => ?_) (Nat.le_refl _) hxs.symm ?_ hn'
    · exact ((hs.2 b (Nat.ne_of_lt (Heap.lt_size ho))).trans ((Heap.get?_update_ne _ _ _ _ hb).trans (Heap.get?_push_of_some _ ho)))
    · exact ((hs.2 x hxs).trans (Heap.get?_update_self _ hx₁ rfl))
end Xk
set_option Elab.async false
set_option linter.all false
set_option maxRecDepth 100000
set_option maxHeartbeats 4000000
namespace Xm
open PySem PySem.Spec PyProof.Rows L2
structure OexK (K : PySem.W.Frag) (C : Addr) : Prop where
  cls : ∃ nm q N bs sn sub ab col dd k0 k1 k2 k3 k5, K.lookup C = some (Xk.keO nm q C N bs true sn sub ab col dd k0 k1 k2 k3 k5)
  sa : PySem.W.findIn K (.ref C) "__setattr__" = some (some (.builtin "object.__setattr__"))
  sub : PySem.W.subIn K (.ref C) (.type "BaseException") = some true
  ty : PySem.W.typeIn K (.ref C) = some (.type "type")
  keep : PySem.W.keepIn K (.ref C) = true
theorem OexK.over {K : PySem.W.Frag} {C : Addr} (T : OexK K C) : PySem.W.excOver K C Xk.keT = true ∧ ∃ cd, PySem.W.clsIn K C = some cd ∧ cd.hasDict = true := by
  obtain ⟨nm, q, N, bs, sn, sub, ab, col, dd, k0, k1, k2, k3, k5, hC⟩ := T.cls
  have hcl : PySem.W.clsIn K C = some { name := nm, bases := bs, mro := .ref C :: Xk.keT, ns := N, qualname := q, hasDict := true, slotNames := sn, subclasses := sub, abstract := ab, collection := col, hasDel := false } := by unfold PySem.W.clsIn; (rw [hC] <;> rfl)
  refine ⟨?_, _, hcl, rfl⟩
  unfold PySem.W.excOver
  rw [hcl]
  show ((C == C) && PySem.W.excTail Xk.keT Xk.keT) = true
  rw [beq_self_eq_true, show PySem.W.excTail Xk.keT Xk.keT = true by decide +kernel]
  rfl
section
variable {X : Cx} {pins : List (Addr × Obj)} {σ : L2.St} {H : Hp} {s : Shared} {a C : Addr} {f : Str} {y : V} {u : Value} {E : Value → Shared → Prop} {A : Around}
theorem ostK {Q : Unit → Shared → Prop} (T : OexK X.K C) (I : Inv X pins σ H s) (e : H a = some (exo a C none)) (hno : PySem.W.takerIn X.K C f = some none) (ry : RelV y u)
    (h : ∀ dx s', H dx = none → dx ≠ a → Inv X pins σ (upd (upd H dx (exd dx [(f, y)])) a (exo a C (some dx))) s' → Q () s') : wpAny (model X.prog X.w) A (setAttr (.ref a) f u) Q E s := by
  obtain ⟨ov, cd, hcl, hhd⟩ := T.over
  obtain ⟨t1, hoA⟩ := exo_at I.hok e
  obtain ⟨hp, gg, dd, tt, oo⟩ := s
  refine PySem.W.set_plain I.kIn (ox := { cls := .ref C, dict := none, data := .fields #[.ref t1, .none, .none, .none, .bool false, .none] }) (od := none) (⟨hoA, rfl, rfl, trivial⟩) T.sa ?_
  refine Xk.osaK I.kIn hoA hcl ov hno hhd (fun h' tk' dx kk dn dne hx hn => ?_)
  have fresh : H dx = none := (I.hok.fresh dn)
  have offD : ∀ {b : Addr} {o : Obj}, hp.get? b = some o → b ≠ dx := fun {b o} q => (Nat.ne_of_lt (Nat.lt_of_lt_of_le (Heap.lt_size q) dn))
  have offA : ∀ {b : Addr}, H b = none → b ≠ a := fun {b} n z => (by (rw [z, e] at n); cases n)
  have U1 : Un X.fs [] H (upd (upd H dx (exd dx [(f, y)])) a (exo a C (some dx))) hp h' :=
    { keep := fun b o q n _ _ => kk b o (offA n) q, slot := fun b o q n _ _ => ⟨o.slots, kk b o (offA n) q⟩, free := fun b o q n _ => (by rw [upd_ne (offA n), upd_ne (offD q)]; exact n),
      there := fun b o q _ => (by
        by_cases hb : b = a
        · exact (⟨_, by rw [hb]; exact hx⟩)
        · exact (⟨o, kk b o hb q⟩)),
      tups := fun b xs q => (by rw [upd_ne (at_ne e q exo_tup), upd_ne (ne_of_none q fresh)]; exact q), frzs := fun b o v q => (by rw [upd_ne (at_ne e q exo_frz), upd_ne (ne_of_none q fresh)]; exact q), tbls := fun b ps q => (⟨#[], by rw [upd_ne (at_ne e q exo_tbl), upd_ne (ne_of_none q fresh), q]; simp⟩) }
  refine h dx _ fresh dne (I.un (t' := tk') U1 fun b o q => ?_)
  by_cases hb : b = a
  · (subst hb; rw [upd_same] at q; cases q; exact exo_ok hx)
  · rw [upd_ne hb] at q
    by_cases hd : b = dx
    · (subst hd; rw [upd_same] at q; cases q; exact exd_ok hn (relO_put (fs := []) ry fun g => True.intro))
    · rw [upd_ne hd] at q
      exact (I.hok b o q).stay (fun c v hc z => kk c v (by rcases hc with hc | hc; (· rw [hc]; exact hb); (· exact at_ne e hc exo_own)) z) (fun c hc => by rw [upd_ne (at_ne e hc exo_own), upd_ne (ne_of_none hc fresh)]; exact hc) (fun c xs hc => by rw [upd_ne (at_ne e hc exo_tup), upd_ne (ne_of_none hc fresh)]; exact hc)
theorem oinitK {us : List Value} {Q : Value → Shared → Prop} (T : OexK X.K C) (I : Inv X pins σ H s) (e : H a = some (exo a C none)) (hl : us.length ≤ sizeLine) (h : ∀ s', Inv X pins σ H s' → Q .none s') : wpAny (model X.prog X.w) A (call (.builtin "KeyError.__init__") (.ref a :: us)) Q E s := by
  obtain ⟨nm, q, N, bs, sn, sub, ab, col, dd, k0, k1, k2, k3, k5, hC⟩ := T.cls
  obtain ⟨t1, hoA⟩ := exo_at I.hok e
  obtain ⟨hp, gg, dr, tt, oo⟩ := s
  refine wpAny_call (Xk.initK (I.kIn _ _ hC) hoA hl fun h' t2 kk hx => ?_)
  have J := I.write (t' := tt) (x := a) (e := a) (o := exo a C none) (by (rw [e]); exact True.intro) (.inl rfl) kk (⟨_, hx⟩) (exo_ok hx)
  have same : upd H a (exo a C none) = H := (by
    funext b
    by_cases hb : b = a
    · (rw [hb, upd_same, e])
    · (rw [upd_ne hb]))
  (rw [same] at J)
  exact h _ J
end
theorem typKE : typeOf (.type "KeyError") = pure (.type "type") := by kernel_rfl
def tKeI (K : PySem.W.Frag) (ta : TA) : TE := fun σ H Q => ta σ H fun vs H1 => ∃ (a C : Addr) (ws : List V), (vs = .ref a :: ws ∧ ws.length ≤ 1000) ∧ OexK K C ∧ H1 a = some (exo a C none) ∧ Q .non H1
def tOsK (K : PySem.W.Frag) (f : Str) (to te : TE) : TS := fun D σ H => te σ H fun y H1 => to σ H1 fun x H2 => ∃ a C : Addr, x = .ref a ∧ OexK K C ∧ PySem.W.takerIn K C f = some none ∧ H2 a = some (exo a C none) ∧ ∀ dx, H2 dx = none → dx ≠ a → D.nx σ (upd (upd H2 dx (exd dx [(f, y)])) a (exo a C (some dx)))
section
variable {X : Cx} {o e : Expr} {es : List Expr} {to te : TE} {ta : TA} {f : Str} {p p' p1 p2 pos : Pos}
theorem pe_keinit {pl : Sem Bool} (hg : Gl X "KeyError") (hm : X.mg "KeyError" = none) (vV : PySem.W.findCls X.K (.type "KeyError") (.type "type") "__init__" = some (.val (.builtin "KeyError.__init__"))) (ha : PA X (e :: es) ta)
    (hc : eval (.Call (.Attribute (.Name "KeyError" p1) "__init__" p2) (e :: es) [] pos) X.env = (eval (.Name "KeyError" p1) X.env >>= fun ov => standAt p2.atName >>= fun _ => holding [ov] (getMethod ov "__init__" pl) >>= fun fx => callWith pos fx.1 fx.2 (backTo pos (starEach (e :: es) X.env)) (backToKw pos (keywordEach [] X.env))) := by rfl)
    (he : starEach (e :: es) X.env = (false, eval e X.env) :: starEach es X.env := by rfl) (hpl : (backTo pos (starEach es X.env)).any (·.1) = false := by rfl) :
    PE X (.Call (.Attribute (.Name "KeyError" p1) "__init__" p2) (e :: es) [] pos) (tKeI X.K ta) := by
  refine ⟨fun pins s σ H Q I h => ?_⟩
  refine PySem.W.methodCall_KW (ld_blt I hg hm PyProof.Rows.Boot.«KeyError» ?_ (by decide) (by decide)) hc
  obtain ⟨mm, frm⟩ := I.fr
  refine PySem.W.method_type frm I.ok.mod.kin typKE (by decide +kernel) vV (by decide +kernel) ?_
  show wpAny _ _ (callWith pos (Value.builtin "KeyError.__init__") [] (backTo pos (starEach (e :: es) X.env)) []) _ _ _
  refine PyProof.Rows.callWith_method1 (thn (ha.run pos pins _ σ H _ (I.tok _) h) (fun us s1 ⟨vs, H1, I1, r1, a, C, ws, ⟨ev, hl⟩, T, ea, q⟩ => ?_)) he hpl
  subst ev
  cases r1 with
  | @cons _ u0 _ ur ra rw' =>
    obtain rfl : u0 = Value.ref a := ra
    exact oinitK T I1 ea (by (rw [← Paired.length rw', sizeLine_eq]); omega) (fun s' J => ⟨.non, H1, J, rfl, q⟩)
theorem ps_osK (ho : PE X o to) (he : PE X e te) (hs : swapsWith e (some (.Attribute o f p')) pos.line X.env = pure false := by rfl) : PS X (.Assign [.Attribute o f p'] e pos) (tOsK X.K f to te) := by
  refine ⟨fun pins s σ H D I h => ?_⟩
  refine plainObj_wpAny_Assign_Attribute (thn (he.run pins s σ H _ I h) (fun v s1 ⟨y, H1, I1, r1, q1⟩ => thn (ho.run pins s1 σ H1 _ I1 q1) (fun u s2 ⟨x, H2, I2, r2, a, C, ex, T, hno, ea, q⟩ => ?_))) hs
  subst ex
  obtain rfl : u = Value.ref a := r2
  exact ostK T I2 ea hno r1 (fun dx s' n ne J => ⟨σ, _, J, q dx n ne⟩)
end
end Xm
set_option Elab.async false
set_option linter.all false
set_option maxRecDepth 100000
set_option maxHeartbeats 4000000
namespace Xm
open PySem PySem.Spec PyProof.Rows L2
def clsM (s : Stmt) (j : Nat) : Stmt := match s with
  | .ClassDef _ _ _ b _ _ _ _ _ _ _ => b.getD j (.Pass ⟨0, 0, 0, 0⟩)
  | _ => .Pass ⟨0, 0, 0, 0⟩
def spI (C : Addr) (f : Str) : Sp := fun vs H Q _ => ∃ a y, vs = [.ref a, y] ∧ H a = some (exo a C none) ∧ ∀ dx, H dx = none → dx ≠ a → Q .non (upd (upd H dx (exd dx [(f, y)])) a (exo a C (some dx)))
def tInit (K : PySem.W.Frag) (f m : Str) : TS := tSeq (tDrop (tKeI K (tCons (tVar 0) (tCons (tC (.str m)) tNil)))) (tOsK K f (tVar 0) (tVar 1))
section
variable {P : Program} {w : World} {K : PySem.W.Frag} {mg : Str → Option Value} {base : Heap} {CX : CXT} {k : Nat} {fI C : Addr} {qual f pn m : Str} {params : Arguments} {body : List Stmt} {scope : Scope} {dV kV doc pm cdv ct oc : Value} {an od : Option Addr} {osl : Array (Option Value)}
theorem initOk (T : OexK K C) (hno : PySem.W.takerIn K C f = some none) (lk : K.lookup fI = some ⟨oc, od, .func (PySem.W.fnOf "__init__" qual params body scope dV kV doc pm an cdv ct), osl⟩) (hcd : PySem.W.codeIn K cdv qual = true) (S : FnScope ["self", pn] ["self", pn] scope)
    (hb : ∀ (A : Around) (outer : List Env) (s : Shared) (H : Hp) (E : XK), PSs (cxOf CX P w K mg base ["self", pn] qual scope fI cdv A outer s H E) body (tInit K f m)) : FnOk P w K mg base CX (k + 1) fI (PySem.W.fnOf "__init__" qual params body scope dV kV doc pm an cdv ct) ["self", pn] (spI C f) := by
  refine fn_of lk hcd S (fun vs H Q E h => ?_) fun A outer s H vs Q E room h => ⟨_, hb A outer s H E, ?_⟩
  · obtain ⟨a, y, rfl, _⟩ := h
    rfl
  · obtain ⟨a, y, rfl, ha, q⟩ := h
    refine ⟨.ref a, rfl, ⟨a, C, [.str m], ⟨rfl, by simp⟩, T, ha, ?_⟩⟩
    exact ⟨y, rfl, .ref a, rfl, a, C, rfl, T, hno, ha, q⟩
end
section
variable {X : Cx} {Ca fI : Addr} {n f : Str} {k : Nat} {fd : FuncData} {ps : List Str} {sp : Sp} {e : Expr} {es : List Expr} {ta : TA} {p pos cpos : Pos}
theorem pmk_oexK (T : OexK X.K Ca) (iC : PySem.W.findIn X.K (.ref Ca) "__init__" = some (some (.ref fI))) (tI : PySem.W.typeIn X.K (.ref fI) = some (.type "function")) (F1 : FnOk X.prog X.w X.K X.mg X.base (CXM X.prog X.w) k fI fd ps sp) (hr : Room (k + 1) X.A) (hb : Binds X.K fd ps []) (hg : Gl X n) (hm : X.mg n = some (.ref Ca)) (ha : PA X (e :: es) ta)
    (hdb : (n == ("__debug__" : Str)) = false := by decide) (he : starEach (e :: es) X.env = (false, eval e X.env) :: starEach es X.env := by rfl) (hpl : (backTo cpos (starEach es X.env)).any (·.1) = false := by rfl) : PMk X (.Call (.Name n p) (e :: es) [] cpos) (tMkO Ca sp [] ta) := by
  intro pins s σ H Q I hq0
  obtain ⟨nm, qq, N, bs, sn, sub, ab, col, dd, k0, k1, k2, k3, k5, hC⟩ := T.cls
  refine wpAny_Call_Name_kw (ld_glob I hg hm ?_ hdb)
  refine PySem.W.callWith_K (h₀ := X.base) I.ok.mod.kin T.keep (thn (ha.run cpos pins s σ H _ I hq0) (fun us s1 ⟨vs, H1, I1, r1, hz, q1⟩ => ⟨I1.kIn, ?_⟩)) he hpl
  show wpAny _ _ (call (.ref Ca) us) _ _ _
  obtain ⟨hp, gg, dr, tk, oo⟩ := s1
  have big : hp.objs.size ≤ hp.objs.size + 1 := (Nat.le_succ _)
  have free1 : H1 (hp.objs.size + 1) = none := (I1.hok.fresh big)
  have hq1 := q1 (hp.objs.size + 1) free1
  have kk : ∀ b o, hp.get? b = some o → ((hp.push (PySem.W.kdv_tup us)).push (PySem.HandSPX.excO Ca hp.objs.size)).get? b = some o := (fun b o e => Heap.get?_push_of_some _ (Heap.get?_push_of_some _ e))
  have got : ((hp.push (PySem.W.kdv_tup us)).push (PySem.HandSPX.excO Ca hp.objs.size)).get? (hp.objs.size + 1) = some (PySem.HandSPX.excO Ca hp.objs.size) := (by heap_get)
  have I2 : Inv X pins σ (upd H1 (hp.objs.size + 1) (exo (hp.objs.size + 1) Ca none)) ⟨(hp.push (PySem.W.kdv_tup us)).push (PySem.HandSPX.excO Ca hp.objs.size), gg, dr, tk, oo⟩ := (I1.laid (t' := tk) (a := hp.objs.size + 1) (o := exo (hp.objs.size + 1) Ca none) (h' := (hp.push (PySem.W.kdv_tup us)).push (PySem.HandSPX.excO Ca hp.objs.size)) kk big (exo_ok got))
  have r2 : Vals (V.ref (hp.objs.size + 1) :: (vs ++ [])) (Value.ref (hp.objs.size + 1) :: (us ++ [])) := (.cons rfl (r1.append .nil))
  have lenU : (Value.ref (hp.objs.size + 1) :: us ++ []).length = ps.length := (by have e := r2.length; rw [F1.len _ _ _ _ hq1] at e; exact e.symm)
  have fewU : us.length ≤ sizeLine := (by rw [← Paired.length r1, sizeLine_eq]; omega)
  refine wpAny_call (Xk.callK (I1.kIn _ _ hC) (PySem.W.looks_findIn I1.kIn iC) (fun self => PySem.W.bind_fn I1.kIn self tI) fewU (codeAny_mono (F1.run _ X.stack _ _ ⟨Value.ref (hp.objs.size + 1) :: us, []⟩ (Value.ref (hp.objs.size + 1) :: (us ++ [])) _ _ (fun _ _ _ => False) (hr.make Ca us []) (I2.env0.make Ca us []) (by have z := hb _ (Value.ref (hp.objs.size + 1) :: us) I2.kIn lenU; rw [List.cons_append] at z; exact z) r2 hq1) (fun r s' hr' => ?_)))
  cases r with
  | error er =>
    obtain ⟨_, _, _, _, _, _, _, _, _, _, _, _, zz⟩ := hr'
    exact zz.elim
  | ok fl =>
    cases fl with
    | ret u =>
      obtain ⟨v, H2, os2, bare2, un2, hok2, rv, ev, d, fs, ea, ed, hd1, q2⟩ := hr'
      (subst ev)
      obtain ⟨h2, g2, d2, t2, os'⟩ := s'
      exact (⟨rv, mk_end (raises_own T.sub T.ty) I1 big kk un2 hok2 os2 bare2 ea ed hd1 q2⟩)
    | next => exact (False.elim hr')
    | brk => exact (False.elim hr')
    | cont => exact (False.elim hr')
end
section
variable {X : Cx} {C : Ct} {Ca fI : Addr} {n f pn : Str} {k j : Nat} {fd : FuncData} {e : Expr} {g : EF} {p pos cpos : Pos}
end
end Xm
set_option Elab.async false
set_option linter.all false
set_option maxRecDepth 100000
set_option maxHeartbeats 4000000
namespace Xm
open PySem PySem.Spec PyProof.Rows L2
section
variable {X : Cx} {o e : Expr} {es : List Expr} {to te : TE} {ta : TA} {f n : Str} {p p' p1 p2 pos : Pos} {Ce : Addr} {mc : Value}
theorem pe_cinit {pl : Sem Bool} (hg : Gl X n) (hm : X.mg n = some (.ref Ce)) (ga : PySem.W.specialIn X.K (.ref Ce) "__getattribute__" = some (some (.builtin "type.__getattribute__"))) (rd : PySem.W.readsIn X.K Ce mc = true)
    (vV : PySem.W.findCls X.K (.ref Ce) mc "__init__" = some (.val (.builtin "ValueError.__init__"))) (ha : PA X (e :: es) ta)
    (hc : eval (.Call (.Attribute (.Name n p1) "__init__" p2) (e :: es) [] pos) X.env = (eval (.Name n p1) X.env >>= fun ov => standAt p2.atName >>= fun _ => holding [ov] (getMethod ov "__init__" pl) >>= fun fx => callWith pos fx.1 fx.2 (backTo pos (starEach (e :: es) X.env)) (backToKw pos (keywordEach [] X.env))) := by rfl)
    (he : starEach (e :: es) X.env = (false, eval e X.env) :: starEach es X.env := by rfl) (hpl : (backTo pos (starEach es X.env)).any (·.1) = false := by rfl) (hdb : (n == ("__debug__" : Str)) = false := by decide) :
    PE X (.Call (.Attribute (.Name n p1) "__init__" p2) (e :: es) [] pos) (tVeI X.K ta) := by
  refine ⟨fun pins s σ H Q I h => ?_⟩
  refine PySem.W.methodCall_KW (ld_glob I hg hm ?_ hdb) hc
  refine PySem.W.method_cls I.kIn ga (PySem.W.cls_value I.kIn rd vV (by decide +kernel) ?_)
  show wpAny _ _ (callWith pos (Value.builtin "ValueError.__init__") [] (backTo pos (starEach (e :: es) X.env)) []) _ _ _
  refine PyProof.Rows.callWith_method1 (thn (ha.run pos pins _ σ H _ (I.tok _) h) (fun us s1 ⟨vs, H1, I1, r1, a, C, ws, ev, hl, T, ea, q⟩ => ?_)) he hpl
  subst ev
  cases r1 with
  | @cons _ u0 _ ur ra rw' =>
    obtain rfl : u0 = Value.ref a := ra
    exact oinit_ok T I1 ea (by (rw [← Paired.length rw', sizeLine_eq]; omega)) (fun s' J => ⟨.non, H1, J, rfl, q⟩)
end
def tInitC (K : PySem.W.Frag) (f m : Str) : TS := tSeq (tDrop (tVeI K (tCons (tVar 0) (tCons (tC (.str m)) tNil)))) (tOst K f (tVar 0) (tVar 1))
section
variable {P : Program} {w : World} {K : PySem.W.Frag} {mg : Str → Option Value} {base : Heap} {CX : CXT} {k : Nat} {fI C : Addr} {qual f pn m : Str} {params : Arguments} {body : List Stmt} {scope : Scope} {dV kV doc pm cdv ct oc : Value} {an od : Option Addr} {osl : Array (Option Value)}
theorem initOkC (T : OexC K C) (hno : PySem.W.findIn K (.ref C) f = some none) (lk : K.lookup fI = some ⟨oc, od, .func (PySem.W.fnOf "__init__" qual params body scope dV kV doc pm an cdv ct), osl⟩) (hcd : PySem.W.codeIn K cdv qual = true) (S : FnScope ["self", pn] ["self", pn] scope)
    (hb : ∀ (A : Around) (outer : List Env) (s : Shared) (H : Hp) (E : XK), PSs (cxOf CX P w K mg base ["self", pn] qual scope fI cdv A outer s H E) body (tInitC K f m)) : FnOk P w K mg base CX (k + 1) fI (PySem.W.fnOf "__init__" qual params body scope dV kV doc pm an cdv ct) ["self", pn] (spI C f) := by
  refine fn_of lk hcd S (fun vs H Q E h => ?_) fun A outer s H vs Q E room h => ⟨_, hb A outer s H E, ?_⟩
  · obtain ⟨a, y, rfl, _⟩ := h
    rfl
  · obtain ⟨a, y, rfl, ha, q⟩ := h
    refine ⟨.ref a, rfl, a, C, [.str m], rfl, by simp, T, ha, ?_⟩
    exact ⟨y, rfl, .ref a, rfl, a, C, rfl, T, hno, .inl ⟨ha, q⟩⟩
end
section
variable {X : Cx} {C : Ct} {Ca fI : Addr} {n f pn : Str} {k j : Nat} {fd : FuncData} {e : Expr} {g : EF} {p pos cpos : Pos}
end
end Xm
set_option Elab.async false
set_option linter.all false
set_option maxRecDepth 100000
set_option maxHeartbeats 4000000
namespace Xm
open PySem PySem.Spec PyProof.Rows L2
section
variable {X : Cx} {pins : List (Addr × Obj)} {σ : L2.St} {H : Hp} {sI s' : Shared}
theorem inv_on (J : Inv X pins σ H sI) (k : ∀ b o, sI.heap.get? b = some o → s'.heap.get? b = some o) (os : s'.os = sI.os) (ag : AllBare s'.gens) : Inv X pins σ H s' := by
  obtain ⟨h', g', d', t', os'⟩ := s'
  obtain rfl : os' = sI.os := os
  exact J.step (g' := g') (d' := d') (t' := t') (ch := []) (fun b hb => absurd hb (by simp)) (fun b o _ _ _ e _ => k b o e) (fun b o _ _ _ e _ => ⟨o.slots, k b o e⟩)
    (fun _ _ _ _ n => n) (fun b o _ e => ⟨o, k b o e⟩) (fun _ _ e => e) (fun _ _ _ e => e) (fun b ps e => ⟨#[], by rw [e]; simp⟩) (fun m ⟨o, es, ep, ho, r⟩ => ⟨o, es, ep, k _ o ho, r⟩) (J.hok.kept k) ag
end
section
variable {X : Cx} {C : Ct} {Ca : Addr} {n f : Str} {e0 e : Expr} {te : TE} {g : EF} {pos : Pos}
theorem xd_mkF (T : XfC X.K Ca) (hno : PySem.W.findIn X.K (.ref Ca) f = some none) (hmk : PMk X e0 (tMkO Ca (spI Ca f) [] (tCons (dOf (kxOf X) C g) tNil))) (hb : attributeBase e0 f X.env (eval e0 X.env) = eval e0 X.env := by rfl) : PE X (.Attribute e0 f pos) (dOf (kxOf X) C g) := by
  refine ⟨fun pins s σ H Q I q => attr_of hb ?_⟩
  obtain ⟨F, st, w, R, ew, q⟩ := q
  refine wpAny_mono (hmk pins s σ H (fun cls d H' => cls = .ref Ca ∧ ∃ dx F' v, d = some dx ∧ F' dx = some (.xd [(f, v)]) ∧ Same F F' ∧ Rel (kxOf X) C F' w.2 σ H' ∧ Dp (kxOf X) F' v w.1) I ?_) (fun u s1 hu => ?_) fun _ _ z => z
  · refine ⟨F, st, w, R, ew, fun v H1 F1 s1 R1 dv => ⟨by simp, fun a ha => ⟨a, v, rfl, upd_same, fun dx hdx hne => ?_⟩⟩⟩
    rw [upd_ne hne] at hdx
    refine ⟨rfl, dx, [(f, v)], upd_same, by rw [upd_ne hne, upd_same], hdx, ?_⟩
    have eH : upd (del (upd (upd (upd H1 a (exo a Ca none)) dx (exd dx [(f, v)])) a (exo a Ca (some dx))) a) dx (.xd [(f, v)]) = upd H1 dx (.xd [(f, v)]) := by
      funext b
      by_cases h1 : b = dx
      · rw [h1, upd_same, upd_same]
      · rw [upd_ne h1, upd_ne h1]
        by_cases h2 : b = a
        · rw [h2, del_same, ha]
        · rw [del_ne h2, upd_ne h2, upd_ne h1, upd_ne h2]
    rw [eH]
    obtain ⟨A, _⟩ := R1.aside hdx
    obtain ⟨ff, R2⟩ := (R1.write (o := .xd [(f, v)]) A).freezeO A.h0 A.f upd_same A.ap
    exact ⟨rfl, dx, _, v, rfl, upd_same, s1.trans ff, R2, Dp_up dv ff⟩
  · obtain ⟨a, oe, vs, sI, H', cls, d, rfl, J, k, hne, ha, hz, hd, h1, na, os, ag, r, rfl, dx, F', v, rfl, hx, sF, R', dv⟩ := hu
    have I1 := inv_on J k os ag
    obtain ⟨mA, hns, hr⟩ := (show ObjOk X.prog X.w H' s1.heap dx (.xd [(f, v)]) from I1.hok dx _ (R'.fh _ _ hx))
    obtain ⟨od, ho, hl⟩ := lookIn_ns hns
    obtain ⟨u1, hu, ru⟩ := RelO.some_of (v := v) (o := mA f) (by have := hr f; rwa [List.lookup_cons_self] at this)
    have no : PySem.W.notCls oe = true := by unfold PySem.W.notCls; rw [hd] <;> rfl
    have JI : PySem.W.InstAt s1.heap a oe Ca (some od) := ⟨ha, hz.1, no, by rw [hz.2]; exact ho⟩
    exact HandSPX.exc_get I1.kIn JI T.ga T.gg T.exC (PySem.W.findObj_own T.hdC hno rfl (by rw [hl, hu])) (handed_of ru) ⟨v, H', I1.tok _, ru, q v H' F' sF R' dv⟩
end
section
variable {X : Cx} {C : Ct} {Ca fI : Addr} {n f pn : Str} {k j : Nat} {fd : FuncData} {e : Expr} {g : EF} {p pos cpos : Pos}
theorem xd_fldK (Xf : XfC X.K Ca) (hno : PySem.W.findIn X.K (.ref Ca) f = some none) (T : OexK X.K Ca) (hm : X.mg n = some (.ref Ca)) (iC : PySem.W.findIn X.K (.ref Ca) "__init__" = some (some (.ref fI))) (tI : PySem.W.typeIn X.K (.ref fI) = some (.type "function")) (F1 : FnOk X.prog X.w X.K X.mg X.base (CXM X.prog X.w) j fI fd ["self", pn] (spI Ca f)) (hr : Room k X.A) (hjk : j + 1 ≤ k) (hb : Binds X.K fd ["self", pn] []) (ha : PE X e (dOf (kxOf X) C g)) (hg : Gl X n := by rfl)
    (hdb : (n == ("__debug__" : Str)) = false := by decide) (he : starEach [e] X.env = (false, eval e X.env) :: starEach [] X.env := by rfl) (hpl : (backTo cpos (starEach [] X.env)).any (·.1) = false := by rfl) (hab : attributeBase (.Call (.Name n p) [e] [] cpos) f X.env (eval (.Call (.Name n p) [e] [] cpos) X.env) = eval (.Call (.Name n p) [e] [] cpos) X.env := by rfl) : PE X (.Attribute (.Call (.Name n p) [e] [] cpos) f pos) (dOf (kxOf X) C g) :=
  xd_mkF Xf hno (pmk_oexK T iC tI F1 (hr.mono hjk) hb hg hm (pa_cons ha pa_nil he) hdb he hpl) hab
theorem xd_fldC (Xf : XfC X.K Ca) (hno : PySem.W.findIn X.K (.ref Ca) f = some none) (T : OexC X.K Ca) (hm : X.mg n = some (.ref Ca)) (iC : PySem.W.findIn X.K (.ref Ca) "__init__" = some (some (.ref fI))) (tI : PySem.W.typeIn X.K (.ref fI) = some (.type "function")) (F1 : FnOk X.prog X.w X.K X.mg X.base (CXM X.prog X.w) j fI fd ["self", pn] (spI Ca f)) (hr : Room k X.A) (hjk : j + 1 ≤ k) (hb : Binds X.K fd ["self", pn] []) (ha : PE X e (dOf (kxOf X) C g)) (hg : Gl X n := by rfl)
    (hdb : (n == ("__debug__" : Str)) = false := by decide) (he : starEach [e] X.env = (false, eval e X.env) :: starEach [] X.env := by rfl) (hpl : (backTo cpos (starEach [] X.env)).any (·.1) = false := by rfl) (hab : attributeBase (.Call (.Name n p) [e] [] cpos) f X.env (eval (.Call (.Name n p) [e] [] cpos) X.env) = eval (.Call (.Name n p) [e] [] cpos) X.env := by rfl) : PE X (.Attribute (.Call (.Name n p) [e] [] cpos) f pos) (dOf (kxOf X) C g) :=
  xd_mkF Xf hno (pmk_oex T iC tI F1 (hr.mono hjk) hb .nil passL hg hm (pa_cons ha pa_nil he) hdb he hpl) hab
end
end Xm
set_option Elab.async false
set_option linter.all false
set_option maxRecDepth 100000
set_option maxHeartbeats 4000000
namespace Xm
open PySem PySem.Spec PyProof.Rows L2
section
variable {X : Cx} {e0 : Expr} {t : L2.St → Hp → XK → Prop}
theorem pe_mkX (hmk : PMk X e0 t) (hex : X.ex = [] := by rfl) : PE X e0 (fun σ H Q => t σ H fun cls d H' => ∀ a, H' a = none → Q (.ref a) (upd H' a (keptO cls d a))) := by
  refine ⟨fun pins s σ H Q I q => wpAny_mono (hmk pins s σ H _ I q) (fun u s1 hu => ?_) fun _ _ z => z⟩
  obtain ⟨a, oe, vs, sI, H', cls, d, rfl, J, k, hne, ha, hz, hd, h1, na, os, ag, r, q⟩ := hu
  have I1 := inv_on J k os ag
  have h0 : X.s_0.heap.get? a = none := by
    cases e : X.s_0.heap.get? a with
    | none => rfl
    | some o =>
      obtain ⟨o', e'⟩ := J.base.there a o e (by rw [hex]; simp)
      rw [hne] at e'; cases e'
  have nL : a ≠ X.env.locals := fun z => by
    obtain ⟨m, ⟨o, es, ep, ho, _⟩, _⟩ := J.loc
    rw [← z, hne] at ho; cases ho
  have np : ∀ p ∈ X.pn ++ pins, p.1 ≠ a := fun p hp z => by
    have := (J.pin p hp).1
    rw [z, hne] at this; cases this
  exact ⟨.ref a, _, Inv.knows I1 ha hd na h0 nL np (keptO_ok ha hz hd), rfl, q a na⟩
end
def thenB (b : Bool) (g : EF) : EF := fun st => (g st).map fun a => (.bool b, a.2)
section
variable {X : Cx} {C : Ct} {Ca : Addr} {n m f : Str} {e0 c : Expr} {te : TE} {g : EF} {pos p p2 cpos : Pos} {v : V} {u : Value} {b : Bool} {j : Nat}
theorem xd_isO (T : ExcC X.K Ca) (hmk : PMk X e0 (tMkO Ca (spI Ca f) [] (tCons (dOf (kxOf X) C g) tNil))) (hm : X.mg "isinstance" = none) (hc : PE X c (tC v)) (k : ClsV v u) (hk : PySem.W.kitOne X.K (.ref Ca) u = some b) (hex : X.ex = [] := by rfl) (hg : Gl X "isinstance" := by rfl)
    (he : starEach [e0, c] X.env = (false, eval e0 X.env) :: starEach [c] X.env := by rfl) (he2 : starEach [c] X.env = (false, eval c X.env) :: starEach [] X.env := by rfl) (hpl : (backTo pos (starEach [c] X.env)).any (·.1) = false := by rfl) :
    PE X (.Call (.Name "isinstance" p) [e0, c] [] pos) (dOf (kxOf X) C (thenB b g)) :=
  pe_wk (pe_callB call_isX1 hg hm (by decide +kernel) (pa_cons (pe_mkX hmk hex) (pa_cons hc pa_nil he2) he) (he := he) (hpl := hpl)) fun σ H Q q => by
    obtain ⟨F, st, w, R, ew, q⟩ := q
    obtain ⟨⟨d, st1⟩, eg, ew⟩ := Option.map_eq_some_iff.mp ew
    cases ew
    refine ⟨F, st, (d, st1), R, eg, fun v H1 F1 s1 R1 dv => ⟨by simp, fun a ha => ⟨a, v, rfl, upd_same, fun dx hdx hne => ?_⟩⟩⟩
    rw [upd_ne hne] at hdx
    refine ⟨rfl, dx, [(f, v)], upd_same, by rw [upd_ne hne, upd_same], hdx, ?_⟩
    have eH : upd (del (upd (upd (upd H1 a (exo a Ca none)) dx (exd dx [(f, v)])) a (exo a Ca (some dx))) a) dx (.xd [(f, v)]) = upd H1 dx (.xd [(f, v)]) := by
      funext b
      by_cases h1 : b = dx
      · rw [h1, upd_same, upd_same]
      · rw [upd_ne h1, upd_ne h1]
        by_cases h2 : b = a
        · rw [h2, del_same, ha]
        · rw [del_ne h2, upd_ne h2, upd_ne h1, upd_ne h2]
    rw [eH]
    obtain ⟨A, _⟩ := R1.aside hdx
    obtain ⟨ff, R2⟩ := (R1.write (o := .xd [(f, v)]) A).freezeO A.h0 A.f upd_same A.ap
    intro a2 ha2
    have gn := Gr.new (o := keptO (.ref Ca) (some dx) a2) R2.fh ha2
    have ne2 : dx ≠ a2 := fun z => by rw [← z, upd_same] at ha2; cases ha2
    exact ⟨a2, Ca, some dx, _, u, b, rfl, k, T, upd_same, fun dd z => by cases z; exact ⟨[(f, v)], by rw [upd_ne ne2, upd_same]⟩, hk, q _ _ _ ((s1.trans ff).trans gn.ff) (R2.grow gn) (.bl _)⟩
theorem xd_isP {bmB : List Value} {B newId initId : String} {s0 : Str} (FB : ExcBaseFacts B newId initId bmB) (T0 : ExC X.K X.mg n Ca bmB newId) (T : ExcC X.K Ca) (hm : X.mg "isinstance" = none) (hc : PE X c (tC v)) (k : ClsV v u) (hk : PySem.W.kitOne X.K (.ref Ca) u = some b) (hex : X.ex = [] := by rfl) (hgn : Gl X n := by rfl) (hdb : (n == ("__debug__" : Str)) = false := by decide) (hg : Gl X "isinstance" := by rfl)
    (he : starEach [.Call (.Name n p2) [.Constant (.str s0) j pos] [] cpos, c] X.env = (false, eval (.Call (.Name n p2) [.Constant (.str s0) j pos] [] cpos) X.env) :: starEach [c] X.env := by rfl) (he2 : starEach [c] X.env = (false, eval c X.env) :: starEach [] X.env := by rfl) {pos2 : Pos} (hpl : (backTo pos2 (starEach [c] X.env)).any (·.1) = false := by rfl) :
    PE X (.Call (.Name "isinstance" p) [.Call (.Name n p2) [.Constant (.str s0) j pos] [] cpos, c] [] pos2) (dOf (kxOf X) C (cst (.bool b))) :=
  pe_wk (pe_callB call_isX1 hg hm (by decide +kernel) (pa_cons (pe_mkX (pmk_own FB T0.q T0.mg T0.keep (raises_own T0.sub T0.ty) hgn hdb) hex) (pa_cons hc pa_nil he2) he) (he := he) (hpl := hpl)) fun σ H Q q => by
    obtain ⟨F, st, w, R, ew, q⟩ := q
    cases ew
    intro a2 ha2
    have gn := Gr.new (o := keptO (.ref Ca) none a2) R.fh ha2
    exact ⟨a2, Ca, none, _, u, b, rfl, k, T, upd_same, fun dd z => (by cases z), hk, q _ _ _ gn.ff (R.grow gn) (.bl _)⟩
end
end Xm
namespace Xm
open PySem PySem.Spec PyProof.Rows L2
theorem dn_kw1 {K : PySem.W.Frag} {x : Str} {st : Stmt} {f : Addr} {fd : FuncData} {ps ks : List Str} {src : List (Nat ⊕ Nat)} {n : Nat} {dv : V} (T : Dn K x st [dv] f fd)
    (h : ∀ (Ta : Addr) (kV doc pm : Value) (an : Option Addr) (cdv ct : Value) (us ws its : List Value), us.length = n → ws.length = ks.length → its.length = 1 →
      ∃ k, bindArgs (PySem.W.fnOf x x (defArgs st) (defBody st) (defScope st) (.ref Ta) kV doc pm an cdv ct) ⟨us, ks.zip ws⟩ = seqItems? (.ref Ta) >>= k ∧ k (some its.toArray) = pure (ps.zip (arr .none src us ws))) :
    ∀ (s : Shared) (us ws : List Value), K.In s.heap → us.length = n → ws.length = ks.length → BindsTo s fd ⟨us, ks.zip ws⟩ (ps.zip (arr .none src us ws)) := by
  obtain ⟨oc, od, dV, kV, doc, pm, an, cdv, ct, osl, rfl, lk, hcd, hD, hK⟩ := T.ex
  rcases hD with ⟨e, _⟩ | ⟨_, Ta, o, its, m, rfl, lT, oT, rT⟩
  · cases e
  · intro s us ws X l1 l2
    have l3 : its.length = 1 := rT.length.symm
    obtain ⟨k, e1, e2⟩ := h Ta kV doc pm an cdv ct us ws its l1 l2 l3
    refine BindsTo.of_looks fun M => ?_
    rw [e1]
    exact looks_items X lT oT (.of_pure e2)
end Xm
set_option Elab.async false
set_option linter.all false
set_option maxRecDepth 100000
namespace Xm
open PySem PySem.Spec PyProof.Rows L2
theorem excIn_mk2 {K : PySem.W.Frag} {C N A NA : Addr} {nm q nmA qA : Str} {bs bm bsA : List Value} {hd hdA : Bool} {sn snA : List Str} {sub subA : List Value} {ab abA : Bool} {col colA : Option Bool} {dd dN ddA dNA : Option Addr} {k0 k1 k2 k3 k5 j0 j1 j2 j3 j5 : Option Value} {newId newA : String} {cN cNA : Value} {es esA : Array DictEntry} {nN nNA : Nat} {sN sNA : Array (Option Value)}
    (l : K.lookup C = some (excClassObj nm q C N bs (.ref A :: bm) hd sn sub ab col dd k0 k1 k2 k3 k5 newId)) (lN : K.lookup N = some ⟨cN, dN, .dict es nN, sN⟩) (o : (es.toList.all fun e => match e.key with | .str _ _ => true | _ => false) = true) (ni : PySem.W.nsIn K N "__init__" = some none)
    (lA : K.lookup A = some (excClassObj nmA qA A NA bsA bm hdA snA subA abA colA ddA j0 j1 j2 j3 j5 newA)) (lNA : K.lookup NA = some ⟨cNA, dNA, .dict esA nNA, sNA⟩) (oA : (esA.toList.all fun e => match e.key with | .str _ _ => true | _ => false) = true) (niA : PySem.W.nsIn K NA "__init__" = some none) (ne : bm.isEmpty = false) : PySem.W.excIn K C bm newId = true := by
  have t : PySem.W.tailIn K bm bm = true := by
    cases bm with
    | nil => cases ne
    | cons v r => unfold PySem.W.tailIn; rw [beq_self_eq_true]; rfl
  have n2 : PySem.W.nsOkIn K N = true := by
    unfold PySem.W.nsOkIn
    rw [lN]
    show es.all _ = true
    rw [← Array.all_toList]
    exact o
  have n3 : PySem.W.nsOkIn K NA = true := by
    unfold PySem.W.nsOkIn
    rw [lNA]
    show esA.all _ = true
    rw [← Array.all_toList]
    exact oA
  have t2 : PySem.W.tailIn K bm (.ref A :: bm) = true := by
    unfold PySem.W.tailIn
    rw [Bool.or_eq_true]
    right
    simp only [lA]
    show (PySem.W.nsOkIn K NA && PySem.W.nsIn K NA "__init__" == some none && PySem.W.tailIn K bm bm) = true
    rw [n3, niA, t]
    rfl
  unfold PySem.W.excIn
  rw [l]
  simp only [t2, n2, ni, beq_self_eq_true, Bool.not_false, Bool.and_self]
end Xm
set_option Elab.async false
set_option linter.all false
set_option maxRecDepth 100000
namespace K01
open PySem PySem.Spec PyProof.Rows L2 Xm
open DwA (g_law_draw mq_law_draw e_law_draw g_law_common mf_law_common e_law_common g_law_share mf_law_share e_law_share)
open DwD (g_is_whole mf_is_whole e_is_whole)
open K07 (g_is_share mf_is_share e_is_share)
noncomputable section
def g_law_number : SF := (seqS (asgS 1 (bin2 kCat (bin2 kMul (rvD (callQ mq_law_draw 0 (consA (bin2 kPow (cst (.int 10)) (cst (.int 6))) nilA))) (bin2 kPow (cst (.int 10)) (cst (.int 6)))) (rvD (callQ mq_law_draw 0 (consA (bin2 kPow (cst (.int 10)) (cst (.int 6))) nilA))))) (retS (bin2 kIx (lstF (consA (cst (.int 0)) (consA (cst (.int 1)) (consA (un1 kNeg (cst (.int 1))) (consA (bin2 kSub (rvD (callQ mq_law_draw 0 (consA (cst (.int 25)) nilA))) (cst (.int 12))) (consA (rd 1) (consA (bin2 kSub (cst (.int 0)) (rd 1)) (consA (cst (.int 360)) (consA (bin2 kSub (bin2 kPow (cst (.int 10)) (cst (.int 12))) (cst (.int 1))) nilA))))))))) (rvD (callQ mq_law_draw 0 (consA (cst (.int 8)) nilA))))))
def mq_law_number := runQ g_law_number 2
theorem e_law_number : ∀ xs ds r, ds.length + 1 = 1 → mq_law_number xs ds = some r → Leaves g_law_number (st1 2 xs ds) r.1 fun s => s[0]? = some (.pen r.2) := runQ_ok
def g_law_is_share : SF := (seqS (ifS (orB (notB (valB (un1 (kIsa "tuple") (rd 0)))) (valB (bin2 kNe (un1 kLen (rd 0)) (cst (.int 2))))) (retS (cst (.bool false))) skipS) (seqS (forS (itD (rd 0)) (setD 1) (clrS [1] (ifS (orB (notB (valB (un1 (kIsa "int") (rd 1)))) (valB (un1 (kIsa "bool") (rd 1)))) (retS (cst (.bool false))) skipS))) (retS (boolE (andB (valB (bin2 kGt (bin2 kIx (rd 0) (cst (.int 1))) (cst (.int 0)))) (valB (bin2 kEq (rvD (callP mf_law_common [] (consA (bin2 kIx (rd 0) (cst (.int 0))) (consA (bin2 kIx (rd 0) (cst (.int 1))) nilA)))) (cst (.int 1)))))))))
def mf_law_is_share := runP g_law_is_share 2
theorem e_law_is_share : ∀ ds r, ds.length = 1 → mf_law_is_share ds = some r → Leaves g_law_is_share (st0 2 ds) r fun _ => True := runP_ok
def g_law_refused : SF := (seqS (asgS 1 (cst .none)) (seqS (tryK (ct1 "NoShare" true) 2 1 (dropX (callP mx_share_of [] (consA (rd 0) (consA (cst (.int 0)) nilA))))) (seqS (ifS (orB (notB (valB (isaX 1 (ct1 "NoShare" true)))) (valB (isaX 1 (ct1 "NoShare" false)))) (retS (cst (.bool false))) skipS) (retS (isaX 1 (ct1 "NoShare" true))))))
def mf_law_refused := runP g_law_refused 3
theorem e_law_refused : ∀ ds r, ds.length = 1 → mf_law_refused ds = some r → Leaves g_law_refused (st0 3 ds) r fun _ => True := runP_ok
def g_law_made_right : SF := (seqS (asgS 2 (rvD (callP mf_share_of [] (consA (rd 0) (consA (rd 1) nilA))))) (seqS (ifS (orB (valB (bin2 kNe (un1 kRepr (rd 2)) (un1 kRepr (rvD (callP mf_law_share [] (consA (rd 0) (consA (rd 1) nilA))))))) (valB (bin2 kIsNotB (rvD (callP mf_is_share [] (consA (rd 2) nilA))) (cst (.bool true))))) (retS (cst (.bool false))) skipS) (retS (boolE (andB (valB (bin2 kEq (bin2 kMul (bin2 kIx (rd 2) (cst (.int 0))) (rd 1)) (bin2 kMul (rd 0) (bin2 kIx (rd 2) (cst (.int 1)))))) (valB (bin2 kEq (un1 kRepr (rvD (callK mf_share_of [.inr 1, .inr 0] nilA (consA (rd 1) (consA (rd 0) nilA))))) (un1 kRepr (rd 2)))))))))
def mf_law_made_right := runP g_law_made_right 3
theorem e_law_made_right : ∀ ds r, ds.length = 2 → mf_law_made_right ds = some r → Leaves g_law_made_right (st0 3 ds) r fun _ => True := runP_ok
def g_law : SF := (seqS (asgN 1 (newF (consA (un1 kList (cutF (rd 0) noO (someO (cst (.int 63))))) (consA (cst (.int 0)) (consA (cst (.int 0)) nilA))))) (seqS (forS (itR1 (cst (.int 12))) (setD 2) (clrS [2, 3, 6, 7, 8, 9, 10, 11] (seqS (asgS 6 (bin2 kIx (lstF (consA (cst (.int 1)) (consA (cst (.int 2)) (consA (cst (.int 6)) (consA (cst (.int 97)) (consA (bin2 kPow (cst (.int 10)) (cst (.int 5))) nilA)))))) (rvD (callQ mq_law_draw 1 (consA (cst (.int 5)) nilA))))) (seqS (par2 9 10 (consA (bin2 kMul (rvD (callQ mq_law_number 1 nilA)) (rd 6)) (consA (bin2 kMul (rvD (callQ mq_law_number 1 nilA)) (rd 6)) nilA))) (seqS (ifS (orB (notB (valB (rvD (callP mf_law_refused [] (consA (rd 9) nilA))))) (valB (bin2 kNe (un1 kRepr (rvD (callP mf_share_of [(.int 1)] (consA (rd 9) nilA)))) (un1 kRepr (tupF (consA (rd 9) (consA (cst (.int 1)) nilA))))))) (retS (cst (.bool false))) skipS) (seqS (ifS (andB (valB (bin2 kNe (rd 10) (cst (.int 0)))) (notB (valB (rvD (callP mf_law_made_right [] (consA (rd 9) (consA (rd 10) nilA))))))) (retS (cst (.bool false))) skipS) (seqS (asgS 7 (bin2 kIx (lstF (consA (cst .none) (consA (cst (.bool true)) (consA (cst (.str (PySem.Str.ofString "1"))) (consA (tupF (consA (cst (.int 1)) nilA)) (consA (lstF (consA (cst (.int 1)) nilA)) (consA (rd 9) (consA (cst (.int 0)) (consA (un1 kNeg (cst (.int 1))) nilA))))))))) (rvD (callQ mq_law_draw 1 (consA (cst (.int 8)) nilA))))) (seqS (asgS 8 (lstF (consA (tupF (consA (rd 9) (consA (rd 10) nilA))) (consA (tupF (consA (rd 10) (consA (rd 9) nilA))) (consA (tupF (consA (rd 9) (consA (un1 kAbs (rd 10)) nilA))) (consA (tupF (consA (rd 9) (consA (rd 10) (consA (cst (.int 1)) nilA)))) (consA (tupF (consA (rd 9) nilA)) (consA (lstF (consA (rd 9) (consA (rd 10) nilA))) (consA (tupF (consA (rd 7) (consA (cst (.int 7)) nilA))) (consA (tupF (consA (rd 9) (consA (rd 7) nilA))) (consA (rd 9) nilA))))))))))) (forS (itD (rd 8)) (setD 3) (clrS [3, 11] (seqS (asgS 11 (un1 kRepr (rd 3))) (seqS (ifS (orB (valB (bin2 kNe (un1 kRepr (rvD (callP mf_is_share [] (consA (rd 3) nilA)))) (un1 kRepr (rvD (callP mf_law_is_share [] (consA (rd 3) nilA)))))) (valB (bin2 kNe (un1 kRepr (rd 3)) (rd 11)))) (retS (cst (.bool false))) skipS) (ifS (valB (bin2 kNe (un1 kRepr (rvD (callK mf_is_share [.inr 0] nilA (consA (rd 3) nilA)))) (un1 kRepr (rvD (callP mf_law_is_share [] (consA (rd 3) nilA)))))) (retS (cst (.bool false))) skipS))))))))))))) (seqS (forS (itD (tupF (consA (cst .none) (consA (cst (.bool true)) (consA (cst (.str (PySem.Str.ofString "1/2"))) (consA (lstF nilA) (consA (cst (.dict [])) (consA (tupF nilA) (consA (tupF (consA (cst (.int 0)) (consA (cst (.int 1)) nilA))) (consA (tupF (consA (cst (.int 0)) (consA (cst (.int 2)) nilA))) (consA (tupF (consA (cst (.bool true)) (consA (cst (.int 1)) nilA))) (consA (tupF (consA (tupF (consA (cst (.int 1)) (consA (cst (.int 2)) nilA))) (consA (cst (.int 1)) nilA))) nilA)))))))))))) (setD 3) (clrS [3] (ifS (valB (bin2 kNe (un1 kRepr (rvD (callP mf_is_share [] (consA (rd 3) nilA)))) (un1 kRepr (rvD (callP mf_law_is_share [] (consA (rd 3) nilA)))))) (retS (cst (.bool false))) skipS))) (seqS (asgS 4 (lstF (consA (cst (.str (PySem.Str.ofString "line"))) (consA (cst (.int 3)) (consA (tupF (consA (cst (.str (PySem.Str.ofString "turn"))) (consA (cst (.int 1)) nilA))) (consA (cst .none) (consA (cst (.tuple [(.int 0), (.int 1)])) (consA (cst (.tuple [(.int 1), (.int 1)])) (consA (cst (.tuple [(.int 1), (.int 2)])) nilA))))))))) (seqS (asgN 5 (newF (consA (cst (.bool true)) (consA (cst (.bool true)) nilA)))) (seqS (dropS (appM 5 (thenB true (cst (.int 1))))) (retS (boolE (andB (valB (bin2 kEq (rd 4) (lstF (consA (cst (.str (PySem.Str.ofString "line"))) (consA (cst (.int 3)) (consA (tupF (consA (cst (.str (PySem.Str.ofString "turn"))) (consA (cst (.int 1)) nilA))) (consA (cst .none) (consA (tupF (consA (cst (.int 0)) (consA (cst (.int 1)) nilA))) (consA (tupF (consA (cst (.int 1)) (consA (cst (.int 1)) nilA))) (consA (tupF (consA (cst (.int 1)) (consA (cst (.int 2)) nilA))) nilA)))))))))) (valB (bin2 kEq (rd 5) (bin2 kMulL (lstF (consA (cst (.bool true)) nilA)) (cst (.int 3))))))))))))))
def mf_law := runP g_law 12
theorem e_law : ∀ ds r, ds.length = 1 → mf_law ds = some r → Leaves g_law (st0 12 ds) r fun _ => True := runP_ok
end
end K01
set_option Elab.async false
set_option linter.all false
set_option maxRecDepth 100000
set_option maxHeartbeats 4000000
namespace K01
open PySem PySem.Spec PyProof.Rows L2 Xm
open DwA (g_law_draw mq_law_draw e_law_draw g_law_common mf_law_common e_law_common g_law_share mf_law_share e_law_share)
open DwD (g_is_whole mf_is_whole e_is_whole)
open K07 (g_is_share mf_is_share e_is_share)
def topS (i : Nat) : Stmt := PySem.Challenge.pw_crossmarks_k01_shares_known_and_made.main.body.getD i (.Pass ⟨0, 0, 0, 0⟩)
section
variable {P : Program} {w : World} {K : PySem.W.Frag} {mg : Str → Option Value} {base : Heap} {f : Addr} {fd : FuncData}
abbrev st_NoCase : Stmt := clsM (topS 2) 0
theorem scI_NoCase : FnScope ["self", "part"] ["self", "part"] (defScope st_NoCase) := ⟨rfl, rfl, rfl, by decide +kernel, rfl, by decide +kernel, by decide +kernel⟩
theorem wI_NoCase {fI C CB : Addr} {dV kV doc pm cdv ct oc : Value} {an od : Option Addr} {osl : Array (Option Value)} (T : L2.OexC K C) (hno : PySem.W.findIn K (.ref C) "part" = some none) (hmB : mg "CrossError" = some (.ref CB)) (gaB : PySem.W.specialIn K (.ref CB) "__getattribute__" = some (some (.builtin "type.__getattribute__"))) (rdB : PySem.W.readsIn K CB (.type "type") = true) (vB : PySem.W.findCls K (.ref CB) (.type "type") "__init__" = some (.val (.builtin "ValueError.__init__"))) (lk : K.lookup fI = some ⟨oc, od, .func (PySem.W.fnOf "__init__" "NoCase.__init__" (defArgs st_NoCase) (defBody st_NoCase) (defScope st_NoCase) dV kV doc pm an cdv ct), osl⟩) (hcd : PySem.W.codeIn K cdv "NoCase.__init__" = true) : FnOk P w K mg base (CXM P w) 1 fI (PySem.W.fnOf "__init__" "NoCase.__init__" (defArgs st_NoCase) (defBody st_NoCase) (defScope st_NoCase) dV kV doc pm an cdv ct) ["self", "part"] (spI C "part") :=
  initOkC (m := "no case") (k := 0) T hno lk hcd scI_NoCase fun A outer s H E => pss_cons (ps_expr (pe_cinit (n := "CrossError") rfl hmB gaB rdB vB (pa_cons (pv 0) (pa_cons pe_str pa_nil)))) (pss_one (ps_ost (pv 0) (pv 1)))
abbrev st_NoText : Stmt := clsM (topS 5) 0
theorem scI_NoText : FnScope ["self", "at"] ["self", "at"] (defScope st_NoText) := ⟨rfl, rfl, rfl, by decide +kernel, rfl, by decide +kernel, by decide +kernel⟩
theorem wI_NoText {fI C CB : Addr} {dV kV doc pm cdv ct oc : Value} {an od : Option Addr} {osl : Array (Option Value)} (T : L2.OexC K C) (hno : PySem.W.findIn K (.ref C) "at" = some none) (hmB : mg "CrossError" = some (.ref CB)) (gaB : PySem.W.specialIn K (.ref CB) "__getattribute__" = some (some (.builtin "type.__getattribute__"))) (rdB : PySem.W.readsIn K CB (.type "type") = true) (vB : PySem.W.findCls K (.ref CB) (.type "type") "__init__" = some (.val (.builtin "ValueError.__init__"))) (lk : K.lookup fI = some ⟨oc, od, .func (PySem.W.fnOf "__init__" "NoText.__init__" (defArgs st_NoText) (defBody st_NoText) (defScope st_NoText) dV kV doc pm an cdv ct), osl⟩) (hcd : PySem.W.codeIn K cdv "NoText.__init__" = true) : FnOk P w K mg base (CXM P w) 1 fI (PySem.W.fnOf "__init__" "NoText.__init__" (defArgs st_NoText) (defBody st_NoText) (defScope st_NoText) dV kV doc pm an cdv ct) ["self", "at"] (spI C "at") :=
  initOkC (m := "no such text") (k := 0) T hno lk hcd scI_NoText fun A outer s H E => pss_cons (ps_expr (pe_cinit (n := "CrossError") rfl hmB gaB rdB vB (pa_cons (pv 0) (pa_cons pe_str pa_nil)))) (pss_one (ps_ost (pv 0) (pv 1)))
abbrev st_NoThing : Stmt := clsM (topS 7) 0
theorem scI_NoThing : FnScope ["self", "thing"] ["self", "thing"] (defScope st_NoThing) := ⟨rfl, rfl, rfl, by decide +kernel, rfl, by decide +kernel, by decide +kernel⟩
theorem wI_NoThing {fI C : Addr} {dV kV doc pm cdv ct oc : Value} {an od : Option Addr} {osl : Array (Option Value)} (T : OexK K C) (hno : PySem.W.takerIn K C "thing" = some none) (b_KeyError : mg "KeyError" = none) (vK : PySem.W.findCls K (.type "KeyError") (.type "type") "__init__" = some (.val (.builtin "KeyError.__init__"))) (lk : K.lookup fI = some ⟨oc, od, .func (PySem.W.fnOf "__init__" "NoThing.__init__" (defArgs st_NoThing) (defBody st_NoThing) (defScope st_NoThing) dV kV doc pm an cdv ct), osl⟩) (hcd : PySem.W.codeIn K cdv "NoThing.__init__" = true) : FnOk P w K mg base (CXM P w) 1 fI (PySem.W.fnOf "__init__" "NoThing.__init__" (defArgs st_NoThing) (defBody st_NoThing) (defScope st_NoThing) dV kV doc pm an cdv ct) ["self", "thing"] (spI C "thing") :=
  initOk (m := "no such thing") (k := 0) T hno lk hcd scI_NoThing fun A outer s H E => pss_cons (ps_expr (pe_keinit rfl b_KeyError vK (pa_cons (pv 0) (pa_cons pe_str pa_nil)))) (pss_one (ps_osK (pv 0) (pv 1)))
abbrev s_is_whole : Stmt := topS 12
theorem sc_is_whole : FnScope ["thing"] ["thing"] (defScope s_is_whole) := ⟨rfl, rfl, rfl, by decide +kernel, rfl, by decide +kernel, by decide +kernel⟩
theorem w_is_whole (T : Dn K "is_whole" s_is_whole [] f fd) (b_bool : mg "bool" = none) (b_int : mg "int" = none) (b_isinstance : mg "isinstance" = none) : FnG P w K mg base (CXM P w) 1 f fd ["thing"] (spP ⟨K, P, w, mg⟩ 1 mf_is_whole) :=
  defP g_is_whole T sc_is_whole rfl (by decide) e_is_whole fun C cdv A outer s H E room guards =>
    (xs_one (xs_ret (xd_and (xd_isa isa_int (by decide +kernel) b_isinstance b_int (xd_rd (pv 0))) (xd_one (xd_not (xd_isa isa_bool (by decide +kernel) b_isinstance b_bool (xd_rd (pv 0))))))))
abbrev s_common : Stmt := topS 13
theorem sc_common : FnScope ["one", "other"] ["one", "other"] (defScope s_common) := ⟨rfl, rfl, rfl, by decide +kernel, rfl, by decide +kernel, by decide +kernel⟩
theorem w_common (T : Dn K "common" s_common [] f fd) (b_abs : mg "abs" = none) : FnG P w K mg base (CXM P w) 1 f fd ["one", "other"] (spP ⟨K, P, w, mg⟩ 2 mf_common) :=
  defP g_common T sc_common rfl (by decide) e_common fun C cdv A outer s H E room guards =>
    (xs_cons (xs_par2 sc_common.nd (xa_cons (xd_abs b_abs (xd_rd (pv 0))) (xa_cons (xd_abs b_abs (xd_rd (pv 1))) xa_nil)) rfl rfl (by decide) rfl rfl (by rfl)) (xs_cons (xs_while ms_common PassesOwn.never (xt_ne room.units (xd_rd (pv 1)) xd_int) (xs_one (xs_par2 sc_common.nd (xa_cons (xd_rd (pv 1)) (xa_cons (xd_mod (xd_rd (pv 0)) (xd_rd (pv 1))) xa_nil)) rfl rfl (by decide) rfl rfl (by rfl)))) (xs_one (xs_ret (xd_rd (pv 0))))))
abbrev s_law_draw : Stmt := topS 17
theorem sc_law_draw : FnScope ["_law_pen", "_law_many", "_law_at", "_law_cell", "_law_stirred", "_law_digit"] ["_law_pen", "_law_many"] (defScope s_law_draw) := ⟨rfl, rfl, rfl, by decide +kernel, rfl, by decide +kernel, by decide +kernel⟩
theorem w_law_draw (T : Dn K "_law_draw" s_law_draw [] f fd) (b_abs : mg "abs" = none) (b_len : mg "len" = none) : FnG P w K mg base (CXM P w) 1 f fd ["_law_pen", "_law_many"] (spQ ⟨K, P, w, mg⟩ 2 mq_law_draw) :=
  defQ g_law_draw T sc_law_draw rfl (by decide) e_law_draw fun C cdv A outer s H E room guards =>
    (xs_cons (xs_if (xt_gt (xd_itemM (pv 0) xd_int) xd_int) (xs_cons (xs_set sc_law_draw.nd (xd_mod (xd_itemM (pv 0) xd_int) (xd_rd (pv 1))) rfl (.inl rfl)) (xs_cons (xs_setItem (pv 0) xd_int (xd_div (xd_itemM (pv 0) xd_int) (xd_rd (pv 1)))) (xs_one (xs_ret (xd_rd (pv 5)))))) xs_nil) (xs_cons (xs_set sc_law_draw.nd (xd_itemM (pv 0) xd_int) rfl (.inl rfl)) (xs_cons (xs_setItem (pv 0) xd_int (xd_cat (xd_rd (pv 2)) xd_int)) (xs_cons (xs_set sc_law_draw.nd (xd_cat (xd_mul xd_int (xd_rd (pv 2))) xd_int) rfl (.inl rfl)) (xs_cons (xs_if (xt_ne room.units (xd_itemM (pv 0) xd_int) (xd_lst xa_nil)) (xs_one (xs_set sc_law_draw.nd (xd_item (Room.u65 room) (xd_itemM (pv 0) xd_int) (xd_mod (xd_rd (pv 2)) (xd_len b_len (xd_itemM (pv 0) xd_int)))) rfl (.inl rfl))) xs_nil) (xs_cons (xs_if (xt_w (xw_and (xt_lt (xd_rd (pv 2)) (xd_len b_len (xd_itemM (pv 0) xd_int))) (xw_and1 (xt_ge (xd_abs b_abs (xd_rd (pv 3))) (xd_pow xd_int xd_int))))) (xs_cons (xs_setItem (pv 0) xd_int (xd_div (xd_abs b_abs (xd_rd (pv 3))) (xd_rd (pv 1)))) (xs_one (xs_ret (xd_mod (xd_abs b_abs (xd_rd (pv 3))) (xd_rd (pv 1)))))) xs_nil) (xs_cons (xs_set sc_law_draw.nd (xd_mod (xd_pow (xd_cat (xd_cat (xd_cat (xd_mod (xd_rd (pv 3)) xd_int) (xd_mul (xd_mul xd_int (xd_rd (pv 2))) (xd_rd (pv 2)))) (xd_mul xd_int (xd_rd (pv 2)))) xd_int) xd_int) xd_int) rfl (.inl rfl)) (xs_cons (xs_set sc_law_draw.nd (xd_mod (xd_pow (xd_cat (xd_mul (xd_rd (pv 4)) (xd_cat (xd_mul xd_int (xd_rd (pv 2))) xd_int)) xd_int) xd_int) xd_int) rfl (.inl rfl)) (xs_one (xs_ret (xd_mod (xd_div (xd_rd (pv 4)) xd_int) (xd_rd (pv 1)))))))))))))
abbrev s_law_common : Stmt := topS 18
theorem sc_law_common : FnScope ["_law_one", "_law_other"] ["_law_one", "_law_other"] (defScope s_law_common) := ⟨rfl, rfl, rfl, by decide +kernel, rfl, by decide +kernel, by decide +kernel⟩
theorem w_law_common (T : Dn K "_law_common" s_law_common [] f fd) (b_abs : mg "abs" = none) : FnG P w K mg base (CXM P w) 1 f fd ["_law_one", "_law_other"] (spP ⟨K, P, w, mg⟩ 2 mf_law_common) :=
  defP g_law_common T sc_law_common rfl (by decide) e_law_common fun C cdv A outer s H E room guards =>
    (xs_cons (xs_par2 sc_law_common.nd (xa_cons (xd_abs b_abs (xd_rd (pv 0))) (xa_cons (xd_abs b_abs (xd_rd (pv 1))) xa_nil)) rfl rfl (by decide) rfl rfl (by rfl)) (xs_cons (xs_while msAll PassesOwn.never (xt_gt (xd_rd (pv 1)) xd_int) (xs_one (xs_par2 sc_law_common.nd (xa_cons (xd_rd (pv 1)) (xa_cons (xd_mod (xd_rd (pv 0)) (xd_rd (pv 1))) xa_nil)) rfl rfl (by decide) rfl rfl (by rfl)))) (xs_one (xs_ret (xd_rd (pv 0))))))
abbrev s_is_share : Stmt := topS 14
theorem sc_is_share : FnScope ["thing"] ["thing"] (defScope s_is_share) := ⟨rfl, rfl, rfl, by decide +kernel, rfl, by decide +kernel, by decide +kernel⟩
theorem w_is_share (T : Dn K "is_share" s_is_share [] f fd) (b_isinstance : mg "isinstance" = none) (b_len : mg "len" = none) (b_tuple : mg "tuple" = none) (h_is_whole : Has P w K mg base 1 "is_whole" 1 [] mf_is_whole) (h_common : Has P w K mg base 1 "common" 2 [] mf_common) : FnG P w K mg base (CXM P w) 2 f fd ["thing"] (spP ⟨K, P, w, mg⟩ 1 mf_is_share) :=
  defP g_is_share T sc_is_share rfl (by decide) e_is_share fun C cdv A outer s H E room guards =>
    (xs_cons (xs_if (xt_w (xw_or (xt_not (xt_val (xd_isa isa_tuple (by decide +kernel) b_isinstance b_tuple (xd_rd (pv 0))))) (xw_or (xt_ne room.units (xd_len b_len (xd_rd (pv 0))) xd_int) (xw_or (xt_not (xt_val (xd_call h_is_whole room guards (by decide) (xa_cons (xd_item (Room.u65 room) (xd_rd (pv 0)) xd_int) xa_nil) (ar_cons ar_nil)))) (xw_or1 (xt_not (xt_val (xd_call h_is_whole room guards (by decide) (xa_cons (xd_item (Room.u65 room) (xd_rd (pv 0)) xd_int) xa_nil) (ar_cons ar_nil))))))))) (xs_one (xs_ret xd_bl)) xs_nil) (xs_one (xs_ret (xd_and (xd_gt (xd_item (Room.u65 room) (xd_rd (pv 0)) xd_int) xd_int) (xd_one (xd_eq room.units (xd_call h_common room guards (by decide) (xa_cons (xd_item (Room.u65 room) (xd_rd (pv 0)) xd_int) (xa_cons (xd_item (Room.u65 room) (xd_rd (pv 0)) xd_int) xa_nil)) (ar_cons (ar_cons ar_nil))) xd_int))))))
abbrev s_share_of : Stmt := topS 15
theorem sc_share_of : FnScope ["top", "bottom", "by"] ["top", "bottom"] (defScope s_share_of) := ⟨rfl, rfl, rfl, by decide +kernel, rfl, by decide +kernel, by decide +kernel⟩
theorem w_share_of {C_NoShare : Addr} (T : Dn K "share_of" s_share_of [.int 1] f fd) (x_NoShare : ExC K mg "NoShare" C_NoShare [.type "ZeroDivisionError", .type "ArithmeticError", .type "Exception", .type "BaseException", .type "object"] "ZeroDivisionError.__new__") (h_common : Has P w K mg base 1 "common" 2 [] mf_common) : FnG P w K mg base (CXM P w) 2 f fd ["top", "bottom"] (spP ⟨K, P, w, mg⟩ 2 mx_share_of) :=
  defX gx_share_of T sc_share_of rfl (by decide) ex_share_of fun C cdv A outer s H E hW room guards =>
    (xs_cons (xs_if (xt_eq room.units (xd_rd (pv 1)) xd_int) (xs_one (xs_raise rfl (cx_takes hW) PySem.F.excBase_ZeroDivisionError x_NoShare)) xs_nil) (xs_cons (xs_set sc_share_of.nd (xd_call h_common room guards (by decide) (xa_cons (xd_rd (pv 0)) (xa_cons (xd_rd (pv 1)) xa_nil)) (ar_cons (ar_cons ar_nil))) rfl (.inl rfl)) (xs_cons (xs_if (xt_lt (xd_rd (pv 1)) xd_int) (xs_one (xs_set sc_share_of.nd (xd_neg (xd_rd (pv 2))) rfl (.inl rfl))) xs_nil) (xs_one (xs_ret (xd_tup (xa_cons (xd_div (xd_rd (pv 0)) (xd_rd (pv 2))) (xa_cons (xd_div (xd_rd (pv 1)) (xd_rd (pv 2))) xa_nil))))))))
abbrev s_law_share : Stmt := topS 19
theorem sc_law_share : FnScope ["_law_up", "_law_down", "_law_by"] ["_law_up", "_law_down"] (defScope s_law_share) := ⟨rfl, rfl, rfl, by decide +kernel, rfl, by decide +kernel, by decide +kernel⟩
theorem w_law_share (T : Dn K "_law_share" s_law_share [] f fd) (h_law_common : Has P w K mg base 1 "_law_common" 2 [] mf_law_common) : FnG P w K mg base (CXM P w) 2 f fd ["_law_up", "_law_down"] (spP ⟨K, P, w, mg⟩ 2 mf_law_share) :=
  defP g_law_share T sc_law_share rfl (by decide) e_law_share fun C cdv A outer s H E room guards =>
    (xs_cons (xs_set sc_law_share.nd (xd_call h_law_common room guards (by decide) (xa_cons (xd_rd (pv 0)) (xa_cons (xd_rd (pv 1)) xa_nil)) (ar_cons (ar_cons ar_nil))) rfl (.inl rfl)) (xs_cons (xs_if (xt_lt (xd_rd (pv 1)) xd_int) (xs_one (xs_set sc_law_share.nd (xd_sub xd_int (xd_rd (pv 2))) rfl (.inl rfl))) xs_nil) (xs_one (xs_ret (xd_tup (xa_cons (xd_div (xd_rd (pv 0)) (xd_rd (pv 2))) (xa_cons (xd_div (xd_rd (pv 1)) (xd_rd (pv 2))) xa_nil)))))))
abbrev s_law_number : Stmt := topS 20
theorem sc_law_number : FnScope ["_law_pen", "_law_great"] ["_law_pen"] (defScope s_law_number) := ⟨rfl, rfl, rfl, by decide +kernel, rfl, by decide +kernel, by decide +kernel⟩
theorem w_law_number (T : Dn K "_law_number" s_law_number [] f fd) (h_law_draw : HasQ P w K mg base 1 "_law_draw" 2 mq_law_draw) : FnG P w K mg base (CXM P w) 2 f fd ["_law_pen"] (spQ ⟨K, P, w, mg⟩ 1 mq_law_number) :=
  defQ g_law_number T sc_law_number rfl (by decide) e_law_number fun C cdv A outer s H E room guards =>
    (xs_cons (xs_set sc_law_number.nd (xd_cat (xd_mul (xd_callM h_law_draw room guards (by decide) (pv 0) (xa_cons (xd_pow xd_int xd_int) xa_nil) (ar_cons ar_nil)) (xd_pow xd_int xd_int)) (xd_callM h_law_draw room guards (by decide) (pv 0) (xa_cons (xd_pow xd_int xd_int) xa_nil) (ar_cons ar_nil))) rfl (.inl rfl)) (xs_one (xs_ret (xd_item (Room.u65 room) (xd_lst (xa_cons xd_int (xa_cons xd_int (xa_cons (xd_neg xd_int) (xa_cons (xd_sub (xd_callM h_law_draw room guards (by decide) (pv 0) (xa_cons xd_int xa_nil) (ar_cons ar_nil)) xd_int) (xa_cons (xd_rd (pv 1)) (xa_cons (xd_sub xd_int (xd_rd (pv 1))) (xa_cons xd_int (xa_cons (xd_sub (xd_pow xd_int xd_int) xd_int) xa_nil))))))))) (xd_callM h_law_draw room guards (by decide) (pv 0) (xa_cons xd_int xa_nil) (ar_cons ar_nil))))))
abbrev s_law_is_share : Stmt := topS 21
theorem sc_law_is_share : FnScope ["_law_some", "_law_part"] ["_law_some"] (defScope s_law_is_share) := ⟨rfl, rfl, rfl, by decide +kernel, rfl, by decide +kernel, by decide +kernel⟩
theorem w_law_is_share (T : Dn K "_law_is_share" s_law_is_share [] f fd) (b_bool : mg "bool" = none) (b_int : mg "int" = none) (b_isinstance : mg "isinstance" = none) (b_len : mg "len" = none) (b_tuple : mg "tuple" = none) (h_law_common : Has P w K mg base 1 "_law_common" 2 [] mf_law_common) : FnG P w K mg base (CXM P w) 2 f fd ["_law_some"] (spP ⟨K, P, w, mg⟩ 1 mf_law_is_share) :=
  defP g_law_is_share T sc_law_is_share rfl (by decide) e_law_is_share fun C cdv A outer s H E room guards =>
    (xs_cons (xs_if (xt_w (xw_or (xt_not (xt_val (xd_isa isa_tuple (by decide +kernel) b_isinstance b_tuple (xd_rd (pv 0))))) (xw_or1 (xt_ne room.units (xd_len b_len (xd_rd (pv 0))) xd_int)))) (xs_one (xs_ret xd_bl)) xs_nil) (xs_cons (xs_for PassesOwn.never rfl (xi_seq (xd_rd (pv 0))) (xg_name sc_law_is_share.nd rfl (.inl rfl)) (xss_clr [1] (xs_one (xs_if (xt_w (xw_or (xt_not (xt_val (xd_isa isa_int (by decide +kernel) b_isinstance b_int (xd_rd (pv 1))))) (xw_or1 (xt_val (xd_isa isa_bool (by decide +kernel) b_isinstance b_bool (xd_rd (pv 1))))))) (xs_one (xs_ret xd_bl)) xs_nil)))) (xs_one (xs_ret (xd_and (xd_gt (xd_item (Room.u65 room) (xd_rd (pv 0)) xd_int) xd_int) (xd_one (xd_eq room.units (xd_call h_law_common room guards (by decide) (xa_cons (xd_item (Room.u65 room) (xd_rd (pv 0)) xd_int) (xa_cons (xd_item (Room.u65 room) (xd_rd (pv 0)) xd_int) xa_nil)) (ar_cons (ar_cons ar_nil))) xd_int)))))))
abbrev s_law_refused : Stmt := topS 22
theorem sc_law_refused : FnScope ["_law_up", "_law_caught", "error"] ["_law_up"] (defScope s_law_refused) := ⟨rfl, rfl, rfl, by decide +kernel, rfl, by decide +kernel, by decide +kernel⟩
theorem w_law_refused {C_CrossError : Addr} {C_NoShare : Addr} {C_NoThing : Addr} (T : Dn K "_law_refused" s_law_refused [] f fd) (b_ZeroDivisionError : mg "ZeroDivisionError" = none) (b_isinstance : mg "isinstance" = none) (x_CrossError : ExC K mg "CrossError" C_CrossError [.type "ValueError", .type "Exception", .type "BaseException", .type "object"] "ValueError.__new__") (x_NoShare : ExC K mg "NoShare" C_NoShare [.type "ZeroDivisionError", .type "ArithmeticError", .type "Exception", .type "BaseException", .type "object"] "ZeroDivisionError.__new__") (x_NoThing : ClsG mg "NoThing" C_NoThing) (xm_NoShare_CrossError : PySem.W.exmOne K (.ref C_NoShare) (.ref C_CrossError) = some false) (xm_NoShare_NoShare : PySem.W.exmOne K (.ref C_NoShare) (.ref C_NoShare) = some true) (xm_NoShare_NoThing : PySem.W.exmOne K (.ref C_NoShare) (.ref C_NoThing) = some false) (xe_NoShare : ExcC K C_NoShare) (kO_NoShare_NoShare : PySem.W.kitOne K (.ref C_NoShare) (.ref C_NoShare) = some true) (kO_NoShare_ZeroDivisionError : PySem.W.kitOne K (.ref C_NoShare) (.type "ZeroDivisionError") = some true) (kT_NoShare_CrossError_NoThing : PySem.W.kitAny K (.ref C_NoShare) [(.ref C_CrossError), (.ref C_NoThing)] = some false) (h_share_of_x : Has P w K mg base 2 "share_of" 2 [] mx_share_of) : FnG P w K mg base (CXM P w) 3 f fd ["_law_up"] (spP ⟨K, P, w, mg⟩ 1 mf_law_refused) :=
  defX g_law_refused T sc_law_refused rfl (by decide) e_law_refused fun C cdv A outer s H E hW room guards =>
    (xs_cons (xs_set sc_law_refused.nd xd_non rfl (.inl rfl)) (xs_cons (xs_tryK (by decide) rfl rfl rfl sc_law_refused.nd rfl rfl (test3 ⟨rfl, by decide, .inl x_CrossError.mg⟩ ⟨rfl, by decide, .inl x_NoShare.mg⟩ ⟨rfl, by decide, .inl x_NoThing.mg⟩) (cx_takes hW) (ct1_T x_NoShare.mg (exm3 xm_NoShare_CrossError xm_NoShare_NoShare xm_NoShare_NoThing)) (fun W pn xe tk1 ps1 => (xs_one (xs_dropX (xx_call h_share_of_x tk1 room guards (by decide) (xa_cons (xd_rd (pv 0)) (xa_cons xd_int xa_nil)) (ar_cons (ar_cons ar_nil)))))) (fun a oe pn => (asgV_ok (ps_set sc_law_refused.nd rfl (.inl rfl) (pv 2))))) (xs_cons (xs_if (xt_w (xw_or (xt_not (xt_val (xd_isaX1 b_isinstance (pv 1) (pe_glob (v := .ref C_NoShare) rfl x_NoShare.mg rfl) (.own _) (ctOk1 x_NoShare.mg xe_NoShare kO_NoShare_NoShare)))) (xw_or1 (xt_val (xd_isaXT b_isinstance (pv 1) (pa_cs (pe_glob (v := .ref C_CrossError) rfl x_CrossError.mg rfl) (pa_cs (pe_glob (v := .ref C_NoThing) rfl x_NoThing.mg rfl) pa_nil)) (by simp) (.cons (.own _) (.cons (.own _) .nil)) (ctOk1 x_NoShare.mg xe_NoShare kT_NoShare_CrossError_NoThing)))))) (xs_one (xs_ret xd_bl)) xs_nil) (xs_one (xs_ret (xd_isaX1 b_isinstance (pv 1) (pe_bltn (v := .ty "ZeroDivisionError") rfl b_ZeroDivisionError rfl rfl) (.ty _) (ctOk1 x_NoShare.mg xe_NoShare kO_NoShare_ZeroDivisionError)))))))
abbrev s_law_made_right : Stmt := topS 23
theorem sc_law_made_right : FnScope ["_law_up", "_law_down", "_law_told"] ["_law_up", "_law_down"] (defScope s_law_made_right) := ⟨rfl, rfl, rfl, by decide +kernel, rfl, by decide +kernel, by decide +kernel⟩
theorem w_law_made_right (T : Dn K "_law_made_right" s_law_made_right [] f fd) (b_repr : mg "repr" = none) (h_share_of : Has P w K mg base 2 "share_of" 2 [] mf_share_of) (h_law_share : Has P w K mg base 2 "_law_share" 2 [] mf_law_share) (h_is_share : Has P w K mg base 2 "is_share" 1 [] mf_is_share) (h_share_of_k0_bottom_top : HasK P w K mg base 2 "share_of" 2 0 ["bottom", "top"] [.inr 1, .inr 0] mf_share_of) : FnG P w K mg base (CXM P w) 3 f fd ["_law_up", "_law_down"] (spP ⟨K, P, w, mg⟩ 2 mf_law_made_right) :=
  defP g_law_made_right T sc_law_made_right rfl (by decide) e_law_made_right fun C cdv A outer s H E room guards =>
    (xs_cons (xs_set sc_law_made_right.nd (xd_call h_share_of room guards (by decide) (xa_cons (xd_rd (pv 0)) (xa_cons (xd_rd (pv 1)) xa_nil)) (ar_cons (ar_cons ar_nil))) rfl (.inl rfl)) (xs_cons (xs_if (xt_w (xw_or (xt_ne room.units (xd_repr (Room.u200 room) guards b_repr (xd_rd (pv 2))) (xd_repr (Room.u200 room) guards b_repr (xd_call h_law_share room guards (by decide) (xa_cons (xd_rd (pv 0)) (xa_cons (xd_rd (pv 1)) xa_nil)) (ar_cons (ar_cons ar_nil))))) (xw_or1 (xt_isNotB (xd_call h_is_share room guards (by decide) (xa_cons (xd_rd (pv 2)) xa_nil) (ar_cons ar_nil)) xd_bl)))) (xs_one (xs_ret xd_bl)) xs_nil) (xs_one (xs_ret (xd_and (xd_eq room.units (xd_mul (xd_item (Room.u65 room) (xd_rd (pv 2)) xd_int) (xd_rd (pv 1))) (xd_mul (xd_rd (pv 0)) (xd_item (Room.u65 room) (xd_rd (pv 2)) xd_int))) (xd_one (xd_eq room.units (xd_repr (Room.u200 room) guards b_repr (xd_callK0 h_share_of_k0_bottom_top room guards (by decide) (xk_cons (xd_rd (pv 1)) (xk_cons (xd_rd (pv 0)) xk_nil)) (ar_cons (ar_cons ar_nil)))) (xd_repr (Room.u200 room) guards b_repr (xd_rd (pv 2))))))))))
abbrev s_law : Stmt := topS 24
theorem sc_law : FnScope ["_law_script", "_law_pen", "_law_turn", "_law_one", "_law_fields", "_law_bases", "_law_by", "_law_odd", "_law_bent", "_law_up", "_law_down", "_law_kept"] ["_law_script"] (defScope s_law) := ⟨rfl, rfl, rfl, by decide +kernel, rfl, by decide +kernel, by decide +kernel⟩
theorem w_law (T : Dn K "law" s_law [] f fd) (b_KeyError : mg "KeyError" = none) (b_ValueError : mg "ValueError" = none) (b_abs : mg "abs" = none) (b_isinstance : mg "isinstance" = none) (b_list : mg "list" = none) (b_range : mg "range" = none) (b_repr : mg "repr" = none) (x_CrossError : ExC K mg "CrossError" C_CrossError [.type "ValueError", .type "Exception", .type "BaseException", .type "object"] "ValueError.__new__") (x_NoCase : ClsG mg "NoCase" C_NoCase) (x_NoOrder : ExC K mg "NoOrder" C_NoOrder [.type "ValueError", .type "Exception", .type "BaseException", .type "object"] "ValueError.__new__") (x_NoText : ClsG mg "NoText" C_NoText) (x_NoThing : ClsG mg "NoThing" C_NoThing) (x_NoWeight : ExC K mg "NoWeight" C_NoWeight [.type "ValueError", .type "Exception", .type "BaseException", .type "object"] "ValueError.__new__") {fI_NoCase : Addr} {fd_NoCase : FuncData} (o_NoCase : L2.OexC K C_NoCase) (iC_NoCase : PySem.W.findIn K (.ref C_NoCase) "__init__" = some (some (.ref fI_NoCase))) (tI_NoCase : PySem.W.typeIn K (.ref fI_NoCase) = some (.type "function")) (F_NoCase : FnOk P w K mg base (CXM P w) 1 fI_NoCase fd_NoCase ["self", "part"] (spI C_NoCase "part")) (bI_NoCase : Binds K fd_NoCase ["self", "part"] []) {fI_NoText : Addr} {fd_NoText : FuncData} (o_NoText : L2.OexC K C_NoText) (iC_NoText : PySem.W.findIn K (.ref C_NoText) "__init__" = some (some (.ref fI_NoText))) (tI_NoText : PySem.W.typeIn K (.ref fI_NoText) = some (.type "function")) (F_NoText : FnOk P w K mg base (CXM P w) 1 fI_NoText fd_NoText ["self", "at"] (spI C_NoText "at")) (bI_NoText : Binds K fd_NoText ["self", "at"] []) {fI_NoThing : Addr} {fd_NoThing : FuncData} (o_NoThing : OexK K C_NoThing) (iC_NoThing : PySem.W.findIn K (.ref C_NoThing) "__init__" = some (some (.ref fI_NoThing))) (tI_NoThing : PySem.W.typeIn K (.ref fI_NoThing) = some (.type "function")) (F_NoThing : FnOk P w K mg base (CXM P w) 1 fI_NoThing fd_NoThing ["self", "thing"] (spI C_NoThing "thing")) (bI_NoThing : Binds K fd_NoThing ["self", "thing"] []) (xe_NoCase : ExcC K C_NoCase) (xe_NoOrder : ExcC K C_NoOrder) (xe_NoText : ExcC K C_NoText) (xe_NoThing : ExcC K C_NoThing) (xe_NoWeight : ExcC K C_NoWeight) (fF_NoCase_part : PySem.W.findIn K (.ref C_NoCase) "part" = some none) (fF_NoText_at : PySem.W.findIn K (.ref C_NoText) "at" = some none) (fF_NoThing_thing : PySem.W.findIn K (.ref C_NoThing) "thing" = some none) (kO_NoOrder_CrossError : PySem.W.kitOne K (.ref C_NoOrder) (.ref C_CrossError) = some true) (kO_NoThing_KeyError : PySem.W.kitOne K (.ref C_NoThing) (.type "KeyError") = some true) (kO_NoWeight_ValueError : PySem.W.kitOne K (.ref C_NoWeight) (.type "ValueError") = some true) (g_HALF : GlobD K mg "HALF" (.tuple [(.int 1), (.int 2)])) (g_NOUGHT : GlobD K mg "NOUGHT" (.tuple [(.int 0), (.int 1)])) (g_ONE : GlobD K mg "ONE" (.tuple [(.int 1), (.int 1)])) (h_law_draw : HasQ P w K mg base 1 "_law_draw" 2 mq_law_draw) (h_law_number : HasQ P w K mg base 2 "_law_number" 1 mq_law_number) (h_law_refused : Has P w K mg base 3 "_law_refused" 1 [] mf_law_refused) (h_share_of_d : Has P w K mg base 2 "share_of" 2 [(.int 1)] mf_share_of) (h_law_made_right : Has P w K mg base 3 "_law_made_right" 2 [] mf_law_made_right) (h_is_share : Has P w K mg base 2 "is_share" 1 [] mf_is_share) (h_law_is_share : Has P w K mg base 2 "_law_is_share" 1 [] mf_law_is_share) (h_is_share_k0_thing : HasK P w K mg base 2 "is_share" 1 0 ["thing"] [.inr 0] mf_is_share) : FnG P w K mg base (CXM P w) 4 f fd ["_law_script"] (spP ⟨K, P, w, mg⟩ 1 mf_law) :=
  defP g_law T sc_law rfl (by decide) e_law fun C cdv A outer s H E room guards =>
    (xs_cons (xs_setN sc_law.nd (xn_lst (xa_cons (xd_tolist b_list (xd_slice (xd_rd (pv 0)) xo_none (xo_some xd_int))) (xa_cons xd_int (xa_cons xd_int xa_nil)))) rfl (.inl rfl)) (xs_cons (xs_for PassesOwn.never rfl (xi_range1 b_range xd_int) (xg_name sc_law.nd rfl (.inl rfl)) (xss_clr [2, 3, 6, 7, 8, 9, 10, 11] (xs_cons (xs_set sc_law.nd (xd_item (Room.u65 room) (xd_lst (xa_cons xd_int (xa_cons xd_int (xa_cons xd_int (xa_cons xd_int (xa_cons (xd_pow xd_int xd_int) xa_nil)))))) (xd_callM h_law_draw room guards (by decide) (pv 1) (xa_cons xd_int xa_nil) (ar_cons ar_nil))) rfl (.inl rfl)) (xs_cons (xs_par2 sc_law.nd (xa_cons (xd_mul (xd_callM h_law_number room guards (by decide) (pv 1) xa_nil ar_nil) (xd_rd (pv 6))) (xa_cons (xd_mul (xd_callM h_law_number room guards (by decide) (pv 1) xa_nil ar_nil) (xd_rd (pv 6))) xa_nil)) rfl rfl (by decide) rfl rfl (by rfl)) (xs_cons (xs_if (xt_w (xw_or (xt_not (xt_val (xd_call h_law_refused room guards (by decide) (xa_cons (xd_rd (pv 9)) xa_nil) (ar_cons ar_nil)))) (xw_or1 (xt_ne room.units (xd_repr (Room.u200 room) guards b_repr (xd_call h_share_of_d room guards (by decide) (xa_cons (xd_rd (pv 9)) xa_nil) (ar_cons ar_nil))) (xd_repr (Room.u200 room) guards b_repr (xd_tup (xa_cons (xd_rd (pv 9)) (xa_cons xd_int xa_nil)))))))) (xs_one (xs_ret xd_bl)) xs_nil) (xs_cons (xs_if (xt_w (xw_and (xt_ne room.units (xd_rd (pv 10)) xd_int) (xw_and1 (xt_not (xt_val (xd_call h_law_made_right room guards (by decide) (xa_cons (xd_rd (pv 9)) (xa_cons (xd_rd (pv 10)) xa_nil)) (ar_cons (ar_cons ar_nil)))))))) (xs_one (xs_ret xd_bl)) xs_nil) (xs_cons (xs_set sc_law.nd (xd_item (Room.u65 room) (xd_lst (xa_cons xd_non (xa_cons xd_bl (xa_cons xd_str (xa_cons (xd_tup (xa_cons xd_int xa_nil)) (xa_cons (xd_lst (xa_cons xd_int xa_nil)) (xa_cons (xd_rd (pv 9)) (xa_cons xd_int (xa_cons (xd_neg xd_int) xa_nil))))))))) (xd_callM h_law_draw room guards (by decide) (pv 1) (xa_cons xd_int xa_nil) (ar_cons ar_nil))) rfl (.inl rfl)) (xs_cons (xs_set sc_law.nd (xd_lst (xa_cons (xd_tup (xa_cons (xd_rd (pv 9)) (xa_cons (xd_rd (pv 10)) xa_nil))) (xa_cons (xd_tup (xa_cons (xd_rd (pv 10)) (xa_cons (xd_rd (pv 9)) xa_nil))) (xa_cons (xd_tup (xa_cons (xd_rd (pv 9)) (xa_cons (xd_abs b_abs (xd_rd (pv 10))) xa_nil))) (xa_cons (xd_tup (xa_cons (xd_rd (pv 9)) (xa_cons (xd_rd (pv 10)) (xa_cons xd_int xa_nil)))) (xa_cons (xd_tup (xa_cons (xd_rd (pv 9)) xa_nil)) (xa_cons (xd_lst (xa_cons (xd_rd (pv 9)) (xa_cons (xd_rd (pv 10)) xa_nil))) (xa_cons (xd_tup (xa_cons (xd_rd (pv 7)) (xa_cons xd_int xa_nil))) (xa_cons (xd_tup (xa_cons (xd_rd (pv 9)) (xa_cons (xd_rd (pv 7)) xa_nil))) (xa_cons (xd_rd (pv 9)) xa_nil)))))))))) rfl (.inl rfl)) (xs_one (xs_for PassesOwn.never rfl (xi_seq (xd_rd (pv 8))) (xg_name sc_law.nd rfl (.inl rfl)) (xss_clr [3, 11] (xs_cons (xs_set sc_law.nd (xd_repr (Room.u200 room) guards b_repr (xd_rd (pv 3))) rfl (.inl rfl)) (xs_cons (xs_if (xt_w (xw_or (xt_ne room.units (xd_repr (Room.u200 room) guards b_repr (xd_call h_is_share room guards (by decide) (xa_cons (xd_rd (pv 3)) xa_nil) (ar_cons ar_nil))) (xd_repr (Room.u200 room) guards b_repr (xd_call h_law_is_share room guards (by decide) (xa_cons (xd_rd (pv 3)) xa_nil) (ar_cons ar_nil)))) (xw_or1 (xt_ne room.units (xd_repr (Room.u200 room) guards b_repr (xd_rd (pv 3))) (xd_rd (pv 11)))))) (xs_one (xs_ret xd_bl)) xs_nil) (xs_one (xs_if (xt_ne room.units (xd_repr (Room.u200 room) guards b_repr (xd_callK0 h_is_share_k0_thing room guards (by decide) (xk_cons (xd_rd (pv 3)) xk_nil) (ar_cons ar_nil))) (xd_repr (Room.u200 room) guards b_repr (xd_call h_law_is_share room guards (by decide) (xa_cons (xd_rd (pv 3)) xa_nil) (ar_cons ar_nil)))) (xs_one (xs_ret xd_bl)) xs_nil))))))))))))))) (xs_cons (xs_for PassesOwn.never rfl (xi_seq (xd_tup (xa_cons xd_non (xa_cons xd_bl (xa_cons xd_str (xa_cons (xd_lst xa_nil) (xa_cons xd_emp (xa_cons (xd_tup xa_nil) (xa_cons (xd_tup (xa_cons xd_int (xa_cons xd_int xa_nil))) (xa_cons (xd_tup (xa_cons xd_int (xa_cons xd_int xa_nil))) (xa_cons (xd_tup (xa_cons xd_bl (xa_cons xd_int xa_nil))) (xa_cons (xd_tup (xa_cons (xd_tup (xa_cons xd_int (xa_cons xd_int xa_nil))) (xa_cons xd_int xa_nil))) xa_nil)))))))))))) (xg_name sc_law.nd rfl (.inl rfl)) (xss_clr [3] (xs_one (xs_if (xt_ne room.units (xd_repr (Room.u200 room) guards b_repr (xd_call h_is_share room guards (by decide) (xa_cons (xd_rd (pv 3)) xa_nil) (ar_cons ar_nil))) (xd_repr (Room.u200 room) guards b_repr (xd_call h_law_is_share room guards (by decide) (xa_cons (xd_rd (pv 3)) xa_nil) (ar_cons ar_nil)))) (xs_one (xs_ret xd_bl)) xs_nil)))) (xs_cons (xs_set sc_law.nd (xd_lst (xa_cons (xd_fldC (Xm.ExcC.xf xe_NoCase) fF_NoCase_part o_NoCase x_NoCase.mg iC_NoCase tI_NoCase F_NoCase room (by decide) bI_NoCase xd_str) (xa_cons (xd_fldC (Xm.ExcC.xf xe_NoText) fF_NoText_at o_NoText x_NoText.mg iC_NoText tI_NoText F_NoText room (by decide) bI_NoText xd_int) (xa_cons (xd_fldK (Xm.ExcC.xf xe_NoThing) fF_NoThing_thing o_NoThing x_NoThing.mg iC_NoThing tI_NoThing F_NoThing room (by decide) bI_NoThing (xd_tup (xa_cons xd_str (xa_cons xd_int xa_nil)))) (xa_cons (xd_fldC (Xm.ExcC.xf xe_NoText) fF_NoText_at o_NoText x_NoText.mg iC_NoText tI_NoText F_NoText room (by decide) bI_NoText xd_non) (xa_cons (xd_glob g_NOUGHT) (xa_cons (xd_glob g_ONE) (xa_cons (xd_glob g_HALF) xa_nil)))))))) rfl (.inl rfl)) (xs_cons (xs_setN sc_law.nd (xn_lst (xa_cons (xd_isP PySem.F.excBase_ValueError x_NoOrder xe_NoOrder b_isinstance (pe_glob (v := .ref C_CrossError) (by rfl) x_CrossError.mg (by rfl)) (.own _) kO_NoOrder_CrossError) (xa_cons (xd_isP PySem.F.excBase_ValueError x_NoWeight xe_NoWeight b_isinstance (pe_bltn (v := .ty "ValueError") (by rfl) b_ValueError (by rfl) (by rfl)) (.ty _) kO_NoWeight_ValueError) xa_nil))) rfl (.inl rfl)) (xs_cons (xs_drop (xd_append (pv 5) (xd_isO xe_NoThing (pmk_oexK o_NoThing iC_NoThing tI_NoThing F_NoThing (Room.mono (j := 2) room (by decide)) bI_NoThing rfl x_NoThing.mg (pa_cons xd_int pa_nil)) b_isinstance (pe_bltn (v := .ty "KeyError") (by rfl) b_KeyError (by rfl) (by rfl)) (.ty _) kO_NoThing_KeyError))) (xs_one (xs_ret (xd_and (xd_eq room.units (xd_rd (pv 4)) (xd_lst (xa_cons xd_str (xa_cons xd_int (xa_cons (xd_tup (xa_cons xd_str (xa_cons xd_int xa_nil))) (xa_cons xd_non (xa_cons (xd_tup (xa_cons xd_int (xa_cons xd_int xa_nil))) (xa_cons (xd_tup (xa_cons xd_int (xa_cons xd_int xa_nil))) (xa_cons (xd_tup (xa_cons xd_int (xa_cons xd_int xa_nil))) xa_nil))))))))) (xd_one (xd_eq room.units (xd_rd (pv 5)) (xd_mulL (xd_lst (xa_cons xd_bl xa_nil)) xd_int))))))))))))
end
theorem all_mk {l : PySem.W.OpenLaw} {w : World} {K : PySem.W.Frag} {h : Heap} {mg : Str → Option Value} {fa : Addr} (X : K.In h) (G : h.Ns mainGlobals mg) (hfa : mg "law" = some (.ref fa))
    {f_is_whole : Addr} {od_is_whole an_is_whole : Option Addr} {sl_is_whole : Array (Option Value)} {oc_is_whole kV_is_whole dc_is_whole pm_is_whole cd_is_whole ct_is_whole : Value}
    {f_common : Addr} {od_common an_common : Option Addr} {sl_common : Array (Option Value)} {oc_common kV_common dc_common pm_common cd_common ct_common : Value}
    {f_law_draw : Addr} {od_law_draw an_law_draw : Option Addr} {sl_law_draw : Array (Option Value)} {oc_law_draw kV_law_draw dc_law_draw pm_law_draw cd_law_draw ct_law_draw : Value}
    {f_law_common : Addr} {od_law_common an_law_common : Option Addr} {sl_law_common : Array (Option Value)} {oc_law_common kV_law_common dc_law_common pm_law_common cd_law_common ct_law_common : Value}
    {f_is_share : Addr} {od_is_share an_is_share : Option Addr} {sl_is_share : Array (Option Value)} {oc_is_share kV_is_share dc_is_share pm_is_share cd_is_share ct_is_share : Value}
    {f_share_of : Addr} {od_share_of an_share_of : Option Addr} {sl_share_of : Array (Option Value)} {oc_share_of kV_share_of dc_share_of pm_share_of cd_share_of ct_share_of : Value}
    {T_share_of : Addr} {oT_share_of : Value} {dT_share_of : Option Addr} {sT_share_of : Array (Option Value)} {t_share_of : Tok} {n_share_of : Nat}
    {f_law_share : Addr} {od_law_share an_law_share : Option Addr} {sl_law_share : Array (Option Value)} {oc_law_share kV_law_share dc_law_share pm_law_share cd_law_share ct_law_share : Value}
    {f_law_number : Addr} {od_law_number an_law_number : Option Addr} {sl_law_number : Array (Option Value)} {oc_law_number kV_law_number dc_law_number pm_law_number cd_law_number ct_law_number : Value}
    {f_law_is_share : Addr} {od_law_is_share an_law_is_share : Option Addr} {sl_law_is_share : Array (Option Value)} {oc_law_is_share kV_law_is_share dc_law_is_share pm_law_is_share cd_law_is_share ct_law_is_share : Value}
    {f_law_refused : Addr} {od_law_refused an_law_refused : Option Addr} {sl_law_refused : Array (Option Value)} {oc_law_refused kV_law_refused dc_law_refused pm_law_refused cd_law_refused ct_law_refused : Value}
    {f_law_made_right : Addr} {od_law_made_right an_law_made_right : Option Addr} {sl_law_made_right : Array (Option Value)} {oc_law_made_right kV_law_made_right dc_law_made_right pm_law_made_right cd_law_made_right ct_law_made_right : Value}
    {f_law : Addr} {od_law an_law : Option Addr} {sl_law : Array (Option Value)} {oc_law kV_law dc_law pm_law cd_law ct_law : Value}
    {aGHALF : Addr} {sTGHALF : Array (Option Value)} {tGHALF uGHALF : Tok} {nGHALF : Nat}
    {aGNOUGHT : Addr} {sTGNOUGHT : Array (Option Value)} {tGNOUGHT uGNOUGHT : Tok} {nGNOUGHT : Nat}
    {aGONE : Addr} {sTGONE : Array (Option Value)} {tGONE uGONE : Tok} {nGONE : Nat}
    {C_CrossError N_CrossError : Addr} {nm_CrossError qq_CrossError : Str} {bs_CrossError : List Value} {hd_CrossError : Bool} {sn_CrossError : List Str} {su_CrossError : List Value} {ab_CrossError : Bool} {co_CrossError : Option Bool} {dd_CrossError dN_CrossError : Option Addr} {k0_CrossError k1_CrossError k2_CrossError k3_CrossError k5_CrossError : Option Value} {cN_CrossError : Value} {es_CrossError : Array DictEntry} {nN_CrossError : Nat} {sN_CrossError : Array (Option Value)}
    {C_NoShare N_NoShare : Addr} {nm_NoShare qq_NoShare : Str} {bs_NoShare : List Value} {hd_NoShare : Bool} {sn_NoShare : List Str} {su_NoShare : List Value} {ab_NoShare : Bool} {co_NoShare : Option Bool} {dd_NoShare dN_NoShare : Option Addr} {k0_NoShare k1_NoShare k2_NoShare k3_NoShare k5_NoShare : Option Value} {cN_NoShare : Value} {es_NoShare : Array DictEntry} {nN_NoShare : Nat} {sN_NoShare : Array (Option Value)}
    {C_NoThing : Addr}
    {N_NoThing fI_NoThing : Addr} {nm_NoThing qq_NoThing : Str} {bs_NoThing : List Value} {sn_NoThing : List Str} {su_NoThing : List Value} {ab_NoThing : Bool} {co_NoThing : Option Bool} {dd_NoThing : Option Addr} {k0_NoThing k1_NoThing k2_NoThing k3_NoThing k5_NoThing : Option Value} {odI_NoThing anI_NoThing : Option Addr} {slI_NoThing : Array (Option Value)} {ocI_NoThing kVI_NoThing dcI_NoThing pmI_NoThing cdI_NoThing ctI_NoThing : Value}
    {C_NoCase : Addr}
    {N_NoCase fI_NoCase : Addr} {nm_NoCase qq_NoCase : Str} {bs_NoCase : List Value} {sn_NoCase : List Str} {su_NoCase : List Value} {ab_NoCase : Bool} {co_NoCase : Option Bool} {dd_NoCase : Option Addr} {k0_NoCase k1_NoCase k2_NoCase k3_NoCase k5_NoCase : Option Value} {odI_NoCase anI_NoCase : Option Addr} {slI_NoCase : Array (Option Value)} {ocI_NoCase kVI_NoCase dcI_NoCase pmI_NoCase cdI_NoCase ctI_NoCase : Value}
    {C_NoOrder N_NoOrder : Addr} {nm_NoOrder qq_NoOrder : Str} {bs_NoOrder : List Value} {hd_NoOrder : Bool} {sn_NoOrder : List Str} {su_NoOrder : List Value} {ab_NoOrder : Bool} {co_NoOrder : Option Bool} {dd_NoOrder dN_NoOrder : Option Addr} {k0_NoOrder k1_NoOrder k2_NoOrder k3_NoOrder k5_NoOrder : Option Value} {cN_NoOrder : Value} {es_NoOrder : Array DictEntry} {nN_NoOrder : Nat} {sN_NoOrder : Array (Option Value)}
    {C_NoText : Addr}
    {N_NoText fI_NoText : Addr} {nm_NoText qq_NoText : Str} {bs_NoText : List Value} {sn_NoText : List Str} {su_NoText : List Value} {ab_NoText : Bool} {co_NoText : Option Bool} {dd_NoText : Option Addr} {k0_NoText k1_NoText k2_NoText k3_NoText k5_NoText : Option Value} {odI_NoText anI_NoText : Option Addr} {slI_NoText : Array (Option Value)} {ocI_NoText kVI_NoText dcI_NoText pmI_NoText cdI_NoText ctI_NoText : Value}
    {C_NoWeight N_NoWeight : Addr} {nm_NoWeight qq_NoWeight : Str} {bs_NoWeight : List Value} {hd_NoWeight : Bool} {sn_NoWeight : List Str} {su_NoWeight : List Value} {ab_NoWeight : Bool} {co_NoWeight : Option Bool} {dd_NoWeight dN_NoWeight : Option Addr} {k0_NoWeight k1_NoWeight k2_NoWeight k3_NoWeight k5_NoWeight : Option Value} {cN_NoWeight : Value} {es_NoWeight : Array DictEntry} {nN_NoWeight : Nat} {sN_NoWeight : Array (Option Value)}
    (a_is_whole : PySem.W.nsIn K mainGlobals "is_whole" = some (some (.ref f_is_whole)))
    (l_is_whole : K.lookup f_is_whole = some ⟨oc_is_whole, od_is_whole, .func (PySem.W.fnOf "is_whole" "is_whole" (defArgs s_is_whole) (defBody s_is_whole) (defScope s_is_whole) .none kV_is_whole dc_is_whole pm_is_whole an_is_whole cd_is_whole ct_is_whole), sl_is_whole⟩)
    (c_is_whole : PySem.W.codeIn K cd_is_whole "is_whole" = true)
    (k_is_whole : PySem.W.keepIn K (.ref f_is_whole) = true)
    (a_common : PySem.W.nsIn K mainGlobals "common" = some (some (.ref f_common)))
    (l_common : K.lookup f_common = some ⟨oc_common, od_common, .func (PySem.W.fnOf "common" "common" (defArgs s_common) (defBody s_common) (defScope s_common) .none kV_common dc_common pm_common an_common cd_common ct_common), sl_common⟩)
    (c_common : PySem.W.codeIn K cd_common "common" = true)
    (k_common : PySem.W.keepIn K (.ref f_common) = true)
    (a_law_draw : PySem.W.nsIn K mainGlobals "_law_draw" = some (some (.ref f_law_draw)))
    (l_law_draw : K.lookup f_law_draw = some ⟨oc_law_draw, od_law_draw, .func (PySem.W.fnOf "_law_draw" "_law_draw" (defArgs s_law_draw) (defBody s_law_draw) (defScope s_law_draw) .none kV_law_draw dc_law_draw pm_law_draw an_law_draw cd_law_draw ct_law_draw), sl_law_draw⟩)
    (c_law_draw : PySem.W.codeIn K cd_law_draw "_law_draw" = true)
    (k_law_draw : PySem.W.keepIn K (.ref f_law_draw) = true)
    (a_law_common : PySem.W.nsIn K mainGlobals "_law_common" = some (some (.ref f_law_common)))
    (l_law_common : K.lookup f_law_common = some ⟨oc_law_common, od_law_common, .func (PySem.W.fnOf "_law_common" "_law_common" (defArgs s_law_common) (defBody s_law_common) (defScope s_law_common) .none kV_law_common dc_law_common pm_law_common an_law_common cd_law_common ct_law_common), sl_law_common⟩)
    (c_law_common : PySem.W.codeIn K cd_law_common "_law_common" = true)
    (k_law_common : PySem.W.keepIn K (.ref f_law_common) = true)
    (a_is_share : PySem.W.nsIn K mainGlobals "is_share" = some (some (.ref f_is_share)))
    (l_is_share : K.lookup f_is_share = some ⟨oc_is_share, od_is_share, .func (PySem.W.fnOf "is_share" "is_share" (defArgs s_is_share) (defBody s_is_share) (defScope s_is_share) .none kV_is_share dc_is_share pm_is_share an_is_share cd_is_share ct_is_share), sl_is_share⟩)
    (c_is_share : PySem.W.codeIn K cd_is_share "is_share" = true)
    (k_is_share : PySem.W.keepIn K (.ref f_is_share) = true)
    (a_share_of : PySem.W.nsIn K mainGlobals "share_of" = some (some (.ref f_share_of)))
    (l_share_of : K.lookup f_share_of = some ⟨oc_share_of, od_share_of, .func (PySem.W.fnOf "share_of" "share_of" (defArgs s_share_of) (defBody s_share_of) (defScope s_share_of) (.ref T_share_of) kV_share_of dc_share_of pm_share_of an_share_of cd_share_of ct_share_of), sl_share_of⟩)
    (c_share_of : PySem.W.codeIn K cd_share_of "share_of" = true)
    (k_share_of : PySem.W.keepIn K (.ref f_share_of) = true)
    (q_share_of : K.lookup T_share_of = some ⟨oT_share_of, dT_share_of, .seq #[.int 1 t_share_of] n_share_of, sT_share_of⟩)
    (a_law_share : PySem.W.nsIn K mainGlobals "_law_share" = some (some (.ref f_law_share)))
    (l_law_share : K.lookup f_law_share = some ⟨oc_law_share, od_law_share, .func (PySem.W.fnOf "_law_share" "_law_share" (defArgs s_law_share) (defBody s_law_share) (defScope s_law_share) .none kV_law_share dc_law_share pm_law_share an_law_share cd_law_share ct_law_share), sl_law_share⟩)
    (c_law_share : PySem.W.codeIn K cd_law_share "_law_share" = true)
    (k_law_share : PySem.W.keepIn K (.ref f_law_share) = true)
    (a_law_number : PySem.W.nsIn K mainGlobals "_law_number" = some (some (.ref f_law_number)))
    (l_law_number : K.lookup f_law_number = some ⟨oc_law_number, od_law_number, .func (PySem.W.fnOf "_law_number" "_law_number" (defArgs s_law_number) (defBody s_law_number) (defScope s_law_number) .none kV_law_number dc_law_number pm_law_number an_law_number cd_law_number ct_law_number), sl_law_number⟩)
    (c_law_number : PySem.W.codeIn K cd_law_number "_law_number" = true)
    (k_law_number : PySem.W.keepIn K (.ref f_law_number) = true)
    (a_law_is_share : PySem.W.nsIn K mainGlobals "_law_is_share" = some (some (.ref f_law_is_share)))
    (l_law_is_share : K.lookup f_law_is_share = some ⟨oc_law_is_share, od_law_is_share, .func (PySem.W.fnOf "_law_is_share" "_law_is_share" (defArgs s_law_is_share) (defBody s_law_is_share) (defScope s_law_is_share) .none kV_law_is_share dc_law_is_share pm_law_is_share an_law_is_share cd_law_is_share ct_law_is_share), sl_law_is_share⟩)
    (c_law_is_share : PySem.W.codeIn K cd_law_is_share "_law_is_share" = true)
    (k_law_is_share : PySem.W.keepIn K (.ref f_law_is_share) = true)
    (a_law_refused : PySem.W.nsIn K mainGlobals "_law_refused" = some (some (.ref f_law_refused)))
    (l_law_refused : K.lookup f_law_refused = some ⟨oc_law_refused, od_law_refused, .func (PySem.W.fnOf "_law_refused" "_law_refused" (defArgs s_law_refused) (defBody s_law_refused) (defScope s_law_refused) .none kV_law_refused dc_law_refused pm_law_refused an_law_refused cd_law_refused ct_law_refused), sl_law_refused⟩)
    (c_law_refused : PySem.W.codeIn K cd_law_refused "_law_refused" = true)
    (k_law_refused : PySem.W.keepIn K (.ref f_law_refused) = true)
    (a_law_made_right : PySem.W.nsIn K mainGlobals "_law_made_right" = some (some (.ref f_law_made_right)))
    (l_law_made_right : K.lookup f_law_made_right = some ⟨oc_law_made_right, od_law_made_right, .func (PySem.W.fnOf "_law_made_right" "_law_made_right" (defArgs s_law_made_right) (defBody s_law_made_right) (defScope s_law_made_right) .none kV_law_made_right dc_law_made_right pm_law_made_right an_law_made_right cd_law_made_right ct_law_made_right), sl_law_made_right⟩)
    (c_law_made_right : PySem.W.codeIn K cd_law_made_right "_law_made_right" = true)
    (k_law_made_right : PySem.W.keepIn K (.ref f_law_made_right) = true)
    (a_law : PySem.W.nsIn K mainGlobals "law" = some (some (.ref f_law)))
    (l_law : K.lookup f_law = some ⟨oc_law, od_law, .func (PySem.W.fnOf "law" "law" (defArgs s_law) (defBody s_law) (defScope s_law) .none kV_law dc_law pm_law an_law cd_law ct_law), sl_law⟩)
    (c_law : PySem.W.codeIn K cd_law "law" = true)
    (k_law : PySem.W.keepIn K (.ref f_law) = true)
    (z_KeyError : PySem.W.nsIn K mainGlobals "KeyError" = some none)
    (z_ValueError : PySem.W.nsIn K mainGlobals "ValueError" = some none)
    (z_ZeroDivisionError : PySem.W.nsIn K mainGlobals "ZeroDivisionError" = some none)
    (z_abs : PySem.W.nsIn K mainGlobals "abs" = some none)
    (z_bool : PySem.W.nsIn K mainGlobals "bool" = some none)
    (z_int : PySem.W.nsIn K mainGlobals "int" = some none)
    (z_isinstance : PySem.W.nsIn K mainGlobals "isinstance" = some none)
    (z_len : PySem.W.nsIn K mainGlobals "len" = some none)
    (z_list : PySem.W.nsIn K mainGlobals "list" = some none)
    (z_range : PySem.W.nsIn K mainGlobals "range" = some none)
    (z_repr : PySem.W.nsIn K mainGlobals "repr" = some none)
    (z_tuple : PySem.W.nsIn K mainGlobals "tuple" = some none)
    (mGHALF : PySem.W.nsIn K mainGlobals "HALF" = some (some (.ref aGHALF)))
    (lGHALF : K.lookup aGHALF = some ⟨.type "tuple", none, .seq #[.int 1 tGHALF, .int 2 uGHALF] nGHALF, sTGHALF⟩)
    (mGNOUGHT : PySem.W.nsIn K mainGlobals "NOUGHT" = some (some (.ref aGNOUGHT)))
    (lGNOUGHT : K.lookup aGNOUGHT = some ⟨.type "tuple", none, .seq #[.int 0 tGNOUGHT, .int 1 uGNOUGHT] nGNOUGHT, sTGNOUGHT⟩)
    (mGONE : PySem.W.nsIn K mainGlobals "ONE" = some (some (.ref aGONE)))
    (lGONE : K.lookup aGONE = some ⟨.type "tuple", none, .seq #[.int 1 tGONE, .int 1 uGONE] nGONE, sTGONE⟩)
    (aX_CrossError : PySem.W.nsIn K mainGlobals "CrossError" = some (some (.ref C_CrossError)))
    (lX_CrossError : K.lookup C_CrossError = some (excClassObj nm_CrossError qq_CrossError C_CrossError N_CrossError bs_CrossError [.type "ValueError", .type "Exception", .type "BaseException", .type "object"] hd_CrossError sn_CrossError su_CrossError ab_CrossError co_CrossError dd_CrossError k0_CrossError k1_CrossError k2_CrossError k3_CrossError k5_CrossError "ValueError.__new__"))
    (nX_CrossError : K.lookup N_CrossError = some ⟨cN_CrossError, dN_CrossError, .dict es_CrossError nN_CrossError, sN_CrossError⟩)
    (rX_CrossError : (es_CrossError.toList.all fun e => match e.key with | .str _ _ => true | _ => false) = true)
    (iX_CrossError : PySem.W.nsIn K N_CrossError "__init__" = some none)
    (kX_CrossError : PySem.W.keepIn K (.ref C_CrossError) = true)
    (sX_CrossError : PySem.W.subIn K (.ref C_CrossError) (.type "BaseException") = some true)
    (tX_CrossError : PySem.W.typeIn K (.ref C_CrossError) = some (.type "type"))
    (jX_CrossError : PySem.W.isClsIn K C_CrossError = true)
    (aX_NoShare : PySem.W.nsIn K mainGlobals "NoShare" = some (some (.ref C_NoShare)))
    (lX_NoShare : K.lookup C_NoShare = some (excClassObj nm_NoShare qq_NoShare C_NoShare N_NoShare bs_NoShare [.type "ZeroDivisionError", .type "ArithmeticError", .type "Exception", .type "BaseException", .type "object"] hd_NoShare sn_NoShare su_NoShare ab_NoShare co_NoShare dd_NoShare k0_NoShare k1_NoShare k2_NoShare k3_NoShare k5_NoShare "ZeroDivisionError.__new__"))
    (nX_NoShare : K.lookup N_NoShare = some ⟨cN_NoShare, dN_NoShare, .dict es_NoShare nN_NoShare, sN_NoShare⟩)
    (rX_NoShare : (es_NoShare.toList.all fun e => match e.key with | .str _ _ => true | _ => false) = true)
    (iX_NoShare : PySem.W.nsIn K N_NoShare "__init__" = some none)
    (kX_NoShare : PySem.W.keepIn K (.ref C_NoShare) = true)
    (sX_NoShare : PySem.W.subIn K (.ref C_NoShare) (.type "BaseException") = some true)
    (tX_NoShare : PySem.W.typeIn K (.ref C_NoShare) = some (.type "type"))
    (jX_NoShare : PySem.W.isClsIn K C_NoShare = true)
    (aX_NoThing : PySem.W.nsIn K mainGlobals "NoThing" = some (some (.ref C_NoThing)))
    (sX_NoThing : PySem.W.subIn K (.ref C_NoThing) (.type "BaseException") = some true)
    (tX_NoThing : PySem.W.typeIn K (.ref C_NoThing) = some (.type "type"))
    (jX_NoThing : PySem.W.isClsIn K C_NoThing = true)
    (lX_NoThing : K.lookup C_NoThing = some (Xk.keO nm_NoThing qq_NoThing C_NoThing N_NoThing bs_NoThing true sn_NoThing su_NoThing ab_NoThing co_NoThing dd_NoThing k0_NoThing k1_NoThing k2_NoThing k3_NoThing k5_NoThing))
    (saX_NoThing : PySem.W.findIn K (.ref C_NoThing) "__setattr__" = some (some (.builtin "object.__setattr__")))
    (kX_NoThing : PySem.W.keepIn K (.ref C_NoThing) = true)
    (iX_NoThing : PySem.W.findIn K (.ref C_NoThing) "__init__" = some (some (.ref fI_NoThing)))
    (tIX_NoThing : PySem.W.typeIn K (.ref fI_NoThing) = some (.type "function"))
    (tkX_NoThing : PySem.W.takerIn K C_NoThing "thing" = some none)
    (lIX_NoThing : K.lookup fI_NoThing = some ⟨ocI_NoThing, odI_NoThing, .func (PySem.W.fnOf "__init__" "NoThing.__init__" (defArgs st_NoThing) (defBody st_NoThing) (defScope st_NoThing) .none kVI_NoThing dcI_NoThing pmI_NoThing anI_NoThing cdI_NoThing ctI_NoThing), slI_NoThing⟩)
    (cIX_NoThing : PySem.W.codeIn K cdI_NoThing "NoThing.__init__" = true)
    (vKE : PySem.W.findCls K (.type "KeyError") (.type "type") "__init__" = some (.val (.builtin "KeyError.__init__")))
    (aX_NoCase : PySem.W.nsIn K mainGlobals "NoCase" = some (some (.ref C_NoCase)))
    (sX_NoCase : PySem.W.subIn K (.ref C_NoCase) (.type "BaseException") = some true)
    (tX_NoCase : PySem.W.typeIn K (.ref C_NoCase) = some (.type "type"))
    (jX_NoCase : PySem.W.isClsIn K C_NoCase = true)
    (lX_NoCase : K.lookup C_NoCase = some (excClassObj nm_NoCase qq_NoCase C_NoCase N_NoCase bs_NoCase (.ref C_CrossError :: [.type "ValueError", .type "Exception", .type "BaseException", .type "object"]) true sn_NoCase su_NoCase ab_NoCase co_NoCase dd_NoCase k0_NoCase k1_NoCase k2_NoCase k3_NoCase k5_NoCase "ValueError.__new__"))
    (saX_NoCase : PySem.W.findIn K (.ref C_NoCase) "__setattr__" = some (some (.builtin "object.__setattr__")))
    (kX_NoCase : PySem.W.keepIn K (.ref C_NoCase) = true)
    (iX_NoCase : PySem.W.findIn K (.ref C_NoCase) "__init__" = some (some (.ref fI_NoCase)))
    (tIX_NoCase : PySem.W.typeIn K (.ref fI_NoCase) = some (.type "function"))
    (tkX_NoCase : PySem.W.findIn K (.ref C_NoCase) "part" = some none)
    (lIX_NoCase : K.lookup fI_NoCase = some ⟨ocI_NoCase, odI_NoCase, .func (PySem.W.fnOf "__init__" "NoCase.__init__" (defArgs st_NoCase) (defBody st_NoCase) (defScope st_NoCase) .none kVI_NoCase dcI_NoCase pmI_NoCase anI_NoCase cdI_NoCase ctI_NoCase), slI_NoCase⟩)
    (cIX_NoCase : PySem.W.codeIn K cdI_NoCase "NoCase.__init__" = true)
    (gaB : PySem.W.specialIn K (.ref C_CrossError) "__getattribute__" = some (some (.builtin "type.__getattribute__"))) (rdB : PySem.W.readsIn K C_CrossError (.type "type") = true) (vB : PySem.W.findCls K (.ref C_CrossError) (.type "type") "__init__" = some (.val (.builtin "ValueError.__init__")))
    (aX_NoOrder : PySem.W.nsIn K mainGlobals "NoOrder" = some (some (.ref C_NoOrder)))
    (lX_NoOrder : K.lookup C_NoOrder = some (excClassObj nm_NoOrder qq_NoOrder C_NoOrder N_NoOrder bs_NoOrder (.ref C_CrossError :: [.type "ValueError", .type "Exception", .type "BaseException", .type "object"]) hd_NoOrder sn_NoOrder su_NoOrder ab_NoOrder co_NoOrder dd_NoOrder k0_NoOrder k1_NoOrder k2_NoOrder k3_NoOrder k5_NoOrder "ValueError.__new__"))
    (nX_NoOrder : K.lookup N_NoOrder = some ⟨cN_NoOrder, dN_NoOrder, .dict es_NoOrder nN_NoOrder, sN_NoOrder⟩)
    (rX_NoOrder : (es_NoOrder.toList.all fun e => match e.key with | .str _ _ => true | _ => false) = true)
    (iX_NoOrder : PySem.W.nsIn K N_NoOrder "__init__" = some none)
    (kX_NoOrder : PySem.W.keepIn K (.ref C_NoOrder) = true)
    (sX_NoOrder : PySem.W.subIn K (.ref C_NoOrder) (.type "BaseException") = some true)
    (tX_NoOrder : PySem.W.typeIn K (.ref C_NoOrder) = some (.type "type"))
    (jX_NoOrder : PySem.W.isClsIn K C_NoOrder = true)
    (aX_NoText : PySem.W.nsIn K mainGlobals "NoText" = some (some (.ref C_NoText)))
    (sX_NoText : PySem.W.subIn K (.ref C_NoText) (.type "BaseException") = some true)
    (tX_NoText : PySem.W.typeIn K (.ref C_NoText) = some (.type "type"))
    (jX_NoText : PySem.W.isClsIn K C_NoText = true)
    (lX_NoText : K.lookup C_NoText = some (excClassObj nm_NoText qq_NoText C_NoText N_NoText bs_NoText (.ref C_CrossError :: [.type "ValueError", .type "Exception", .type "BaseException", .type "object"]) true sn_NoText su_NoText ab_NoText co_NoText dd_NoText k0_NoText k1_NoText k2_NoText k3_NoText k5_NoText "ValueError.__new__"))
    (saX_NoText : PySem.W.findIn K (.ref C_NoText) "__setattr__" = some (some (.builtin "object.__setattr__")))
    (kX_NoText : PySem.W.keepIn K (.ref C_NoText) = true)
    (iX_NoText : PySem.W.findIn K (.ref C_NoText) "__init__" = some (some (.ref fI_NoText)))
    (tIX_NoText : PySem.W.typeIn K (.ref fI_NoText) = some (.type "function"))
    (tkX_NoText : PySem.W.findIn K (.ref C_NoText) "at" = some none)
    (lIX_NoText : K.lookup fI_NoText = some ⟨ocI_NoText, odI_NoText, .func (PySem.W.fnOf "__init__" "NoText.__init__" (defArgs st_NoText) (defBody st_NoText) (defScope st_NoText) .none kVI_NoText dcI_NoText pmI_NoText anI_NoText cdI_NoText ctI_NoText), slI_NoText⟩)
    (cIX_NoText : PySem.W.codeIn K cdI_NoText "NoText.__init__" = true)
    (aX_NoWeight : PySem.W.nsIn K mainGlobals "NoWeight" = some (some (.ref C_NoWeight)))
    (lX_NoWeight : K.lookup C_NoWeight = some (excClassObj nm_NoWeight qq_NoWeight C_NoWeight N_NoWeight bs_NoWeight (.ref C_CrossError :: [.type "ValueError", .type "Exception", .type "BaseException", .type "object"]) hd_NoWeight sn_NoWeight su_NoWeight ab_NoWeight co_NoWeight dd_NoWeight k0_NoWeight k1_NoWeight k2_NoWeight k3_NoWeight k5_NoWeight "ValueError.__new__"))
    (nX_NoWeight : K.lookup N_NoWeight = some ⟨cN_NoWeight, dN_NoWeight, .dict es_NoWeight nN_NoWeight, sN_NoWeight⟩)
    (rX_NoWeight : (es_NoWeight.toList.all fun e => match e.key with | .str _ _ => true | _ => false) = true)
    (iX_NoWeight : PySem.W.nsIn K N_NoWeight "__init__" = some none)
    (kX_NoWeight : PySem.W.keepIn K (.ref C_NoWeight) = true)
    (sX_NoWeight : PySem.W.subIn K (.ref C_NoWeight) (.type "BaseException") = some true)
    (tX_NoWeight : PySem.W.typeIn K (.ref C_NoWeight) = some (.type "type"))
    (jX_NoWeight : PySem.W.isClsIn K C_NoWeight = true)
    (sX_NoShare_CrossError : PySem.W.subIn K (.ref C_NoShare) (.ref C_CrossError) = some false)
    (sX_NoShare_NoShare : PySem.W.subIn K (.ref C_NoShare) (.ref C_NoShare) = some true)
    (sX_NoShare_NoThing : PySem.W.subIn K (.ref C_NoShare) (.ref C_NoThing) = some false)
    (gE_NoCase : PySem.W.findIn K (.ref C_NoCase) "__getattribute__" = some (some (.builtin "BaseException.__getattribute__")))
    (hE_NoCase : PySem.W.findIn K (.ref C_NoCase) "__getattr__" = some none)
    (dE_NoCase : PySem.W.hasDictIn K C_NoCase = true)
    (cE_NoCase : PySem.W.findIn K (.ref C_NoCase) "__class__" = some (some (.builtin "object.__class__")))
    (mE_NoCase : PySem.W.mroIn K C_NoCase (.type "object") = some true)
    (gE_NoOrder : PySem.W.findIn K (.ref C_NoOrder) "__getattribute__" = some (some (.builtin "BaseException.__getattribute__")))
    (hE_NoOrder : PySem.W.findIn K (.ref C_NoOrder) "__getattr__" = some none)
    (dE_NoOrder : PySem.W.hasDictIn K C_NoOrder = true)
    (cE_NoOrder : PySem.W.findIn K (.ref C_NoOrder) "__class__" = some (some (.builtin "object.__class__")))
    (mE_NoOrder : PySem.W.mroIn K C_NoOrder (.type "object") = some true)
    (gE_NoShare : PySem.W.findIn K (.ref C_NoShare) "__getattribute__" = some (some (.builtin "BaseException.__getattribute__")))
    (hE_NoShare : PySem.W.findIn K (.ref C_NoShare) "__getattr__" = some none)
    (dE_NoShare : PySem.W.hasDictIn K C_NoShare = true)
    (cE_NoShare : PySem.W.findIn K (.ref C_NoShare) "__class__" = some (some (.builtin "object.__class__")))
    (mE_NoShare : PySem.W.mroIn K C_NoShare (.type "object") = some true)
    (gE_NoText : PySem.W.findIn K (.ref C_NoText) "__getattribute__" = some (some (.builtin "BaseException.__getattribute__")))
    (hE_NoText : PySem.W.findIn K (.ref C_NoText) "__getattr__" = some none)
    (dE_NoText : PySem.W.hasDictIn K C_NoText = true)
    (cE_NoText : PySem.W.findIn K (.ref C_NoText) "__class__" = some (some (.builtin "object.__class__")))
    (mE_NoText : PySem.W.mroIn K C_NoText (.type "object") = some true)
    (gE_NoThing : PySem.W.findIn K (.ref C_NoThing) "__getattribute__" = some (some (.builtin "BaseException.__getattribute__")))
    (hE_NoThing : PySem.W.findIn K (.ref C_NoThing) "__getattr__" = some none)
    (dE_NoThing : PySem.W.hasDictIn K C_NoThing = true)
    (cE_NoThing : PySem.W.findIn K (.ref C_NoThing) "__class__" = some (some (.builtin "object.__class__")))
    (mE_NoThing : PySem.W.mroIn K C_NoThing (.type "object") = some true)
    (gE_NoWeight : PySem.W.findIn K (.ref C_NoWeight) "__getattribute__" = some (some (.builtin "BaseException.__getattribute__")))
    (hE_NoWeight : PySem.W.findIn K (.ref C_NoWeight) "__getattr__" = some none)
    (dE_NoWeight : PySem.W.hasDictIn K C_NoWeight = true)
    (cE_NoWeight : PySem.W.findIn K (.ref C_NoWeight) "__class__" = some (some (.builtin "object.__class__")))
    (mE_NoWeight : PySem.W.mroIn K C_NoWeight (.type "object") = some true)
    (nE : PySem.W.specialIn K (.builtin "object.__class__") "__get__" = some (some (.builtin "getset_descriptor.__get__")))
    (tE : PySem.W.takesIn K (.builtin "object.__class__") = some true)
    (fF_NoCase_part : PySem.W.findIn K (.ref C_NoCase) "part" = some none)
    (fF_NoText_at : PySem.W.findIn K (.ref C_NoText) "at" = some none)
    (fF_NoThing_thing : PySem.W.findIn K (.ref C_NoThing) "thing" = some none)
    (kO_NoOrder_CrossError : PySem.W.kitOne K (.ref C_NoOrder) (.ref C_CrossError) = some true)
    (kO_NoShare_NoShare : PySem.W.kitOne K (.ref C_NoShare) (.ref C_NoShare) = some true)
    (kO_NoShare_ZeroDivisionError : PySem.W.kitOne K (.ref C_NoShare) (.type "ZeroDivisionError") = some true)
    (kO_NoThing_KeyError : PySem.W.kitOne K (.ref C_NoThing) (.type "KeyError") = some true)
    (kO_NoWeight_ValueError : PySem.W.kitOne K (.ref C_NoWeight) (.type "ValueError") = some true)
    (kT_NoShare_CrossError_NoThing : PySem.W.kitAny K (.ref C_NoShare) [(.ref C_CrossError), (.ref C_NoThing)] = some false) :
    ∃ fd : FuncData, (∀ (s : Shared) (v : Value), BindsTo s fd ⟨[v], []⟩ [("_law_script", v)]) ∧ ∀ base : Heap, K.In base → base.Ns mainGlobals mg → FnG l.prog w K mg base (CXM l.prog w) 4 fa fd ["_law_script"] (spP ⟨K, l.prog, w, mg⟩ 1 mf_law) := by
  cases hfa.symm.trans (PySem.W.mg_of X G a_law)
  have D_is_whole := (dn_mk (st := s_is_whole) l_is_whole c_is_whole k_is_whole)
  have D_common := (dn_mk (st := s_common) l_common c_common k_common)
  have D_law_draw := (dn_mk (st := s_law_draw) l_law_draw c_law_draw k_law_draw)
  have D_law_common := (dn_mk (st := s_law_common) l_law_common c_law_common k_law_common)
  have D_is_share := (dn_mk (st := s_is_share) l_is_share c_is_share k_is_share)
  have D_share_of := (dn_mk1 (st := s_share_of) l_share_of c_share_of k_share_of q_share_of)
  have D_law_share := (dn_mk (st := s_law_share) l_law_share c_law_share k_law_share)
  have D_law_number := (dn_mk (st := s_law_number) l_law_number c_law_number k_law_number)
  have D_law_is_share := (dn_mk (st := s_law_is_share) l_law_is_share c_law_is_share k_law_is_share)
  have D_law_refused := (dn_mk (st := s_law_refused) l_law_refused c_law_refused k_law_refused)
  have D_law_made_right := (dn_mk (st := s_law_made_right) l_law_made_right c_law_made_right k_law_made_right)
  have D_law := (dn_mk (st := s_law) l_law c_law k_law)
  refine ⟨_, fun s v => D_law.bindsA (ps := ["_law_script"]) (fun _ _ _ _ _ _ us hl => match us, hl with | [_], _ => rfl) s [v] rfl, fun base _ _ => ?_⟩
  have b_KeyError := PySem.W.mg_none_of X G z_KeyError
  have b_ValueError := PySem.W.mg_none_of X G z_ValueError
  have b_ZeroDivisionError := PySem.W.mg_none_of X G z_ZeroDivisionError
  have b_abs := PySem.W.mg_none_of X G z_abs
  have b_bool := PySem.W.mg_none_of X G z_bool
  have b_int := PySem.W.mg_none_of X G z_int
  have b_isinstance := PySem.W.mg_none_of X G z_isinstance
  have b_len := PySem.W.mg_none_of X G z_len
  have b_list := PySem.W.mg_none_of X G z_list
  have b_range := PySem.W.mg_none_of X G z_range
  have b_repr := PySem.W.mg_none_of X G z_repr
  have b_tuple := PySem.W.mg_none_of X G z_tuple
  have x_CrossError : ExC K mg "CrossError" C_CrossError [.type "ValueError", .type "Exception", .type "BaseException", .type "object"] "ValueError.__new__" := ⟨PySem.W.mg_of X G aX_CrossError, excIn_mk lX_CrossError nX_CrossError rX_CrossError iX_CrossError rfl, kX_CrossError, sX_CrossError, tX_CrossError⟩
  have x_NoShare : ExC K mg "NoShare" C_NoShare [.type "ZeroDivisionError", .type "ArithmeticError", .type "Exception", .type "BaseException", .type "object"] "ZeroDivisionError.__new__" := ⟨PySem.W.mg_of X G aX_NoShare, excIn_mk lX_NoShare nX_NoShare rX_NoShare iX_NoShare rfl, kX_NoShare, sX_NoShare, tX_NoShare⟩
  have x_NoThing : ClsG mg "NoThing" C_NoThing := ⟨PySem.W.mg_of X G aX_NoThing⟩
  have o_NoThing : OexK K C_NoThing := ⟨⟨_, _, _, _, _, _, _, _, _, _, _, _, _, _, lX_NoThing⟩, saX_NoThing, sX_NoThing, tX_NoThing, kX_NoThing⟩
  have F_NoThing : FnOk l.prog w K mg base (CXM l.prog w) 1 fI_NoThing _ ["self", "thing"] (spI C_NoThing "thing") := wI_NoThing o_NoThing tkX_NoThing b_KeyError vKE lIX_NoThing cIX_NoThing
  have bI_NoThing : Binds K (PySem.W.fnOf "__init__" "NoThing.__init__" (defArgs st_NoThing) (defBody st_NoThing) (defScope st_NoThing) .none kVI_NoThing dcI_NoThing pmI_NoThing anI_NoThing cdI_NoThing ctI_NoThing) ["self", "thing"] [] := .all fun us hl => match us, hl with | [_, _], _ => rfl
  have x_NoCase : ClsG mg "NoCase" C_NoCase := ⟨PySem.W.mg_of X G aX_NoCase⟩
  have o_NoCase : L2.OexC K C_NoCase := ⟨⟨_, _, _, _, _, _, _, _, _, _, _, _, _, _, _, lX_NoCase, rfl⟩, saX_NoCase, sX_NoCase, tX_NoCase, kX_NoCase⟩
  have F_NoCase : FnOk l.prog w K mg base (CXM l.prog w) 1 fI_NoCase _ ["self", "part"] (spI C_NoCase "part") := wI_NoCase o_NoCase tkX_NoCase (PySem.W.mg_of X G aX_CrossError) gaB rdB vB lIX_NoCase cIX_NoCase
  have bI_NoCase : Binds K (PySem.W.fnOf "__init__" "NoCase.__init__" (defArgs st_NoCase) (defBody st_NoCase) (defScope st_NoCase) .none kVI_NoCase dcI_NoCase pmI_NoCase anI_NoCase cdI_NoCase ctI_NoCase) ["self", "part"] [] := .all fun us hl => match us, hl with | [_, _], _ => rfl
  have x_NoOrder : ExC K mg "NoOrder" C_NoOrder [.type "ValueError", .type "Exception", .type "BaseException", .type "object"] "ValueError.__new__" := ⟨PySem.W.mg_of X G aX_NoOrder, excIn_mk2 lX_NoOrder nX_NoOrder rX_NoOrder iX_NoOrder lX_CrossError nX_CrossError rX_CrossError iX_CrossError rfl, kX_NoOrder, sX_NoOrder, tX_NoOrder⟩
  have x_NoText : ClsG mg "NoText" C_NoText := ⟨PySem.W.mg_of X G aX_NoText⟩
  have o_NoText : L2.OexC K C_NoText := ⟨⟨_, _, _, _, _, _, _, _, _, _, _, _, _, _, _, lX_NoText, rfl⟩, saX_NoText, sX_NoText, tX_NoText, kX_NoText⟩
  have F_NoText : FnOk l.prog w K mg base (CXM l.prog w) 1 fI_NoText _ ["self", "at"] (spI C_NoText "at") := wI_NoText o_NoText tkX_NoText (PySem.W.mg_of X G aX_CrossError) gaB rdB vB lIX_NoText cIX_NoText
  have bI_NoText : Binds K (PySem.W.fnOf "__init__" "NoText.__init__" (defArgs st_NoText) (defBody st_NoText) (defScope st_NoText) .none kVI_NoText dcI_NoText pmI_NoText anI_NoText cdI_NoText ctI_NoText) ["self", "at"] [] := .all fun us hl => match us, hl with | [_, _], _ => rfl
  have x_NoWeight : ExC K mg "NoWeight" C_NoWeight [.type "ValueError", .type "Exception", .type "BaseException", .type "object"] "ValueError.__new__" := ⟨PySem.W.mg_of X G aX_NoWeight, excIn_mk2 lX_NoWeight nX_NoWeight rX_NoWeight iX_NoWeight lX_CrossError nX_CrossError rX_CrossError iX_CrossError rfl, kX_NoWeight, sX_NoWeight, tX_NoWeight⟩
  have xm_NoShare_CrossError := exm_of sX_CrossError jX_CrossError tX_CrossError sX_NoShare_CrossError
  have xm_NoShare_NoShare := exm_of sX_NoShare jX_NoShare tX_NoShare sX_NoShare_NoShare
  have xm_NoShare_NoThing := exm_of sX_NoThing jX_NoThing tX_NoThing sX_NoShare_NoThing
  have xe_NoCase : ExcC K C_NoCase := ⟨gE_NoCase, hE_NoCase, sX_NoCase, dE_NoCase, cE_NoCase, nE, tE, mE_NoCase⟩
  have xe_NoOrder : ExcC K C_NoOrder := ⟨gE_NoOrder, hE_NoOrder, sX_NoOrder, dE_NoOrder, cE_NoOrder, nE, tE, mE_NoOrder⟩
  have xe_NoShare : ExcC K C_NoShare := ⟨gE_NoShare, hE_NoShare, sX_NoShare, dE_NoShare, cE_NoShare, nE, tE, mE_NoShare⟩
  have xe_NoText : ExcC K C_NoText := ⟨gE_NoText, hE_NoText, sX_NoText, dE_NoText, cE_NoText, nE, tE, mE_NoText⟩
  have xe_NoThing : ExcC K C_NoThing := ⟨gE_NoThing, hE_NoThing, sX_NoThing, dE_NoThing, cE_NoThing, nE, tE, mE_NoThing⟩
  have xe_NoWeight : ExcC K C_NoWeight := ⟨gE_NoWeight, hE_NoWeight, sX_NoWeight, dE_NoWeight, cE_NoWeight, nE, tE, mE_NoWeight⟩
  have g_HALF := glob2 (K := K) (PySem.W.mg_of X G mGHALF) lGHALF
  have g_NOUGHT := glob2 (K := K) (PySem.W.mg_of X G mGNOUGHT) lGNOUGHT
  have g_ONE := glob2 (K := K) (PySem.W.mg_of X G mGONE) lGONE
  have W_is_whole : FnG l.prog w K mg base (CXM l.prog w) _ _ _ _ _ := w_is_whole D_is_whole b_bool b_int b_isinstance
  have h_is_whole : Has l.prog w K mg base 1 "is_whole" 1 [] mf_is_whole := ⟨_, _, _, [], [], W_is_whole, PySem.W.mg_of X G a_is_whole, k_is_whole, D_is_whole.bindsN (fun _ _ _ _ _ _ us hl => match us, hl with | [_], _ => rfl), .nil, fun _ => .nil⟩
  have W_common : FnG l.prog w K mg base (CXM l.prog w) _ _ _ _ _ := w_common D_common b_abs
  have h_common : Has l.prog w K mg base 1 "common" 2 [] mf_common := ⟨_, _, _, [], [], W_common, PySem.W.mg_of X G a_common, k_common, D_common.bindsN (fun _ _ _ _ _ _ us hl => match us, hl with | [_, _], _ => rfl), .nil, fun _ => .nil⟩
  have W_law_draw : FnG l.prog w K mg base (CXM l.prog w) _ _ _ _ _ := w_law_draw D_law_draw b_abs b_len
  have h_law_draw : HasQ l.prog w K mg base 1 "_law_draw" 2 mq_law_draw := ⟨_, _, _, W_law_draw, PySem.W.mg_of X G a_law_draw, k_law_draw, D_law_draw.bindsN fun _ _ _ _ _ _ us hl => match us, hl with | [_, _], _ => rfl⟩
  have W_law_common : FnG l.prog w K mg base (CXM l.prog w) _ _ _ _ _ := w_law_common D_law_common b_abs
  have h_law_common : Has l.prog w K mg base 1 "_law_common" 2 [] mf_law_common := ⟨_, _, _, [], [], W_law_common, PySem.W.mg_of X G a_law_common, k_law_common, D_law_common.bindsN (fun _ _ _ _ _ _ us hl => match us, hl with | [_, _], _ => rfl), .nil, fun _ => .nil⟩
  have W_is_share : FnG l.prog w K mg base (CXM l.prog w) _ _ _ _ _ := w_is_share D_is_share b_isinstance b_len b_tuple h_is_whole h_common
  have h_is_share : Has l.prog w K mg base 2 "is_share" 1 [] mf_is_share := ⟨_, _, _, [], [], W_is_share, PySem.W.mg_of X G a_is_share, k_is_share, D_is_share.bindsN (fun _ _ _ _ _ _ us hl => match us, hl with | [_], _ => rfl), .nil, fun _ => .nil⟩
  have h_is_share_k0_thing : HasK l.prog w K mg base 2 "is_share" 1 0 ["thing"] [.inr 0] mf_is_share := ⟨⟨_, _, _, W_is_share, PySem.W.mg_of X G a_is_share, k_is_share, rfl, dn_kw D_is_share fun _ _ _ _ _ _ us ws l1 l2 => match us, ws, l1, l2 with | [], [_], _, _ => rfl⟩⟩
  have W_share_of : FnG l.prog w K mg base (CXM l.prog w) _ _ _ _ _ := w_share_of D_share_of x_NoShare h_common
  have h_share_of : Has l.prog w K mg base 2 "share_of" 2 [] mf_share_of := by
    obtain ⟨ds, v, b⟩ := D_share_of.binds1 (ps := ["top", "bottom"]) 2 1 (by simp) rfl (fun _ _ _ _ _ _ _ us its hl hl2 => match us, its, hl, hl2 with | [_, _], [_], _, _ => ⟨_, rfl, rfl⟩)
    cases v
    exact Has.sub (mf' := mx_share_of) sub_share_of ⟨_, _, _, [], [], W_share_of, PySem.W.mg_of X G a_share_of, k_share_of, b, .nil, fun _ => .nil⟩
  have h_share_of_d : Has l.prog w K mg base 2 "share_of" 2 [(.int 1)] mf_share_of := by
    obtain ⟨ds, v, b⟩ := D_share_of.binds1 (ps := ["top", "bottom"]) 1 0 (by simp) rfl (fun _ _ _ _ _ _ _ us its hl hl2 => match us, its, hl, hl2 with | [_], [_], _, _ => ⟨_, rfl, rfl⟩)
    exact Has.sub (mf' := mx_share_of) sub_share_of ⟨_, _, _, _, ds, W_share_of, PySem.W.mg_of X G a_share_of, k_share_of, b, v, fun _ => .cons (.int _) .nil⟩
  have h_share_of_k0_bottom_top : HasK l.prog w K mg base 2 "share_of" 2 0 ["bottom", "top"] [.inr 1, .inr 0] mf_share_of := ⟨⟨_, _, _, FnG.sub (mf' := mx_share_of) sub_share_of W_share_of, PySem.W.mg_of X G a_share_of, k_share_of, rfl, dn_kw1 D_share_of fun _ _ _ _ _ _ _ us ws its l1 l2 l3 => match us, ws, its, l1, l2, l3 with | [], [_, _], [_], _, _, _ => ⟨_, rfl, rfl⟩⟩⟩
  have h_share_of_x : Has l.prog w K mg base 2 "share_of" 2 [] mx_share_of := by
    obtain ⟨ds, v, b⟩ := D_share_of.binds1 (ps := ["top", "bottom"]) 2 1 (by simp) rfl (fun _ _ _ _ _ _ _ us its hl hl2 => match us, its, hl, hl2 with | [_, _], [_], _, _ => ⟨_, rfl, rfl⟩)
    cases v
    exact ⟨_, _, _, [], [], W_share_of, PySem.W.mg_of X G a_share_of, k_share_of, b, .nil, fun _ => .nil⟩
  have W_law_share : FnG l.prog w K mg base (CXM l.prog w) _ _ _ _ _ := w_law_share D_law_share h_law_common
  have h_law_share : Has l.prog w K mg base 2 "_law_share" 2 [] mf_law_share := ⟨_, _, _, [], [], W_law_share, PySem.W.mg_of X G a_law_share, k_law_share, D_law_share.bindsN (fun _ _ _ _ _ _ us hl => match us, hl with | [_, _], _ => rfl), .nil, fun _ => .nil⟩
  have W_law_number : FnG l.prog w K mg base (CXM l.prog w) _ _ _ _ _ := w_law_number D_law_number h_law_draw
  have h_law_number : HasQ l.prog w K mg base 2 "_law_number" 1 mq_law_number := ⟨_, _, _, W_law_number, PySem.W.mg_of X G a_law_number, k_law_number, D_law_number.bindsN fun _ _ _ _ _ _ us hl => match us, hl with | [_], _ => rfl⟩
  have W_law_is_share : FnG l.prog w K mg base (CXM l.prog w) _ _ _ _ _ := w_law_is_share D_law_is_share b_bool b_int b_isinstance b_len b_tuple h_law_common
  have h_law_is_share : Has l.prog w K mg base 2 "_law_is_share" 1 [] mf_law_is_share := ⟨_, _, _, [], [], W_law_is_share, PySem.W.mg_of X G a_law_is_share, k_law_is_share, D_law_is_share.bindsN (fun _ _ _ _ _ _ us hl => match us, hl with | [_], _ => rfl), .nil, fun _ => .nil⟩
  have W_law_refused : FnG l.prog w K mg base (CXM l.prog w) _ _ _ _ _ := w_law_refused D_law_refused b_ZeroDivisionError b_isinstance x_CrossError x_NoShare x_NoThing xm_NoShare_CrossError xm_NoShare_NoShare xm_NoShare_NoThing xe_NoShare kO_NoShare_NoShare kO_NoShare_ZeroDivisionError kT_NoShare_CrossError_NoThing h_share_of_x
  have h_law_refused : Has l.prog w K mg base 3 "_law_refused" 1 [] mf_law_refused := ⟨_, _, _, [], [], W_law_refused, PySem.W.mg_of X G a_law_refused, k_law_refused, D_law_refused.bindsN (fun _ _ _ _ _ _ us hl => match us, hl with | [_], _ => rfl), .nil, fun _ => .nil⟩
  have W_law_made_right : FnG l.prog w K mg base (CXM l.prog w) _ _ _ _ _ := w_law_made_right D_law_made_right b_repr h_share_of h_law_share h_is_share h_share_of_k0_bottom_top
  have h_law_made_right : Has l.prog w K mg base 3 "_law_made_right" 2 [] mf_law_made_right := ⟨_, _, _, [], [], W_law_made_right, PySem.W.mg_of X G a_law_made_right, k_law_made_right, D_law_made_right.bindsN (fun _ _ _ _ _ _ us hl => match us, hl with | [_, _], _ => rfl), .nil, fun _ => .nil⟩
  exact w_law D_law b_KeyError b_ValueError b_abs b_isinstance b_list b_range b_repr x_CrossError x_NoCase x_NoOrder x_NoText x_NoThing x_NoWeight o_NoCase iX_NoCase tIX_NoCase F_NoCase bI_NoCase o_NoText iX_NoText tIX_NoText F_NoText bI_NoText o_NoThing iX_NoThing tIX_NoThing F_NoThing bI_NoThing xe_NoCase xe_NoOrder xe_NoText xe_NoThing xe_NoWeight fF_NoCase_part fF_NoText_at fF_NoThing_thing kO_NoOrder_CrossError kO_NoThing_KeyError kO_NoWeight_ValueError g_HALF g_NOUGHT g_ONE h_law_draw h_law_number h_law_refused h_share_of_d h_law_made_right h_is_share h_law_is_share h_is_share_k0_thing
end K01
set_option Elab.async false
set_option linter.all false
set_option maxRecDepth 100000
set_option maxHeartbeats 4000000
namespace K01
open PySem PySem.Spec PyProof.Rows L2 Xm
open DwA (mf_law_common mq_law_draw mf_law_share m_law_common at_ints draw_ok pen0)
open DwD (isW pick_memL)
open K07 (isW_int tuple_of len2 shareB shareB_W shareB_len shareB_ij shareB_not shareB_of m_is_share mf_is_share)
theorem m_law_is_share (d : D) : mf_law_is_share [d] = some (.val (.bool (shareB d))) := by
  refine runP_wp ?_
  unfold g_law_is_share
  by_cases ht : isaT (tyD d) "tuple" = true
  · obtain ⟨es, rfl⟩ := tuple_of ht
    by_cases hl : es.length = 2
    · obtain ⟨a, b, rfl⟩ := len2 hl
      have hb2 : (!((([a, b] : List D).length : Int) == 2)) = false := rfl
      repeat (first | with_reducible refine Xm.wp_seq ?_ | with_reducible refine Xm.wp_bin2 ?_ | with_reducible refine Xm.wp_un1 ?_ | with_reducible refine Xm.wp_cst ?_ | with_reducible refine Xm.wp_valB ?_ | with_reducible refine Xm.wp_ifS ?_ | with_reducible refine Xm.wp_skip ?_ | with_reducible refine Xm.wp_orB ?_ | with_reducible refine Xm.wp_notB ?_ | with_reducible refine Xm.wp_itD ?_ | with_reducible refine Xm.wp_for ?_ | with_reducible refine Xm.ex_bool ?_ | with_reducible refine Xm.ex_of Xm.k_neI ?_ | with_reducible refine Xm.ex_of Xm.k_lenT ?_ | with_reducible refine Xm.ex_of Xm.k_isa ?_ | ((with_reducible apply Xm.ite_f); · with_reducible assumption) | ((with_reducible apply Xm.ite_nbf); · with_reducible assumption) | ((with_reducible apply Xm.wp_rd); · rfl))
      refine ⟨[a, b], .inr rfl, ?_⟩
      have isw : ∀ x : D, (isW x = true ∧ isaT (tyD x) "int" = true ∧ isaT (tyD x) "bool" = false) ∨ (isW x = false ∧ (isaT (tyD x) "int" = false ∨ (isaT (tyD x) "int" = true ∧ isaT (tyD x) "bool" = true))) := fun x => by
        cases x <;> first
          | exact .inl ⟨rfl, rfl, rfl⟩
          | exact .inr ⟨rfl, .inl rfl⟩
          | exact .inr ⟨rfl, .inr ⟨rfl, rfl⟩⟩
      refine wp_loop (fun l s => s = [.dat (.tuple [a, b]), .no] ∧ (∀ x ∈ l, x = a ∨ x = b) ∧ (∀ x, (x = a ∨ x = b) → x ∉ l → isW x = true)) ?_ ?_ _ _ ⟨rfl, fun x hx => by simpa using hx, fun x hx hn => absurd (by simpa using hx) hn⟩
      · rintro x l s ⟨rfl, h1, h2⟩
        refine ⟨_, rfl, ?_⟩
        rcases isw x with ⟨w1, w2, w3⟩ | ⟨w1, w2⟩
        · repeat (first | with_reducible refine Xm.wp_un1 ?_ | with_reducible refine Xm.wp_valB ?_ | with_reducible refine Xm.wp_ifS ?_ | with_reducible refine Xm.wp_skip ?_ | with_reducible refine Xm.wp_orB ?_ | with_reducible refine Xm.wp_notB ?_ | with_reducible refine Xm.wp_clr ?_ | with_reducible refine Xm.ex_bool ?_ | with_reducible refine Xm.ex_of Xm.k_isa ?_ | ((with_reducible apply Xm.ite_f); · with_reducible assumption) | ((with_reducible apply Xm.ite_nbf); · with_reducible assumption) | ((with_reducible apply Xm.wp_rd); · rfl))
          refine ⟨rfl, fun y hy => h1 y (.tail _ hy), fun y hy hn => ?_⟩
          by_cases e : y = x
          · rw [e]; exact w1
          · exact h2 y hy fun hm => (List.mem_cons.mp hm).elim e hn
        · have : shareB (.tuple [a, b]) = false := shareB_W (a := a) (b := b) (by
            rcases h1 x (.head _) with e | e
            · left; rw [← e]; exact w1
            · right; rw [← e]; exact w1)
          rw [this]
          rcases w2 with w2 | ⟨w2, w3⟩
          · repeat (first | with_reducible refine Xm.wp_un1 ?_ | with_reducible refine Xm.wp_cst ?_ | with_reducible refine Xm.wp_valB ?_ | with_reducible refine Xm.wp_ifS ?_ | with_reducible refine Xm.wp_retS ?_ | with_reducible refine Xm.wp_orB ?_ | with_reducible refine Xm.wp_notB ?_ | with_reducible refine Xm.wp_clr ?_ | with_reducible refine Xm.ite_tt ?_ | with_reducible refine Xm.ex_bool ?_ | with_reducible refine Xm.ex_of Xm.k_isa ?_ | ((with_reducible apply Xm.ite_nbt); · with_reducible assumption) | ((with_reducible apply Xm.wp_rd); · rfl))
            rfl
          · repeat (first | with_reducible refine Xm.wp_un1 ?_ | with_reducible refine Xm.wp_cst ?_ | with_reducible refine Xm.wp_valB ?_ | with_reducible refine Xm.wp_ifS ?_ | with_reducible refine Xm.wp_retS ?_ | with_reducible refine Xm.wp_orB ?_ | with_reducible refine Xm.wp_notB ?_ | with_reducible refine Xm.wp_clr ?_ | with_reducible refine Xm.ex_bool ?_ | with_reducible refine Xm.ex_of Xm.k_isa ?_ | ((with_reducible apply Xm.ite_t); · with_reducible assumption) | ((with_reducible apply Xm.ite_nbf); · with_reducible assumption) | ((with_reducible apply Xm.wp_rd); · rfl))
            rfl
      · rintro s ⟨rfl, _, h2⟩
        obtain ⟨i, rfl⟩ := isW_int (h2 a (.inl rfl) (by simp))
        obtain ⟨j, rfl⟩ := isW_int (h2 b (.inr rfl) (by simp))
        have kc := m_law_common i j
        rw [shareB_ij]
        by_cases h0 : 0 < j
        · have b0 : decide (0 < j) = true := decide_eq_true h0
          rw [b0]
          repeat (first | with_reducible refine Xm.wp_bin2 ?_ | with_reducible refine Xm.wp_consA ?_ | with_reducible refine Xm.wp_nilA ?_ | with_reducible refine Xm.wp_cst ?_ | with_reducible refine Xm.wp_valB ?_ | with_reducible refine Xm.wp_rvD ?_ | with_reducible refine Xm.wp_callP0 ?_ | with_reducible refine Xm.wp_retS ?_ | with_reducible refine Xm.wp_andB ?_ | with_reducible refine Xm.wp_boolE ?_ | with_reducible refine Xm.ex_bool ?_ | with_reducible refine Xm.ex_of Xm.k_gt ?_ | with_reducible refine Xm.ex_of Xm.k_eqI ?_ | with_reducible refine Xm.ex_of Xm.ix_t0 ?_ | with_reducible refine Xm.ex_of Xm.ix_t1 ?_ | ((with_reducible apply Xm.ex_of); · with_reducible assumption) | ((with_reducible apply Xm.ite_t); · with_reducible assumption) | ((with_reducible apply Xm.wp_rd); · rfl))
          rfl
        · have b0 : decide (0 < j) = false := decide_eq_false h0
          rw [b0]
          repeat (first | with_reducible refine Xm.wp_bin2 ?_ | with_reducible refine Xm.wp_cst ?_ | with_reducible refine Xm.wp_valB ?_ | with_reducible refine Xm.wp_retS ?_ | with_reducible refine Xm.wp_andB ?_ | with_reducible refine Xm.wp_boolE ?_ | with_reducible refine Xm.ex_bool ?_ | with_reducible refine Xm.ex_of Xm.k_gt ?_ | with_reducible refine Xm.ex_of Xm.ix_t1 ?_ | ((with_reducible apply Xm.ite_f); · with_reducible assumption) | ((with_reducible apply Xm.wp_rd); · rfl))
          rfl
    · have hb2 : (!((es.length : Int) == 2)) = true := by
        rw [Bool.not_eq_true']
        exact beq_false_of_ne (by omega)
      rw [shareB_len hl]
      repeat (first | with_reducible refine Xm.wp_seq ?_ | with_reducible refine Xm.wp_bin2 ?_ | with_reducible refine Xm.wp_un1 ?_ | with_reducible refine Xm.wp_cst ?_ | with_reducible refine Xm.wp_valB ?_ | with_reducible refine Xm.wp_ifS ?_ | with_reducible refine Xm.wp_retS ?_ | with_reducible refine Xm.wp_orB ?_ | with_reducible refine Xm.wp_notB ?_ | with_reducible refine Xm.ex_bool ?_ | with_reducible refine Xm.ex_of Xm.k_neI ?_ | with_reducible refine Xm.ex_of Xm.k_lenT ?_ | with_reducible refine Xm.ex_of Xm.k_isa ?_ | ((with_reducible apply Xm.ite_t); · with_reducible assumption) | ((with_reducible apply Xm.ite_nbf); · with_reducible assumption) | ((with_reducible apply Xm.wp_rd); · rfl))
      rfl
  · rw [Bool.not_eq_true] at ht
    rw [shareB_not ht]
    repeat (first | with_reducible refine Xm.wp_seq ?_ | with_reducible refine Xm.wp_un1 ?_ | with_reducible refine Xm.wp_cst ?_ | with_reducible refine Xm.wp_valB ?_ | with_reducible refine Xm.wp_ifS ?_ | with_reducible refine Xm.wp_retS ?_ | with_reducible refine Xm.wp_orB ?_ | with_reducible refine Xm.wp_notB ?_ | with_reducible refine Xm.ite_tt ?_ | with_reducible refine Xm.ex_bool ?_ | with_reducible refine Xm.ex_of Xm.k_isa ?_ | ((with_reducible apply Xm.ite_nbt); · with_reducible assumption) | ((with_reducible apply Xm.wp_rd); · rfl))
    rfl
theorem m_law_share_ne {t b : Int} (h0 : b ≠ 0) (hs : Sd b) : mf_law_share [.int t, .int b] = some (.val (sh (Rat.divInt t b))) := by
  refine runP_map ?_
  have hg : (0 : Int) < Int.gcd t b := by
    have := Int.gcd_pos_of_ne_zero_right t h0
    omega
  have sg := sd_gcd (t := t) h0 hs
  have d1 : ∀ i : Int, kDiv (.int i) (.int (Int.gcd t b : Int)) = some (.int (i.fdiv (Int.gcd t b : Int))) := fun i => k_div (by omega) sg
  have d2 : ∀ i : Int, kDiv (.int i) (.int (-(Int.gcd t b : Int))) = some (.int (i.fdiv (-(Int.gcd t b : Int)))) := fun i => k_div (by omega) (sd_neg sg)
  rw [sh_divInt h0]
  by_cases hn : b < 0
  · simp [DwA.g_law_share, m_law_common, hn, d2]
  · simp [DwA.g_law_share, m_law_common, hn, d1]
theorem number_ok {n : Nat} {xs : List D} (h : PenOk n xs) (hn : n + 20 < 2 ^ 20) : ∃ z ys, mq_law_number xs [] = some (.val (.int z), ys) ∧ z.natAbs < 2 ^ 41 ∧ PenOk (n + 4) ys := by
  obtain ⟨d2, x2, e2, a2, b2, p2⟩ := draw_ok (m := 1000000) h (by omega) (by decide) (by decide)
  obtain ⟨d3, x3, e3, a3, b3, p3⟩ := draw_ok (m := 1000000) p2 (by omega) (by decide) (by decide)
  obtain ⟨d4, x4, e4, a4, b4, p4⟩ := draw_ok (m := 25) p3 (by omega) (by decide) (by decide)
  obtain ⟨d5, x5, e5, a5, b5, p5⟩ := draw_ok (m := 8) p4 (by omega) (by decide) (by decide)
  have k6 : kPow (.int 10) (.int 6) = some (.int 1000000) := k_powS (n := 6) (by decide) (by omega)
  have k12 : kPow (.int 10) (.int 12) = some (.int 1000000000000) := k_powS (n := 12) (by decide) (by omega)
  have km : kMul (.int d2) (.int 1000000) = some (.int (d2 * 1000000)) := k_mulS (by omega) (by decide)
  obtain ⟨z, hz, ez⟩ := at_ints (zs := [0, 1, -1, d4 - 12, d2 * 1000000 + d3, 0 - (d2 * 1000000 + d3), 360, 1000000000000 - 1]) a5 (by simp; omega)
  have hz2 : z.natAbs < 2 ^ 41 := by
    simp only [List.mem_cons, List.not_mem_nil, or_false] at hz
    rcases hz with rfl | rfl | rfl | rfl | rfl | rfl | rfl | rfl <;> omega
  suffices hh : ∃ r ls, runQ g_law_number 2 xs [] = some (r, ls) ∧ r = .val (.int z) ∧ ls = x5 by
    obtain ⟨r, ls, e, rfl, rfl⟩ := hh
    exact ⟨z, ls, e, hz2, p5⟩
  have ez : kIx (.list [.int 0, .int 1, .int (-1), .int (d4 - 12), .int (d2 * 1000000 + d3), .int (0 - (d2 * 1000000 + d3)), .int 360, .int (1000000000000 - 1)]) (.int d5) = some (.int z) := ez
  refine runQ_wp ?_
  unfold g_law_number
  repeat (first | with_reducible refine Xm.wp_seq ?_ | with_reducible refine Xm.wp_asg ?_ | with_reducible refine Xm.wp_bin2 ?_ | with_reducible refine Xm.wp_un1 ?_ | with_reducible refine Xm.wp_consA ?_ | with_reducible refine Xm.wp_nilA ?_ | with_reducible refine Xm.wp_cst ?_ | with_reducible refine Xm.wp_rvD ?_ | with_reducible refine Xm.wp_retS ?_ | with_reducible refine Xm.wp_lstF ?_ | with_reducible refine Xm.ex_of Xm.k_cat ?_ | with_reducible refine Xm.ex_of Xm.k_sub ?_ | with_reducible refine Xm.ex_of Xm.k_neg ?_ | ((with_reducible apply Xm.ex_of); · with_reducible assumption) | ((with_reducible apply Xm.np_and); · rfl) | ((with_reducible apply Xm.len_and); · exact Nat.le_of_ble_eq_true rfl) | ((with_reducible apply Xm.mu_and); · rfl) | ((with_reducible apply Xm.wp_rd); · rfl) | ((with_reducible apply Xm.wp_callQ); · rfl))
  exact ⟨_, _, rfl, rfl, rfl, rfl⟩
theorem m_refused (t : Int) : mf_law_refused [.int t] = some (.val (.bool true)) := by
  have e := mx_share_of_0 t
  refine runP_wp ?_
  unfold g_law_refused
  repeat (first | with_reducible refine Xm.wp_seq ?_ | with_reducible refine Xm.wp_asg ?_ | with_reducible refine Xm.wp_cst ?_ | ((with_reducible apply Xm.np_and); · rfl))
  refine wp_tryK ?_
  repeat (first | with_reducible refine Xm.wp_consA ?_ | with_reducible refine Xm.wp_nilA ?_ | with_reducible refine Xm.wp_cst ?_ | with_reducible refine Xm.wp_callP0 ?_ | with_reducible refine Xm.wp_dropX ?_ | ((with_reducible apply Xm.ex_of); · with_reducible assumption) | ((with_reducible apply Xm.wp_rd); · rfl))
  refine ⟨true, rfl, ?_⟩
  rw [if_pos rfl]
  refine ⟨rfl, _, rfl, ?_⟩
  repeat (first | with_reducible refine Xm.wp_seq ?_ | with_reducible refine Xm.wp_valB ?_ | with_reducible refine Xm.wp_ifS ?_ | with_reducible refine Xm.wp_orB ?_ | with_reducible refine Xm.wp_notB ?_)
  refine wp_isaX rfl rfl ?_
  repeat (first | with_reducible refine Xm.wp_valB ?_ | with_reducible refine Xm.ite_nt ?_ | with_reducible refine Xm.ex_bool ?_)
  refine wp_isaX rfl rfl ?_
  repeat (first | with_reducible refine Xm.wp_skip ?_ | with_reducible refine Xm.wp_retS ?_ | with_reducible refine Xm.ite_ff ?_ | with_reducible refine Xm.ex_bool ?_)
  refine wp_isaX rfl rfl ?_
  skip
  rfl
theorem cross_eq {u d : Int} (h : d ≠ 0) : (Rat.divInt u d).num * d = u * (Rat.divInt u d).den := by
  have h1 : Rat.divInt (Rat.divInt u d).num (Rat.divInt u d).den = Rat.divInt u d := Rat.num_divInt_den _
  have hd : ((Rat.divInt u d).den : Int) ≠ 0 := by have := (Rat.divInt u d).den_pos; omega
  exact (Rat.divInt_eq_divInt_iff hd h).mp h1
theorem m_made {u d : Int} (h0 : d ≠ 0) (hu : u.natAbs < 2 ^ 60) (hd : d.natAbs < 2 ^ 60) : mf_law_made_right [.int u, .int d] = some (.val (.bool true)) := by
  have hs : Sd d := sd64 (by omega)
  have k1 := m_share_of (t := u) h0 hs
  have k2 := m_law_share_ne (t := u) h0 hs
  have bq : Bq 60 (Rat.divInt u d) := bq_divInt h0 hu hd
  have k3 := m_is_share (sh (Rat.divInt u d))
  rw [shareB_of] at k3
  have kr : kRepr (sh (Rat.divInt u d)) = some (.str (PyData.shown (sh (Rat.divInt u d)))) := k_reprS (bq.mono (by omega))
  have kb : kIsNotB (.bool true) (.bool true) = some (.bool false) := rfl
  have sm1 : Sm (Rat.divInt u d).num := (bq.sm (by omega)).1
  have sm2 : Sm ((Rat.divInt u d).den : Int) := (bq.sm (by omega)).2
  have smu : Sm u := sm_of hu (by omega)
  have smd : Sm d := sm_of hd (by omega)
  have m1 := k_mul sm1 smd
  have m2 := k_mul smu sm2
  have i0 : kIx (sh (Rat.divInt u d)) (.int 0) = some (.int (Rat.divInt u d).num) := rfl
  have i1 : kIx (sh (Rat.divInt u d)) (.int 1) = some (.int (Rat.divInt u d).den) := rfl
  have hc := cross_eq (u := u) h0
  rw [hc] at m1
  generalize u * ((Rat.divInt u d).den : Int) = M at *
  generalize (Rat.divInt u d).num = N1 at *
  generalize ((Rat.divInt u d).den : Int) = N2 at *
  generalize PyData.shown (sh (Rat.divInt u d)) = Z at *
  generalize sh (Rat.divInt u d) = S at *
  refine runP_wp ?_
  unfold g_law_made_right
  repeat (first | with_reducible refine Xm.wp_seq ?_ | with_reducible refine Xm.wp_asg ?_ | with_reducible refine Xm.wp_bin2 ?_ | with_reducible refine Xm.wp_un1 ?_ | with_reducible refine Xm.wp_consA ?_ | with_reducible refine Xm.wp_nilA ?_ | with_reducible refine Xm.wp_cst ?_ | with_reducible refine Xm.wp_valB ?_ | with_reducible refine Xm.wp_ifS ?_ | with_reducible refine Xm.wp_rvD ?_ | with_reducible refine Xm.wp_callP0 ?_ | with_reducible refine Xm.wp_callK ?_ | with_reducible refine Xm.wp_skip ?_ | with_reducible refine Xm.wp_retS ?_ | with_reducible refine Xm.wp_andB ?_ | with_reducible refine Xm.wp_orB ?_ | with_reducible refine Xm.wp_boolE ?_ | with_reducible refine Xm.ite_ff ?_ | with_reducible refine Xm.ite_nes ?_ | with_reducible refine Xm.ite_eqi ?_ | with_reducible refine Xm.ex_bool ?_ | with_reducible refine Xm.ex_of Xm.k_eqI ?_ | with_reducible refine Xm.ex_of Xm.k_eqStr ?_ | with_reducible refine Xm.ex_of Xm.k_neStr ?_ | ((with_reducible apply Xm.ex_of); · with_reducible assumption) | ((with_reducible apply Xm.ex_arr); · (simp only [arr, List.map_cons, List.map_nil, List.getD_cons_zero, List.getD_cons_succ]; rfl)) | ((with_reducible apply Xm.np_and); · rfl) | ((with_reducible apply Xm.wp_rd); · rfl))
  simp
end K01
set_option Elab.async false
set_option linter.all false
set_option maxRecDepth 100000
set_option maxHeartbeats 4000000
namespace K01
open PySem PySem.Spec PyProof.Rows L2 Xm
open DwA (mf_law_common mq_law_draw mf_law_share m_law_common at_ints draw_ok pen0)
open DwD (isW pick_memL wp_loopR)
open K07 (shareB m_is_share mf_is_share)
theorem re_of {d : D} (g : RpG d) : ∃ z, kRepr d = some (.str z) := by
  unfold kRepr
  split
  · rename_i i
    have : i.natAbs.log2 < 1920 := by
      have := g.1
      simp only [PyData.showable] at this
      exact of_decide_eq_true this
    rw [if_pos this]
    exact ⟨_, rfl⟩
  · split
    · exact ⟨_, rfl⟩
    · exact ⟨_, rfl⟩
def R (d : D) : Prop := ∃ z, kRepr d = some (.str z)
theorem re_b (b : Bool) : R (.bool b) := re_of (rp_g ((Rk.bool b).rp (by omega) (by omega)))
theorem re_rk {k n : Nat} {d : D} (h : Rk k n d) (hk : k ≤ 64) (hn : n ≤ 16777216) : R d := re_of (rp_g (h.rp hk hn))
theorem rk_i {i : Int} (h : i.natAbs < 2 ^ 60) : Rk 1 700 (.int i) := (Rk.int (Nat.lt_of_lt_of_le h (Nat.pow_le_pow_right (by omega) (by omega)))).mono (by omega) (by omega)
theorem re_t {ds : List D} (h : ∀ d ∈ ds, Rk 1 700 d) (hl : ds.length ≤ 3) : R (.tuple ds) := re_rk (Rk.tuple h) (by omega) (by omega)
theorem re_l {ds : List D} (h : ∀ d ∈ ds, Rk 1 700 d) (hl : ds.length ≤ 3) : R (.list ds) := re_rk (Rk.list h) (by omega) (by omega)
theorem sh_one (u : Int) : sh (Rat.divInt u 1) = .tuple [.int u, .int 1] := by
  rw [sh_divInt (show (1 : Int) ≠ 0 by decide), if_neg (by decide)]
  simp
abbrev T12 (SC : D) (ys : List D) (s2 s3 s4 s5 s6 s7 s8 s9 s10 s11 : Slot) : AS := [.dat SC, .own ys, s2, s3, s4, s5, s6, s7, s8, s9, s10, s11]
def bentS : SF := (clrS [3, 11] (seqS (asgS 11 (un1 kRepr (rd 3))) (seqS (ifS (orB (valB (bin2 kNe (un1 kRepr (rvD (callP mf_is_share [] (consA (rd 3) nilA)))) (un1 kRepr (rvD (callP mf_law_is_share [] (consA (rd 3) nilA)))))) (valB (bin2 kNe (un1 kRepr (rd 3)) (rd 11)))) (retS (cst (.bool false))) skipS) (ifS (valB (bin2 kNe (un1 kRepr (rvD (callK mf_is_share [.inr 0] nilA (consA (rd 3) nilA)))) (un1 kRepr (rvD (callP mf_law_is_share [] (consA (rd 3) nilA)))))) (retS (cst (.bool false))) skipS))))
theorem wp_thenB {b : Bool} {g : EF} {st : AS} {QD : D → AS → Prop} (w : Wp g st fun _ s1 => QD (.bool b) s1) : Wp (thenB b g) st QD := by
  obtain ⟨d, s1, e, q⟩ := w
  exact ⟨_, _, by unfold thenB; rw [e]; rfl, q⟩
theorem wp_bent {SC d : D} {ys : List D} {s2 s6 s7 s8 s9 s10 : Slot} (h : R d) : Wp bentS (T12 SC ys s2 (.dat d) .no .no s6 s7 s8 s9 s10 .no) fun fl s => fl = .nx ∧ s = T12 SC ys s2 .no .no .no s6 s7 s8 s9 s10 .no := by
  obtain ⟨z, hz⟩ := h
  have k1 := m_is_share d
  have k2 := m_law_is_share d
  obtain ⟨w, hw⟩ := re_b (shareB d)
  generalize shareB d = b at *
  unfold bentS
  repeat (first | with_reducible refine Xm.wp_seq ?_ | with_reducible refine Xm.wp_asg ?_ | with_reducible refine Xm.wp_bin2 ?_ | with_reducible refine Xm.wp_un1 ?_ | with_reducible refine Xm.wp_consA ?_ | with_reducible refine Xm.wp_nilA ?_ | with_reducible refine Xm.wp_valB ?_ | with_reducible refine Xm.wp_ifS ?_ | with_reducible refine Xm.wp_rvD ?_ | with_reducible refine Xm.wp_callP0 ?_ | with_reducible refine Xm.wp_callK ?_ | with_reducible refine Xm.wp_skip ?_ | with_reducible refine Xm.wp_orB ?_ | with_reducible refine Xm.wp_clr ?_ | with_reducible refine Xm.ite_nes ?_ | with_reducible refine Xm.ex_bool ?_ | with_reducible refine Xm.ex_of Xm.k_neStr ?_ | ((with_reducible apply Xm.ex_of); · with_reducible assumption) | ((with_reducible apply Xm.ex_arr); · (simp only [arr, List.map_cons, List.map_nil, List.getD_cons_zero, List.getD_cons_succ]; rfl)) | ((with_reducible apply Xm.np_and); · rfl) | ((with_reducible apply Xm.wp_rd); · rfl))
  exact ⟨rfl, rfl⟩
def lastS : SF := (clrS [3] (ifS (valB (bin2 kNe (un1 kRepr (rvD (callP mf_is_share [] (consA (rd 3) nilA)))) (un1 kRepr (rvD (callP mf_law_is_share [] (consA (rd 3) nilA)))))) (retS (cst (.bool false))) skipS))
theorem wp_last {SC d : D} {ys : List D} : Wp lastS (T12 SC ys .no (.dat d) .no .no .no .no .no .no .no .no) fun fl s => fl = .nx ∧ s = T12 SC ys .no .no .no .no .no .no .no .no .no .no := by
  have k1 := m_is_share d
  have k2 := m_law_is_share d
  obtain ⟨w, hw⟩ := re_b (shareB d)
  generalize shareB d = b at *
  unfold lastS
  repeat (first | with_reducible refine Xm.wp_bin2 ?_ | with_reducible refine Xm.wp_un1 ?_ | with_reducible refine Xm.wp_consA ?_ | with_reducible refine Xm.wp_nilA ?_ | with_reducible refine Xm.wp_valB ?_ | with_reducible refine Xm.wp_ifS ?_ | with_reducible refine Xm.wp_rvD ?_ | with_reducible refine Xm.wp_callP0 ?_ | with_reducible refine Xm.wp_skip ?_ | with_reducible refine Xm.wp_clr ?_ | with_reducible refine Xm.ite_nes ?_ | with_reducible refine Xm.ex_bool ?_ | with_reducible refine Xm.ex_of Xm.k_neStr ?_ | ((with_reducible apply Xm.ex_of); · with_reducible assumption) | ((with_reducible apply Xm.wp_rd); · rfl))
  exact ⟨rfl, rfl⟩
def turnS : SF := (clrS [2, 3, 6, 7, 8, 9, 10, 11] (seqS (asgS 6 (bin2 kIx (lstF (consA (cst (.int 1)) (consA (cst (.int 2)) (consA (cst (.int 6)) (consA (cst (.int 97)) (consA (bin2 kPow (cst (.int 10)) (cst (.int 5))) nilA)))))) (rvD (callQ mq_law_draw 1 (consA (cst (.int 5)) nilA))))) (seqS (par2 9 10 (consA (bin2 kMul (rvD (callQ mq_law_number 1 nilA)) (rd 6)) (consA (bin2 kMul (rvD (callQ mq_law_number 1 nilA)) (rd 6)) nilA))) (seqS (ifS (orB (notB (valB (rvD (callP mf_law_refused [] (consA (rd 9) nilA))))) (valB (bin2 kNe (un1 kRepr (rvD (callP mf_share_of [(.int 1)] (consA (rd 9) nilA)))) (un1 kRepr (tupF (consA (rd 9) (consA (cst (.int 1)) nilA))))))) (retS (cst (.bool false))) skipS) (seqS (ifS (andB (valB (bin2 kNe (rd 10) (cst (.int 0)))) (notB (valB (rvD (callP mf_law_made_right [] (consA (rd 9) (consA (rd 10) nilA))))))) (retS (cst (.bool false))) skipS) (seqS (asgS 7 (bin2 kIx (lstF (consA (cst .none) (consA (cst (.bool true)) (consA (cst (.str (PySem.Str.ofString "1"))) (consA (tupF (consA (cst (.int 1)) nilA)) (consA (lstF (consA (cst (.int 1)) nilA)) (consA (rd 9) (consA (cst (.int 0)) (consA (un1 kNeg (cst (.int 1))) nilA))))))))) (rvD (callQ mq_law_draw 1 (consA (cst (.int 8)) nilA))))) (seqS (asgS 8 (lstF (consA (tupF (consA (rd 9) (consA (rd 10) nilA))) (consA (tupF (consA (rd 10) (consA (rd 9) nilA))) (consA (tupF (consA (rd 9) (consA (un1 kAbs (rd 10)) nilA))) (consA (tupF (consA (rd 9) (consA (rd 10) (consA (cst (.int 1)) nilA)))) (consA (tupF (consA (rd 9) nilA)) (consA (lstF (consA (rd 9) (consA (rd 10) nilA))) (consA (tupF (consA (rd 7) (consA (cst (.int 7)) nilA))) (consA (tupF (consA (rd 9) (consA (rd 7) nilA))) (consA (rd 9) nilA))))))))))) (forS (itD (rd 8)) (setD 3) bentS))))))))
theorem wp_turn {n : Nat} {SC a : D} {xs : List D} (hp : PenOk n xs) (hn : n + 60 < 2 ^ 20) : Wp turnS (T12 SC xs (.dat a) .no .no .no .no .no .no .no .no .no) fun fl s => fl = .nx ∧ ∃ ys, PenOk (n + 20) ys ∧ s = T12 SC ys .no .no .no .no .no .no .no .no .no .no := by
  obtain ⟨d1, x1, e1, a1, b1, p1⟩ := draw_ok (m := 5) hp (by omega) (by decide) (by decide)
  obtain ⟨z1, x2, e2, h2, p2⟩ := number_ok p1 (by omega)
  obtain ⟨z2, x3, e3, h3, p3⟩ := number_ok p2 (by omega)
  obtain ⟨d4, x4, e4, a4, b4, p4⟩ := draw_ok (m := 8) p3 (by omega) (by decide) (by decide)
  have k5 : kPow (.int 10) (.int 5) = some (.int 100000) := k_powS (n := 5) (by decide) (by omega)
  obtain ⟨by_, hb, eb⟩ := at_ints (zs := [1, 2, 6, 97, 100000]) a1 (by simp; omega)
  have hby : 0 < by_ ∧ by_ ≤ 100000 := by
    simp only [List.mem_cons, List.not_mem_nil, or_false] at hb
    rcases hb with rfl | rfl | rfl | rfl | rfl <;> omega
  have eb : kIx (.list [.int 1, .int 2, .int 6, .int 97, .int 100000]) (.int d1) = some (.int by_) := eb
  have hbn : by_.natAbs < 2 ^ 17 := by omega
  have m1 : kMul (.int z1) (.int by_) = some (.int (z1 * by_)) := k_mul (sm_of h2 (by omega)) (sm_of hbn (by omega))
  have m2 : kMul (.int z2) (.int by_) = some (.int (z2 * by_)) := k_mul (sm_of h3 (by omega)) (sm_of hbn (by omega))
  have hu : (z1 * by_).natAbs < 2 ^ 60 := Nat.lt_of_lt_of_le (mul_lt h2 hbn) (by decide)
  have hd : (z2 * by_).natAbs < 2 ^ 60 := Nat.lt_of_lt_of_le (mul_lt h3 hbn) (by decide)
  generalize z1 * by_ = u at *
  generalize z2 * by_ = dn at *
  have f1 := m_refused u
  have f2 := m_share_of (t := u) (b := 1) (by decide) (sd64 (by decide))
  rw [sh_one] at f2
  have f3 : mf_share_of ([.int u] ++ [.int 1]) = some (.val (.tuple [.int u, .int 1])) := f2
  have ri := fun {i : Int} (h : i.natAbs < 2 ^ 60) => rk_i h
  obtain ⟨w1, g1⟩ : R (.tuple [.int u, .int 1]) := re_t (by simp only [List.mem_cons, List.not_mem_nil, or_false]; rintro d (rfl | rfl); exact rk_i hu; exact rk_i (by decide)) (by simp)
  obtain ⟨od, ho, eo⟩ := pick_memL (l := [.none, .bool true, .str (PySem.Str.ofString "1"), .tuple [.int 1], .list [.int 1], .int u, .int 0, .int (-1)]) (i := d4) a4 (by simp; omega)
  have ro : Rk 1 700 od := by
    simp only [List.mem_cons, List.not_mem_nil, or_false] at ho
    rcases ho with rfl | rfl | rfl | rfl | rfl | rfl | rfl | rfl
    · exact Rk.none.mono (by omega) (by omega)
    · exact (Rk.bool true).mono (by omega) (by omega)
    · exact ⟨by decide +kernel, by decide +kernel, by decide +kernel, by decide +kernel⟩
    · exact ⟨by decide +kernel, by decide +kernel, by decide +kernel, by decide +kernel⟩
    · exact ⟨by decide +kernel, by decide +kernel, by decide +kernel, by decide +kernel⟩
    · exact rk_i hu
    · exact rk_i (by decide)
    · exact rk_i (by decide)
  have hbent : ∀ d ∈ ([.tuple [.int u, .int dn], .tuple [.int dn, .int u], .tuple [.int u, .int (dn.natAbs : Int)], .tuple [.int u, .int dn, .int 1], .tuple [.int u], .list [.int u, .int dn], .tuple [od, .int 7], .tuple [.int u, od], .int u] : List D), R d := by
    have ru := rk_i hu
    have rd := rk_i hd
    have ra : Rk 1 700 (.int (dn.natAbs : Int)) := rk_i (by rw [Int.natAbs_natCast]; exact hd)
    have r1 : Rk 1 700 (.int 1) := rk_i (by decide)
    have r7 : Rk 1 700 (.int 7) := rk_i (by decide)
    intro d hd2
    simp only [List.mem_cons, List.not_mem_nil, or_false] at hd2
    rcases hd2 with rfl | rfl | rfl | rfl | rfl | rfl | rfl | rfl | rfl
    · exact re_t (by simp only [List.mem_cons, List.not_mem_nil, or_false]; rintro d (rfl | rfl) <;> assumption) (by simp)
    · exact re_t (by simp only [List.mem_cons, List.not_mem_nil, or_false]; rintro d (rfl | rfl) <;> assumption) (by simp)
    · exact re_t (by simp only [List.mem_cons, List.not_mem_nil, or_false]; rintro d (rfl | rfl) <;> assumption) (by simp)
    · exact re_t (by simp only [List.mem_cons, List.not_mem_nil, or_false]; rintro d (rfl | rfl | rfl) <;> assumption) (by simp)
    · exact re_t (by simp only [List.mem_cons, List.not_mem_nil, or_false]; rintro d rfl; assumption) (by simp)
    · exact re_l (by simp only [List.mem_cons, List.not_mem_nil, or_false]; rintro d (rfl | rfl) <;> assumption) (by simp)
    · exact re_t (by simp only [List.mem_cons, List.not_mem_nil, or_false]; rintro d (rfl | rfl) <;> assumption) (by simp)
    · exact re_t (by simp only [List.mem_cons, List.not_mem_nil, or_false]; rintro d (rfl | rfl) <;> assumption) (by simp)
    · exact re_rk ru (by omega) (by omega)
  have loop : ∀ (l : List D) (s6 s7 s8 s9 s10 : Slot), (∀ d ∈ l, R d) → Wp (loopS (setD 3) bentS l) (T12 SC x4 (.dat a) .no .no .no s6 s7 s8 s9 s10 .no) fun fl s => fl = .nx ∧ s = T12 SC x4 (.dat a) .no .no .no s6 s7 s8 s9 s10 .no := fun l s6 s7 s8 s9 s10 hl =>
    wp_loop (fun l s => (∀ d ∈ l, R d) ∧ s = T12 SC x4 (.dat a) .no .no .no s6 s7 s8 s9 s10 .no) (fun d l s ⟨hd, e⟩ => by
      subst e
      refine ⟨_, rfl, ?_⟩
      refine (wp_bent (hd d (.head _))).imp ?_
      rintro fl s ⟨rfl, rfl⟩
      exact ⟨fun d h => hd d (.tail _ h), rfl⟩) (fun s ⟨_, e⟩ => ⟨rfl, e⟩) l _ ⟨hl, rfl⟩
  unfold turnS
  by_cases h0 : dn = 0
  · subst h0
    repeat (first | with_reducible refine Xm.wp_seq ?_ | with_reducible refine Xm.wp_asg ?_ | with_reducible refine Xm.wp_bin2 ?_ | with_reducible refine Xm.wp_consA ?_ | with_reducible refine Xm.wp_nilA ?_ | with_reducible refine Xm.wp_cst ?_ | with_reducible refine Xm.wp_rvD ?_ | with_reducible refine Xm.wp_lstF ?_ | with_reducible refine Xm.wp_clr ?_ | with_reducible refine Xm.wp_par2 ?_ | ((with_reducible apply Xm.ex_of); · with_reducible assumption) | ((with_reducible apply Xm.np_and); · rfl) | ((with_reducible apply Xm.len_and); · exact Nat.le_of_ble_eq_true rfl) | ((with_reducible apply Xm.mu_and); · rfl) | ((with_reducible apply Xm.wp_rd); · rfl) | ((with_reducible apply Xm.wp_callQ); · rfl))
    refine ⟨_, _, rfl, rfl, rfl, ?_⟩
    repeat (first | with_reducible refine Xm.wp_seq ?_ | with_reducible refine Xm.wp_asg ?_ | with_reducible refine Xm.wp_bin2 ?_ | with_reducible refine Xm.wp_un1 ?_ | with_reducible refine Xm.wp_consA ?_ | with_reducible refine Xm.wp_nilA ?_ | with_reducible refine Xm.wp_cst ?_ | with_reducible refine Xm.wp_valB ?_ | with_reducible refine Xm.wp_ifS ?_ | with_reducible refine Xm.wp_rvD ?_ | with_reducible refine Xm.wp_callP0 ?_ | with_reducible refine Xm.wp_callP ?_ | with_reducible refine Xm.wp_skip ?_ | with_reducible refine Xm.wp_andB ?_ | with_reducible refine Xm.wp_orB ?_ | with_reducible refine Xm.wp_notB ?_ | with_reducible refine Xm.wp_tupF ?_ | with_reducible refine Xm.wp_lstF ?_ | with_reducible refine Xm.wp_itD ?_ | with_reducible refine Xm.wp_for ?_ | with_reducible refine Xm.ite_ff ?_ | with_reducible refine Xm.ite_nt ?_ | with_reducible refine Xm.ite_nes ?_ | with_reducible refine Xm.ite_nei ?_ | with_reducible refine Xm.ex_bool ?_ | with_reducible refine Xm.ex_of Xm.k_neI ?_ | with_reducible refine Xm.ex_of Xm.k_neStr ?_ | with_reducible refine Xm.ex_of Xm.k_neg ?_ | with_reducible refine Xm.ex_of Xm.k_abs ?_ | ((with_reducible apply Xm.ex_of); · with_reducible assumption) | ((with_reducible apply Xm.np_and); · rfl) | ((with_reducible apply Xm.len_and); · exact Nat.le_of_ble_eq_true rfl) | ((with_reducible apply Xm.mu_and); · rfl) | ((with_reducible apply Xm.wp_rd); · rfl) | ((with_reducible apply Xm.wp_callQ); · rfl))
    refine ⟨_, .inl rfl, ?_⟩
    refine (loop _ _ _ _ _ _ hbent).imp ?_
    rintro fl s ⟨rfl, rfl⟩
    exact ⟨rfl, x4, p4.mono (by omega), rfl⟩
  · have hm := m_made (u := u) h0 hu hd
    have hz : (!(dn == 0)) = true := by simpa using h0
    repeat (first | with_reducible refine Xm.wp_seq ?_ | with_reducible refine Xm.wp_asg ?_ | with_reducible refine Xm.wp_bin2 ?_ | with_reducible refine Xm.wp_consA ?_ | with_reducible refine Xm.wp_nilA ?_ | with_reducible refine Xm.wp_cst ?_ | with_reducible refine Xm.wp_rvD ?_ | with_reducible refine Xm.wp_lstF ?_ | with_reducible refine Xm.wp_clr ?_ | with_reducible refine Xm.wp_par2 ?_ | ((with_reducible apply Xm.ex_of); · with_reducible assumption) | ((with_reducible apply Xm.np_and); · rfl) | ((with_reducible apply Xm.len_and); · exact Nat.le_of_ble_eq_true rfl) | ((with_reducible apply Xm.mu_and); · rfl) | ((with_reducible apply Xm.wp_rd); · rfl) | ((with_reducible apply Xm.wp_callQ); · rfl))
    refine ⟨_, _, rfl, rfl, rfl, ?_⟩
    repeat (first | with_reducible refine Xm.wp_seq ?_ | with_reducible refine Xm.wp_asg ?_ | with_reducible refine Xm.wp_bin2 ?_ | with_reducible refine Xm.wp_un1 ?_ | with_reducible refine Xm.wp_consA ?_ | with_reducible refine Xm.wp_nilA ?_ | with_reducible refine Xm.wp_cst ?_ | with_reducible refine Xm.wp_valB ?_ | with_reducible refine Xm.wp_ifS ?_ | with_reducible refine Xm.wp_rvD ?_ | with_reducible refine Xm.wp_callP0 ?_ | with_reducible refine Xm.wp_callP ?_ | with_reducible refine Xm.wp_skip ?_ | with_reducible refine Xm.wp_andB ?_ | with_reducible refine Xm.wp_orB ?_ | with_reducible refine Xm.wp_notB ?_ | with_reducible refine Xm.wp_tupF ?_ | with_reducible refine Xm.wp_lstF ?_ | with_reducible refine Xm.wp_itD ?_ | with_reducible refine Xm.wp_for ?_ | with_reducible refine Xm.ite_nt ?_ | with_reducible refine Xm.ite_nes ?_ | with_reducible refine Xm.ex_bool ?_ | with_reducible refine Xm.ex_of Xm.k_neI ?_ | with_reducible refine Xm.ex_of Xm.k_neStr ?_ | with_reducible refine Xm.ex_of Xm.k_neg ?_ | with_reducible refine Xm.ex_of Xm.k_abs ?_ | ((with_reducible apply Xm.ex_of); · with_reducible assumption) | ((with_reducible apply Xm.np_and); · rfl) | ((with_reducible apply Xm.len_and); · exact Nat.le_of_ble_eq_true rfl) | ((with_reducible apply Xm.mu_and); · rfl) | ((with_reducible apply Xm.ite_t); · with_reducible assumption) | ((with_reducible apply Xm.wp_rd); · rfl) | ((with_reducible apply Xm.wp_callQ); · rfl))
    refine ⟨_, .inl rfl, ?_⟩
    refine (loop _ _ _ _ _ _ hbent).imp ?_
    rintro fl s ⟨rfl, rfl⟩
    exact ⟨rfl, x4, p4.mono (by omega), rfl⟩
theorem law_true : ∀ ns : List Int, ns.length ≤ 63 → (∀ z ∈ ns, Builtin.Int.intBits z ≤ 1048576) → mf_law [.list (ns.map PyData.int)] = some (.val (.bool true)) := by
  intro ns _ _
  have hp0 := pen0 ns
  have hcut : kCut (.list (ns.map PyData.int)) none (some 63) = some (.list (cutX (ns.map PyData.int) none (some 63))) := rfl
  have hls : kList (.list (cutX (ns.map PyData.int) none (some 63))) = some (.list (cutX (ns.map PyData.int) none (some 63))) := rfl
  generalize PyData.list (ns.map PyData.int) = SC at *
  generalize PyData.list (cutX (ns.map PyData.int) none (some 63)) = X0 at *
  refine runP_wp ?_
  rw [show g_law = seqS (asgN 1 (newF (consA (un1 kList (cutF (rd 0) noO (someO (cst (.int 63))))) (consA (cst (.int 0)) (consA (cst (.int 0)) nilA))))) (seqS (forS (itR1 (cst (.int 12))) (setD 2) turnS) (seqS (forS (itD (tupF (consA (cst .none) (consA (cst (.bool true)) (consA (cst (.str (PySem.Str.ofString "1/2"))) (consA (lstF nilA) (consA (cst (.dict [])) (consA (tupF nilA) (consA (tupF (consA (cst (.int 0)) (consA (cst (.int 1)) nilA))) (consA (tupF (consA (cst (.int 0)) (consA (cst (.int 2)) nilA))) (consA (tupF (consA (cst (.bool true)) (consA (cst (.int 1)) nilA))) (consA (tupF (consA (tupF (consA (cst (.int 1)) (consA (cst (.int 2)) nilA))) (consA (cst (.int 1)) nilA))) nilA)))))))))))) (setD 3) lastS) (seqS (asgS 4 (lstF (consA (cst (.str (PySem.Str.ofString "line"))) (consA (cst (.int 3)) (consA (tupF (consA (cst (.str (PySem.Str.ofString "turn"))) (consA (cst (.int 1)) nilA))) (consA (cst .none) (consA (cst (.tuple [(.int 0), (.int 1)])) (consA (cst (.tuple [(.int 1), (.int 1)])) (consA (cst (.tuple [(.int 1), (.int 2)])) nilA))))))))) (seqS (asgN 5 (newF (consA (cst (.bool true)) (consA (cst (.bool true)) nilA)))) (seqS (dropS (appM 5 (thenB true (cst (.int 1))))) (retS (boolE (andB (valB (bin2 kEq (rd 4) (lstF (consA (cst (.str (PySem.Str.ofString "line"))) (consA (cst (.int 3)) (consA (tupF (consA (cst (.str (PySem.Str.ofString "turn"))) (consA (cst (.int 1)) nilA))) (consA (cst .none) (consA (tupF (consA (cst (.int 0)) (consA (cst (.int 1)) nilA))) (consA (tupF (consA (cst (.int 1)) (consA (cst (.int 1)) nilA))) (consA (tupF (consA (cst (.int 1)) (consA (cst (.int 2)) nilA))) nilA)))))))))) (valB (bin2 kEq (rd 5) (bin2 kMulL (lstF (consA (cst (.bool true)) nilA)) (cst (.int 3)))))))))))))  from rfl]
  repeat (first | with_reducible refine Xm.wp_seq ?_ | with_reducible refine Xm.wp_un1 ?_ | with_reducible refine Xm.wp_consA ?_ | with_reducible refine Xm.wp_nilA ?_ | with_reducible refine Xm.wp_cst ?_ | with_reducible refine Xm.wp_asgN ?_ | with_reducible refine Xm.wp_newF ?_ | with_reducible refine Xm.wp_for ?_ | with_reducible refine Xm.wp_itR1 ?_ | with_reducible refine Xm.wp_cutF ?_ | with_reducible refine Xm.wp_noO ?_ | with_reducible refine Xm.wp_someO ?_ | with_reducible refine Xm.ex_int ?_ | ((with_reducible apply Xm.ex_of); · with_reducible assumption) | ((with_reducible apply Xm.np_and); · rfl) | ((with_reducible apply Xm.len_and); · exact Nat.le_of_ble_eq_true rfl) | ((with_reducible apply Xm.wp_rd); · rfl))
  refine ⟨12, rfl, by omega, ?_⟩
  refine wp_loopR (fun j s => ∃ xs : List D, PenOk (20 * j) xs ∧ s = T12 SC xs .no .no .no .no .no .no .no .no .no .no) ?_ ?_ _ ⟨_, hp0, rfl⟩
  · rintro j s hj ⟨xs, hp, rfl⟩
    refine ⟨_, rfl, ?_⟩
    refine (wp_turn (SC := SC) (a := .int (j : Int)) hp (by omega)).imp ?_
    rintro fl s ⟨rfl, ys, p4, rfl⟩
    exact ⟨ys, p4.mono (by omega), rfl⟩
  · rintro s ⟨xs, hp, rfl⟩
    repeat (first | with_reducible refine Xm.wp_seq ?_ | with_reducible refine Xm.wp_consA ?_ | with_reducible refine Xm.wp_nilA ?_ | with_reducible refine Xm.wp_cst ?_ | with_reducible refine Xm.wp_tupF ?_ | with_reducible refine Xm.wp_lstF ?_ | with_reducible refine Xm.wp_itD ?_ | with_reducible refine Xm.wp_for ?_ | ((with_reducible apply Xm.len_and); · exact Nat.le_of_ble_eq_true rfl))
    refine ⟨_, .inr rfl, ?_⟩
    refine wp_loop (fun l s => s = T12 SC xs .no .no .no .no .no .no .no .no .no .no) ?_ ?_ _ _ rfl
    · rintro d l s rfl
      refine ⟨_, rfl, ?_⟩
      refine wp_last.imp ?_
      rintro fl s ⟨rfl, rfl⟩
      rfl
    · rintro s rfl
      have q1 : kEq (.list [.str (PySem.Str.ofString "line"), .int 3, .tuple [.str (PySem.Str.ofString "turn"), .int 1], .none, .tuple [.int 0, .int 1], .tuple [.int 1, .int 1], .tuple [.int 1, .int 2]]) (.list [.str (PySem.Str.ofString "line"), .int 3, .tuple [.str (PySem.Str.ofString "turn"), .int 1], .none, .tuple [.int 0, .int 1], .tuple [.int 1, .int 1], .tuple [.int 1, .int 2]]) = some (.bool true) := by
        show kEqD _ _ = _
        unfold kEqD
        rw [if_pos ⟨by decide +kernel, by decide +kernel⟩]
        congr 2
        first | done | decide +kernel
      have q2 : kMulL (.list [.bool true]) (.int 3) = some (.list [.bool true, .bool true, .bool true]) := rfl
      have q3 : kEq (.list ([.bool true, .bool true] ++ [.bool true])) (.list [.bool true, .bool true, .bool true]) = some (.bool true) := rfl
      repeat (first | with_reducible refine Xm.wp_seq ?_ | with_reducible refine Xm.wp_asg ?_ | with_reducible refine Xm.wp_consA ?_ | with_reducible refine Xm.wp_nilA ?_ | with_reducible refine Xm.wp_cst ?_ | with_reducible refine Xm.wp_drop ?_ | with_reducible refine Xm.wp_asgN ?_ | with_reducible refine Xm.wp_tupF ?_ | with_reducible refine Xm.wp_lstF ?_ | with_reducible refine Xm.wp_newF ?_ | ((with_reducible apply Xm.np_and); · rfl) | ((with_reducible apply Xm.len_and); · exact Nat.le_of_ble_eq_true rfl) | ((with_reducible apply Xm.wp_appM); · rfl))
      refine wp_thenB ?_
      repeat (first | with_reducible refine Xm.wp_cst ?_ | ((with_reducible apply Xm.mu_and); · rfl))
      refine ⟨by rw [sizeLine_eq]; simp, ?_⟩
      repeat (first | with_reducible refine Xm.wp_bin2 ?_ | with_reducible refine Xm.wp_consA ?_ | with_reducible refine Xm.wp_nilA ?_ | with_reducible refine Xm.wp_cst ?_ | with_reducible refine Xm.wp_valB ?_ | with_reducible refine Xm.wp_retS ?_ | with_reducible refine Xm.wp_andB ?_ | with_reducible refine Xm.wp_boolE ?_ | with_reducible refine Xm.wp_tupF ?_ | with_reducible refine Xm.wp_lstF ?_ | with_reducible refine Xm.ite_tt ?_ | with_reducible refine Xm.ex_bool ?_ | ((with_reducible apply Xm.ex_of); · with_reducible assumption) | ((with_reducible apply Xm.len_and); · exact Nat.le_of_ble_eq_true rfl) | ((with_reducible apply Xm.wp_rd); · rfl) | ((with_reducible apply Xm.wp_rdo); · rfl))
      rfl
end K01
set_option Elab.async false
set_option linter.all false
set_option maxRecDepth 100000
open PySem PySem.W PyProof.Rows
set_option maxHeartbeats 0 in
theorem PySem.Challenge.cw_crossmarks_k01_shares_known_and_made_holds : PySem.Challenge.rw_crossmarks_k01_shares_known_and_made.Holds := by
  w_on; o_law; k_head; (case hw => w_witness2)
  k_fill
  refine Xm.walkG (l := PySem.Challenge.rw_crossmarks_k01_shares_known_and_made) (n := 63) (k := 4) (x := "_law_script") (mf := K01.mf_law) rfl (by decide) rfl ⟨rfl, by decide, by decide⟩ (fun w h Y => PySem.W.kIn_of Y) ?F K01.law_true
  case F =>
    intro w mg fa h KX G hmg
    refine' K01.all_mk KX G hmg ?a_is_whole ?l_is_whole ?c_is_whole ?k_is_whole ?a_common ?l_common ?c_common ?k_common ?a_law_draw ?l_law_draw ?c_law_draw ?k_law_draw ?a_law_common ?l_law_common ?c_law_common ?k_law_common ?a_is_share ?l_is_share ?c_is_share ?k_is_share ?a_share_of ?l_share_of ?c_share_of ?k_share_of ?q_share_of ?a_law_share ?l_law_share ?c_law_share ?k_law_share ?a_law_number ?l_law_number ?c_law_number ?k_law_number ?a_law_is_share ?l_law_is_share ?c_law_is_share ?k_law_is_share ?a_law_refused ?l_law_refused ?c_law_refused ?k_law_refused ?a_law_made_right ?l_law_made_right ?c_law_made_right ?k_law_made_right ?a_law ?l_law ?c_law ?k_law ?z_KeyError ?z_ValueError ?z_ZeroDivisionError ?z_abs ?z_bool ?z_int ?z_isinstance ?z_len ?z_list ?z_range ?z_repr ?z_tuple ?mGHALF ?lGHALF ?mGNOUGHT ?lGNOUGHT ?mGONE ?lGONE ?aX_CrossError ?lX_CrossError ?nX_CrossError ?rX_CrossError ?iX_CrossError ?kX_CrossError ?sX_CrossError ?tX_CrossError ?jX_CrossError ?aX_NoShare ?lX_NoShare ?nX_NoShare ?rX_NoShare ?iX_NoShare ?kX_NoShare ?sX_NoShare ?tX_NoShare ?jX_NoShare ?aX_NoThing ?sX_NoThing ?tX_NoThing ?jX_NoThing ?lX_NoThing ?saX_NoThing ?kX_NoThing ?iX_NoThing ?tIX_NoThing ?tkX_NoThing ?lIX_NoThing ?cIX_NoThing ?vKE ?aX_NoCase ?sX_NoCase ?tX_NoCase ?jX_NoCase ?lX_NoCase ?saX_NoCase ?kX_NoCase ?iX_NoCase ?tIX_NoCase ?tkX_NoCase ?lIX_NoCase ?cIX_NoCase ?gaB ?rdB ?vB ?aX_NoOrder ?lX_NoOrder ?nX_NoOrder ?rX_NoOrder ?iX_NoOrder ?kX_NoOrder ?sX_NoOrder ?tX_NoOrder ?jX_NoOrder ?aX_NoText ?sX_NoText ?tX_NoText ?jX_NoText ?lX_NoText ?saX_NoText ?kX_NoText ?iX_NoText ?tIX_NoText ?tkX_NoText ?lIX_NoText ?cIX_NoText ?aX_NoWeight ?lX_NoWeight ?nX_NoWeight ?rX_NoWeight ?iX_NoWeight ?kX_NoWeight ?sX_NoWeight ?tX_NoWeight ?jX_NoWeight ?sX_NoShare_CrossError ?sX_NoShare_NoShare ?sX_NoShare_NoThing ?gE_NoCase ?hE_NoCase ?dE_NoCase ?cE_NoCase ?mE_NoCase ?gE_NoOrder ?hE_NoOrder ?dE_NoOrder ?cE_NoOrder ?mE_NoOrder ?gE_NoShare ?hE_NoShare ?dE_NoShare ?cE_NoShare ?mE_NoShare ?gE_NoText ?hE_NoText ?dE_NoText ?cE_NoText ?mE_NoText ?gE_NoThing ?hE_NoThing ?dE_NoThing ?cE_NoThing ?mE_NoThing ?gE_NoWeight ?hE_NoWeight ?dE_NoWeight ?cE_NoWeight ?mE_NoWeight ?nE ?tE ?fF_NoCase_part ?fF_NoText_at ?fF_NoThing_thing ?kO_NoOrder_CrossError ?kO_NoShare_NoShare ?kO_NoShare_ZeroDivisionError ?kO_NoThing_KeyError ?kO_NoWeight_ValueError ?kT_NoShare_CrossError_NoThing
    (case a_is_whole => k_is); (case l_is_whole => k_is); (case c_is_whole => k_is); (case k_is_whole => k_is); (case a_common => k_is); (case l_common => k_is); (case c_common => k_is); (case k_common => k_is); (case a_law_draw => k_is); (case l_law_draw => k_is); (case c_law_draw => k_is); (case k_law_draw => k_is); (case a_law_common => k_is); (case l_law_common => k_is); (case c_law_common => k_is); (case k_law_common => k_is); (case a_is_share => k_is); (case l_is_share => k_is); (case c_is_share => k_is); (case k_is_share => k_is); (case a_share_of => k_is); (case l_share_of => k_is); (case c_share_of => k_is); (case k_share_of => k_is); (case q_share_of => k_is); (case a_law_share => k_is); (case l_law_share => k_is); (case c_law_share => k_is); (case k_law_share => k_is); (case a_law_number => k_is); (case l_law_number => k_is); (case c_law_number => k_is); (case k_law_number => k_is); (case a_law_is_share => k_is); (case l_law_is_share => k_is); (case c_law_is_share => k_is); (case k_law_is_share => k_is); (case a_law_refused => k_is); (case l_law_refused => k_is); (case c_law_refused => k_is); (case k_law_refused => k_is); (case a_law_made_right => k_is); (case l_law_made_right => k_is); (case c_law_made_right => k_is); (case k_law_made_right => k_is); (case a_law => k_is); (case l_law => k_is); (case c_law => k_is); (case k_law => k_is); (case z_KeyError => k_is); (case z_ValueError => k_is); (case z_ZeroDivisionError => k_is); (case z_abs => k_is); (case z_bool => k_is); (case z_int => k_is); (case z_isinstance => k_is); (case z_len => k_is); (case z_list => k_is); (case z_range => k_is); (case z_repr => k_is); (case z_tuple => k_is); (case mGHALF => k_is); (case lGHALF => k_is); (case mGNOUGHT => k_is); (case lGNOUGHT => k_is); (case mGONE => k_is); (case lGONE => k_is); (case aX_CrossError => k_is); (case lX_CrossError => k_is); (case nX_CrossError => k_is); (case rX_CrossError => rfl); (case iX_CrossError => k_is); (case kX_CrossError => k_is); (case sX_CrossError => k_is); (case tX_CrossError => k_is); (case jX_CrossError => k_is); (case aX_NoShare => k_is); (case lX_NoShare => k_is); (case nX_NoShare => k_is); (case rX_NoShare => rfl); (case iX_NoShare => k_is); (case kX_NoShare => k_is); (case sX_NoShare => k_is); (case tX_NoShare => k_is); (case jX_NoShare => k_is); (case aX_NoThing => k_is); (case sX_NoThing => k_is); (case tX_NoThing => k_is); (case jX_NoThing => k_is); (case lX_NoThing => k_is); (case saX_NoThing => k_is); (case kX_NoThing => k_is); (case iX_NoThing => k_is); (case tIX_NoThing => k_is); (case tkX_NoThing => k_is); (case lIX_NoThing => k_is); (case cIX_NoThing => k_is); (case vKE => k_is); (case aX_NoCase => k_is); (case sX_NoCase => k_is); (case tX_NoCase => k_is); (case jX_NoCase => k_is); (case lX_NoCase => k_is); (case saX_NoCase => k_is); (case kX_NoCase => k_is); (case iX_NoCase => k_is); (case tIX_NoCase => k_is); (case tkX_NoCase => k_is); (case lIX_NoCase => k_is); (case cIX_NoCase => k_is); (case gaB => k_is); (case rdB => k_is); (case vB => k_is); (case aX_NoOrder => k_is); (case lX_NoOrder => k_is); (case nX_NoOrder => k_is); (case rX_NoOrder => rfl); (case iX_NoOrder => k_is); (case kX_NoOrder => k_is); (case sX_NoOrder => k_is); (case tX_NoOrder => k_is); (case jX_NoOrder => k_is); (case aX_NoText => k_is); (case sX_NoText => k_is); (case tX_NoText => k_is); (case jX_NoText => k_is); (case lX_NoText => k_is); (case saX_NoText => k_is); (case kX_NoText => k_is); (case iX_NoText => k_is); (case tIX_NoText => k_is); (case tkX_NoText => k_is); (case lIX_NoText => k_is); (case cIX_NoText => k_is); (case aX_NoWeight => k_is); (case lX_NoWeight => k_is); (case nX_NoWeight => k_is); (case rX_NoWeight => rfl); (case iX_NoWeight => k_is); (case kX_NoWeight => k_is); (case sX_NoWeight => k_is); (case tX_NoWeight => k_is); (case jX_NoWeight => k_is); (case sX_NoShare_CrossError => k_is); (case sX_NoShare_NoShare => k_is); (case sX_NoShare_NoThing => k_is); (case gE_NoCase => k_is); (case hE_NoCase => k_is); (case dE_NoCase => k_is); (case cE_NoCase => k_is); (case mE_NoCase => k_is); (case gE_NoOrder => k_is); (case hE_NoOrder => k_is); (case dE_NoOrder => k_is); (case cE_NoOrder => k_is); (case mE_NoOrder => k_is); (case gE_NoShare => k_is); (case hE_NoShare => k_is); (case dE_NoShare => k_is); (case cE_NoShare => k_is); (case mE_NoShare => k_is); (case gE_NoText => k_is); (case hE_NoText => k_is); (case dE_NoText => k_is); (case cE_NoText => k_is); (case mE_NoText => k_is); (case gE_NoThing => k_is); (case hE_NoThing => k_is); (case dE_NoThing => k_is); (case cE_NoThing => k_is); (case mE_NoThing => k_is); (case gE_NoWeight => k_is); (case hE_NoWeight => k_is); (case dE_NoWeight => k_is); (case cE_NoWeight => k_is); (case mE_NoWeight => k_is); (case nE => k_is); (case tE => k_is); (case fF_NoCase_part => k_is); (case fF_NoText_at => k_is); (case fF_NoThing_thing => k_is); (case kO_NoOrder_CrossError => first | rfl | kernel_rfl); (case kO_NoShare_NoShare => first | rfl | kernel_rfl); (case kO_NoShare_ZeroDivisionError => first | rfl | kernel_rfl); (case kO_NoThing_KeyError => first | rfl | kernel_rfl); (case kO_NoWeight_ValueError => first | rfl | kernel_rfl); (case kT_NoShare_CrossError_NoThing => first | rfl | kernel_rfl)
