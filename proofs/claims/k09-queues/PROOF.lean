import PyProof.Rows.All
import HandS.ForMost
import HandS.Walk
import HandS.Zip
import HandS.TupAny
import HandS.TupMul
import HandS.Style
import HandS.IsInst
import HandS.Conv
import HandS.SortInts
import KE.GoesNew
import HandS.SetFor
import HandS.Remove
import HandS.RaiseMore
import KE.DataMinMax
import KE.SortData
import PyProof.ReprRoads
import HandS.Dict
import HandS.Ends
import HandS.Defaults
import HandS.HeadEnd
import HandS.HeadHook2
import HandS.Head2
import PyProof.ReprBulk
import KE.DatumOrd
import KE.KTupSum
import PySem.Challenge.RW_curtainrise_k09_whole_queues_of_sixty_an
import KE.KStateDown
set_option Elab.async false
set_option linter.all false
set_option maxRecDepth 100000
set_option maxHeartbeats 0
/-! DL1: data level: values told as data, owned cells, what a state bears. -/
namespace DL
open PySem L2 PyProof.Rows

/-! ### extensions of abstract heaps -/
def baseO : HO → HO
  | .frz _ u => u
  | u => u
def isDic : HO → Bool
  | .dK _ => true
  | .dT _ => true
  | _ => false
/-- what stood stands; a dict may be locked or unlocked -/
def Ext (F H : Hp) : Prop := ∀ a x, F a = some x → ∃ y, H a = some y ∧ (y = x ∨ (isDic (baseO x) = true ∧ baseO y = baseO x))
theorem Ext.refl (H : Hp) : Ext H H := fun _ x h => ⟨x, h, .inl rfl⟩
theorem Ext.trans {F G H : Hp} (a : Ext F G) (b : Ext G H) : Ext F H := fun p x h => by
  obtain ⟨y, hy, e⟩ := a p x h
  obtain ⟨z, hz, e'⟩ := b p y hy
  refine ⟨z, hz, ?_⟩
  rcases e with rfl | ⟨d, e⟩
  · exact e'
  · rcases e' with rfl | ⟨d', e'⟩
    · exact .inr ⟨d, e⟩
    · exact .inr ⟨d, e'.trans e⟩
theorem Ext.non {F H : Hp} (e : Ext F H) {p : Addr} (h : H p = none) : F p = none := by
  cases q : F p with
  | none => rfl
  | some x =>
    obtain ⟨y, hy, _⟩ := e p x q
    rw [h] at hy
    cases hy
theorem Ext.exact {F H : Hp} (e : Ext F H) {p : Addr} {x : HO} (h : F p = some x) (nd : isDic (baseO x) = false) : H p = some x := by
  obtain ⟨y, hy, q⟩ := e p x h
  rcases q with rfl | ⟨d, _⟩
  · exact hy
  · rw [nd] at d
    cases d
theorem Ext.rd {F H : Hp} (e : Ext F H) {p : Addr} {u : HO} (hu : baseO u = u) (h : Rd F p u) : Rd H p u := by
  rcases h with h | ⟨o, h⟩
  · obtain ⟨y, hy, q⟩ := e p u h
    rcases q with rfl | ⟨d, q⟩
    · exact .inl hy
    · cases y with
      | frz o w =>
        have : w = u := by rw [← hu]; exact q
        subst this
        exact .inr ⟨o, hy⟩
      | _ =>
        rw [hu] at q
        exact .inl (by rw [hy, ← q]; rfl)
  · obtain ⟨y, hy, q⟩ := e p _ h
    rcases q with rfl | ⟨d, q⟩
    · exact .inr ⟨o, hy⟩
    · cases y with
      | frz o' w =>
        have : w = u := q
        subst this
        exact .inr ⟨o', hy⟩
      | _ => exact .inl (by rw [hy]; exact congrArg some q)
theorem Ext.new {H : Hp} {p : Addr} {o : HO} (h : H p = none) : Ext H (upd H p o) := fun a x e => ⟨x, by
  rw [upd_ne (ne_of_none e h)]
  exact e, .inl rfl⟩
theorem Ext.upd2 {F H : Hp} {p : Addr} {o : HO} (e : Ext F H) : Ext (upd F p o) (upd H p o) := fun a x h => by
  by_cases ha : a = p
  · subst ha
    rw [upd_same] at h
    exact ⟨x, by rw [upd_same]; exact h, .inl rfl⟩
  · rw [upd_ne ha] at h
    obtain ⟨y, hy, q⟩ := e a x h
    exact ⟨y, by rw [upd_ne ha]; exact hy, q⟩
/-- an address that F does not know may change -/
theorem Ext.mut {F H : Hp} {p : Addr} {o : HO} (e : Ext F H) (h : F p = none) : Ext F (upd H p o) := fun a x q => by
  have ha : a ≠ p := ne_of_none q h
  obtain ⟨y, hy, r⟩ := e a x q
  exact ⟨y, by rw [upd_ne ha]; exact hy, r⟩
theorem Ext.seqT {K : PySem.W.Frag} {F H : Hp} {a : Addr} {xs : List V} (e : Ext F H) (h : SqT K F a xs) : SqT K H a xs := by
  rcases h with h | h
  · exact .inl (e.rd rfl h)
  · exact .inr h
theorem Ext.seqL {K : PySem.W.Frag} {F H : Hp} {a : Addr} {xs : List V} (e : Ext F H) (h : SqL K F a xs) : SqL K H a xs := by
  rcases h with h | h
  · exact .inl (e.rd rfl h)
  · exact .inr h

/-! ### a value is a datum -/
def keyD : Key → PyData
  | .inl i => .int i
  | .inr x => .str x
theorem keyD_inj {a b : Key} (e : keyD a = keyD b) : a = b := by
  cases a <;> cases b <;> simp [keyD] at e <;> simp [e]
mutual
inductive Rp (K : PySem.W.Frag) (F : Hp) : V → PyData → Prop
  | non : Rp K F .non .none
  | bl (b : Bool) : Rp K F (.bl b) (.bool b)
  | int (i : Int) : Rp K F (.int i) (.int i)
  | str (x : Str) : Rp K F (.str x) (.str x)
  | lst {a : Addr} {xs : List V} {ds : List PyData} : F a = some (.lst xs) → RpAll K F xs ds → Rp K F (.ref a) (.list ds)
  | tup {a : Addr} {xs : List V} {ds : List PyData} : F a = some (.tup xs) → RpAll K F xs ds → Rp K F (.ref a) (.tuple ds)
  | dk {a : Addr} {kvs : List (Key × V)} {ds : List (PyData × PyData)} : Rd F a (.dK kvs) → RpKV K F kvs ds → Rp K F (.ref a) (.dict ds)
  | dt {a : Addr} {kvs : List (List Key × V)} {ds : List (PyData × PyData)} : Rd F a (.dT kvs) → RpTV K F kvs ds → Rp K F (.ref a) (.dict ((.none, .none) :: ds))
inductive RpAll (K : PySem.W.Frag) (F : Hp) : List V → List PyData → Prop
  | nil : RpAll K F [] []
  | cons {v : V} {vs : List V} {d : PyData} {ds : List PyData} : Rp K F v d → RpAll K F vs ds → RpAll K F (v :: vs) (d :: ds)
inductive RpKV (K : PySem.W.Frag) (F : Hp) : List (Key × V) → List (PyData × PyData) → Prop
  | nil : RpKV K F [] []
  | cons {k : Key} {v : V} {r : List (Key × V)} {d : PyData} {ds : List (PyData × PyData)} : Rp K F v d → RpKV K F r ds → RpKV K F ((k, v) :: r) ((keyD k, d) :: ds)
inductive RpTV (K : PySem.W.Frag) (F : Hp) : List (List Key × V) → List (PyData × PyData) → Prop
  | nil : RpTV K F [] []
  | cons {k : List Key} {v : V} {r : List (List Key × V)} {d : PyData} {ds : List (PyData × PyData)} : Rp K F v d → RpTV K F r ds → RpTV K F ((k, v) :: r) ((.tuple (k.map keyD), d) :: ds)
end
section
variable {K : PySem.W.Frag} {F H : Hp}
mutual
theorem Rp.mono (e : Ext F H) : ∀ {v : V} {d : PyData}, Rp K F v d → Rp K H v d
  | _, _, .non => .non
  | _, _, .bl b => .bl b
  | _, _, .int i => .int i
  | _, _, .str x => .str x
  | _, _, .lst h r => .lst (e.exact h rfl) (RpAll.mono e r)
  | _, _, .tup h r => .tup (e.exact h rfl) (RpAll.mono e r)
  | _, _, .dk h r => .dk (e.rd rfl h) (RpKV.mono e r)
  | _, _, .dt h r => .dt (e.rd rfl h) (RpTV.mono e r)
theorem RpAll.mono (e : Ext F H) : ∀ {vs : List V} {ds : List PyData}, RpAll K F vs ds → RpAll K H vs ds
  | _, _, .nil => .nil
  | _, _, .cons h r => .cons (Rp.mono e h) (RpAll.mono e r)
theorem RpKV.mono (e : Ext F H) : ∀ {vs : List (Key × V)} {ds : List (PyData × PyData)}, RpKV K F vs ds → RpKV K H vs ds
  | _, _, .nil => .nil
  | _, _, .cons h r => .cons (Rp.mono e h) (RpKV.mono e r)
theorem RpTV.mono (e : Ext F H) : ∀ {vs : List (List Key × V)} {ds : List (PyData × PyData)}, RpTV K F vs ds → RpTV K H vs ds
  | _, _, .nil => .nil
  | _, _, .cons h r => .cons (Rp.mono e h) (RpTV.mono e r)
end
theorem RpAll.length : ∀ {vs : List V} {ds : List PyData}, RpAll K F vs ds → vs.length = ds.length
  | _, _, .nil => rfl
  | _, _, .cons _ r => by rw [List.length_cons, List.length_cons, RpAll.length r]
theorem RpAll.get : ∀ {vs : List V} {ds : List PyData} {i : Nat} {d : PyData}, RpAll K F vs ds → ds[i]? = some d → ∃ v, vs[i]? = some v ∧ Rp K F v d
  | _, _, _, _, .nil, e => by simp at e
  | _, _, 0, _, .cons h _, e => by
    simp at e
    subst e
    exact ⟨_, rfl, h⟩
  | _, _, i + 1, _, .cons _ r, e => by
    obtain ⟨v, h1, h2⟩ := RpAll.get (i := i) r (by simpa using e)
    exact ⟨v, by simpa using h1, h2⟩
theorem RpAll.get' : ∀ {vs : List V} {ds : List PyData} {i : Nat} {v : V}, RpAll K F vs ds → vs[i]? = some v → ∃ d, ds[i]? = some d ∧ Rp K F v d
  | _, _, _, _, .nil, e => by simp at e
  | _, _, 0, _, .cons h _, e => by
    simp at e
    subst e
    exact ⟨_, rfl, h⟩
  | _, _, i + 1, _, .cons _ r, e => by
    obtain ⟨v, h1, h2⟩ := RpAll.get' (i := i) r (by simpa using e)
    exact ⟨v, by simpa using h1, h2⟩
theorem RpAll.append : ∀ {vs ws : List V} {ds es : List PyData}, RpAll K F vs ds → RpAll K F ws es → RpAll K F (vs ++ ws) (ds ++ es)
  | _, _, _, _, .nil, s => s
  | _, _, _, _, .cons h r, s => .cons h (RpAll.append r s)
theorem RpAll.set {v : V} {d : PyData} (h : Rp K F v d) : ∀ {vs : List V} {ds : List PyData} (i : Nat), RpAll K F vs ds → RpAll K F (vs.set i v) (ds.set i d)
  | _, _, _, .nil => .nil
  | _, _, 0, .cons _ r => .cons h r
  | _, _, i + 1, .cons g r => .cons g (RpAll.set h i r)
theorem RpAll.take : ∀ {vs : List V} {ds : List PyData} (n : Nat), RpAll K F vs ds → RpAll K F (vs.take n) (ds.take n)
  | _, _, 0, _ => .nil
  | _, _, _ + 1, .nil => .nil
  | _, _, n + 1, .cons h r => .cons h (RpAll.take n r)
theorem RpAll.drop : ∀ {vs : List V} {ds : List PyData} (n : Nat), RpAll K F vs ds → RpAll K F (vs.drop n) (ds.drop n)
  | _, _, 0, r => r
  | _, _, _ + 1, .nil => .nil
  | _, _, n + 1, .cons _ r => RpAll.drop n r
theorem RpAll.eraseIdx : ∀ {vs : List V} {ds : List PyData} (n : Nat), RpAll K F vs ds → RpAll K F (vs.eraseIdx n) (ds.eraseIdx n)
  | _, _, _, .nil => .nil
  | _, _, 0, .cons _ r => r
  | _, _, n + 1, .cons h r => .cons h (RpAll.eraseIdx n r)
theorem RpAll.dropLast : ∀ {vs : List V} {ds : List PyData}, RpAll K F vs ds → RpAll K F vs.dropLast ds.dropLast
  | _, _, .nil => .nil
  | _, _, .cons _ .nil => .nil
  | _, _, .cons h (.cons g r) => .cons h (RpAll.dropLast (.cons g r))
theorem RpAll.reverse {vs : List V} {ds : List PyData} (h : RpAll K F vs ds) : RpAll K F vs.reverse ds.reverse := by
  induction vs generalizing ds with
  | nil =>
    cases h
    exact .nil
  | cons v vs ih =>
    cases h with
    | cons a r =>
      rw [List.reverse_cons, List.reverse_cons]
      exact (ih r).append (.cons a .nil)
theorem RpAll.ints : ∀ {ns : List Int} {vs : List V}, RpAll K F vs (ns.map .int) → vs = ns.map V.int
  | [], _, h => by
    cases h
    rfl
  | n :: ns, _, h => by
    cases h with
    | cons a r =>
      cases a
      rw [RpAll.ints r]
      rfl
theorem RpAll.of_ints : ∀ (ns : List Int), RpAll K F (ns.map V.int) (ns.map .int)
  | [] => .nil
  | n :: ns => .cons (.int n) (RpAll.of_ints ns)
theorem RpAll.bools : ∀ {ns : List Bool} {vs : List V}, RpAll K F vs (ns.map .bool) → vs = ns.map V.bl
  | [], _, h => by
    cases h
    rfl
  | n :: ns, _, h => by
    cases h with
    | cons a r =>
      cases a
      rw [RpAll.bools r]
      rfl
theorem RpAll.strs : ∀ {ns : List Str} {vs : List V}, RpAll K F vs (ns.map .str) → vs = ns.map V.str
  | [], _, h => by
    cases h
    rfl
  | n :: ns, _, h => by
    cases h with
    | cons a r =>
      cases a
      rw [RpAll.strs r]
      rfl
mutual
def noDic : PyData → Bool
  | .list ds => noDics ds
  | .tuple ds => noDics ds
  | .dict _ => false
  | _ => true
def noDics : List PyData → Bool
  | [] => true
  | d :: ds => noDic d && noDics ds
end
mutual
theorem Rp.dp : ∀ {v : V} {d : PyData}, Rp K F v d → noDic d = true → Dp K F v d
  | _, _, .non, _ => .non
  | _, _, .bl b, _ => .bl b
  | _, _, .int i, _ => .int i
  | _, _, .str x, _ => .str x
  | _, _, .lst h r, n => .lst (SqL.of h) (RpAll.dps r n)
  | _, _, .tup h r, n => .tup (SqT.of h) (RpAll.dps r n)
  | _, _, .dk _ _, n => by cases n
  | _, _, .dt _ _, n => by cases n
theorem RpAll.dps : ∀ {vs : List V} {ds : List PyData}, RpAll K F vs ds → noDics ds = true → DpAll K F vs ds
  | _, _, .nil, _ => .nil
  | _, _, .cons h r, n => by
    simp only [noDics, Bool.and_eq_true] at n
    exact .cons (Rp.dp h n.1) (RpAll.dps r n.2)
end
end

/-! ### places and cells -/
inductive Loc where
  | d (x : PyData)
  | c (i : Nat)
  | s (ns : List Int)
inductive Cell where
  | lst (ds : List PyData)
  | dk (kvs : List (Key × PyData))
  | dt (kvs : List (List Key × PyData))
  | hand
  | dead
abbrev Env := List (Option Loc)
abbrev Cells := List Cell
/-- the drawing hand: its five parts -/
def HandL (ds : List PyData) : Prop := ∃ (L : List Int) (p g m c : Int), ds = [.list (L.map .int), .int p, .int g, .int m, .int c] ∧
  (∀ x ∈ L, 0 ≤ x ∧ x < 10 ^ 36) ∧ L.length ≤ 60 ∧ 0 ≤ p ∧ p ≤ L.length ∧ 0 ≤ g ∧ g < 10 ^ 36 ∧ 0 ≤ m ∧ m < 2147483647 ∧ 0 ≤ c
section
variable (K : PySem.W.Frag)
def CellOk (F H : Hp) (l : Addr) : Cell → Prop
  | .lst ds => F l = none ∧ ∃ vs, H l = some (.lst vs) ∧ RpAll K F vs ds
  | .dk kvs => F l = none ∧ ∃ vs, H l = some (.dK vs) ∧ Paired (fun p q => p.1 = q.1 ∧ Rp K F p.2 q.2) vs kvs
  | .dt kvs => F l = none ∧ ∃ vs, H l = some (.dT vs) ∧ Paired (fun p q => p.1 = q.1 ∧ Rp K F p.2 q.2) vs kvs
  | .hand => F l = none ∧ ∃ ds vs, HandL ds ∧ H l = some (.lst vs) ∧ RpAll K F vs ds
  | .dead => ∃ o, F l = some o
def LocOk (F : Hp) (as : List Addr) (v : V) : Loc → Prop
  | .d x => Rp K F v x
  | .c i => ∃ l, as[i]? = some l ∧ v = .ref l
  | .s ns => ∃ a, v = .ref a ∧ SqL K F a (ns.map V.int)
/-- what is known of the slots -/
inductive EnvOk (F : Hp) (as : List Addr) : L2.St → Env → Prop
  | nil : EnvOk F as [] []
  | skip {o σ ρ} : EnvOk F as σ ρ → EnvOk F as (o :: σ) (none :: ρ)
  | cons {v x σ ρ} : LocOk K F as v x → EnvOk F as σ ρ → EnvOk F as (some v :: σ) (some x :: ρ)
/-- the state: F frozen, H all; as the cells' addresses; fr what must be kept besides -/
structure Stt (fr : List (Addr × HO)) (F H : Hp) (as : List Addr) (cs : Cells) : Prop where
  ext : Ext F H
  nd : (as ++ fr.map Prod.fst).Nodup
  own : Paired (CellOk K F H) as cs
  frm : ∀ p ∈ fr, H p.1 = some p.2 ∧ F p.1 = none
end
/-- what grows -/
structure Le (F : Hp) (as : List Addr) (F' : Hp) (as' : List Addr) : Prop where
  ext : Ext F F'
  pre : ∃ t, as' = as ++ t
theorem Le.refl {F : Hp} {as : List Addr} : Le F as F as := ⟨Ext.refl F, [], by simp⟩
theorem Le.trans {F F' F'' : Hp} {as as' as'' : List Addr} (a : Le F as F' as') (b : Le F' as' F'' as'') : Le F as F'' as'' := by
  obtain ⟨t, rfl⟩ := a.pre
  obtain ⟨u, rfl⟩ := b.pre
  exact ⟨a.ext.trans b.ext, t ++ u, by simp⟩
theorem Le.get {F F' : Hp} {as as' : List Addr} (a : Le F as F' as') {i : Nat} {l : Addr} (h : as[i]? = some l) : as'[i]? = some l := by
  obtain ⟨t, rfl⟩ := a.pre
  have hi : i < as.length := (List.getElem?_eq_some_iff.mp h).1
  rw [List.getElem?_append_left hi]
  exact h
section
variable {K : PySem.W.Frag} {F F' H H' : Hp} {as as' : List Addr} {cs : Cells} {fr : List (Addr × HO)}
theorem LocOk.mono (g : Le F as F' as') {v : V} {r : Loc} (h : LocOk K F as v r) : LocOk K F' as' v r := by
  cases r with
  | d x => exact Rp.mono g.ext h
  | c i =>
    obtain ⟨l, e, q⟩ := h
    exact ⟨l, g.get e, q⟩
  | s ns =>
    obtain ⟨a, e, q⟩ := h
    exact ⟨a, e, g.ext.seqL q⟩
theorem EnvOk.mono (g : Le F as F' as') {σ : L2.St} {ρ : Env} (h : EnvOk K F as σ ρ) : EnvOk K F' as' σ ρ := by
  induction h with
  | nil => exact .nil
  | skip _ ih => exact .skip ih
  | cons l _ ih => exact .cons (l.mono g) ih
theorem EnvOk.get {σ : L2.St} {ρ : Env} (h : EnvOk K F as σ ρ) {i : Nat} {r : Loc} (e : ρ[i]? = some (some r)) : ∃ v, σ[i]? = some (some v) ∧ LocOk K F as v r := by
  induction h generalizing i with
  | nil => simp at e
  | skip _ ih =>
    cases i with
    | zero => simp at e
    | succ i => simpa using ih (by simpa using e)
  | cons l _ ih =>
    cases i with
    | zero =>
      simp at e
      subst e
      exact ⟨_, rfl, l⟩
    | succ i => simpa using ih (by simpa using e)
theorem EnvOk.set {σ : L2.St} {ρ : Env} (h : EnvOk K F as σ ρ) {v : V} {r : Loc} (l : LocOk K F as v r) (i : Nat) : EnvOk K F as (σ.set i (some v)) (ρ.set i (some r)) := by
  induction h generalizing i with
  | nil => exact .nil
  | skip h ih =>
    cases i with
    | zero => exact .cons l h
    | succ i => exact .skip (ih i)
  | cons m h ih =>
    cases i with
    | zero => exact .cons l h
    | succ i => exact .cons m (ih i)
theorem EnvOk.unset {σ : L2.St} {ρ : Env} (h : EnvOk K F as σ ρ) (o : Option V) (i : Nat) : EnvOk K F as (σ.set i o) (ρ.set i none) := by
  induction h generalizing i with
  | nil => exact .nil
  | skip h ih =>
    cases i with
    | zero => exact .skip h
    | succ i => exact .skip (ih i)
  | cons m h ih =>
    cases i with
    | zero => exact .skip h
    | succ i => exact .cons m (ih i)
theorem EnvOk.length {σ : L2.St} {ρ : Env} (h : EnvOk K F as σ ρ) : σ.length = ρ.length := by
  induction h with
  | nil => rfl
  | skip _ ih => rw [List.length_cons, List.length_cons, ih]
  | cons _ _ ih => rw [List.length_cons, List.length_cons, ih]
/-- forgetting -/
@[simp] def Env.le : Env → Env → Prop
  | [], [] => True
  | none :: r, _ :: r' => Env.le r r'
  | some a :: r, some b :: r' => b = a ∧ Env.le r r'
  | _, _ => False
theorem EnvOk.weak {σ : L2.St} {ρ ρ' : Env} (h : EnvOk K F as σ ρ) (w : Env.le ρ' ρ) : EnvOk K F as σ ρ' := by
  induction h generalizing ρ' with
  | nil =>
    cases ρ' with
    | nil => exact .nil
    | cons a r => cases a <;> exact w.elim
  | skip _ ih =>
    cases ρ' with
    | nil => exact w.elim
    | cons a r =>
      cases a with
      | none => exact .skip (ih w)
      | some a => exact w.elim
  | cons l _ ih =>
    cases ρ' with
    | nil => exact w.elim
    | cons a r =>
      cases a with
      | none => exact .skip (ih w)
      | some a =>
        obtain ⟨e, w⟩ := w
        subst e
        exact .cons l (ih w)
theorem Env.le_refl : ∀ ρ : Env, Env.le ρ ρ
  | [] => trivial
  | none :: r => Env.le_refl r
  | some _ :: r => ⟨rfl, Env.le_refl r⟩
theorem Paired.get1 {α β : Type} {R : α → β → Prop} : ∀ {l₁ : List α} {l₂ : List β} {i : Nat} {b : β}, Paired R l₁ l₂ → l₂[i]? = some b → ∃ a, l₁[i]? = some a ∧ R a b
  | _, _, _, _, .nil, e => by simp at e
  | _, _, 0, _, .cons h _, e => by
    simp at e
    subst e
    exact ⟨_, rfl, h⟩
  | _, _, i + 1, _, .cons _ r, e => by
    obtain ⟨a, h1, h2⟩ := Paired.get1 (i := i) r (by simpa using e)
    exact ⟨a, by simpa using h1, h2⟩
theorem Paired.get2 {α β : Type} {R : α → β → Prop} : ∀ {l₁ : List α} {l₂ : List β} {i : Nat} {a : α}, Paired R l₁ l₂ → l₁[i]? = some a → ∃ b, l₂[i]? = some b ∧ R a b
  | _, _, _, _, .nil, e => by simp at e
  | _, _, 0, _, .cons h _, e => by
    simp at e
    subst e
    exact ⟨_, rfl, h⟩
  | _, _, i + 1, _, .cons _ r, e => by
    obtain ⟨a, h1, h2⟩ := Paired.get2 (i := i) r (by simpa using e)
    exact ⟨a, by simpa using h1, h2⟩
theorem CellOk.live {l : Addr} {c : Cell} (h : CellOk K F H l c) (e : Ext F H) : ∃ o, H l = some o := by
  cases c with
  | lst ds => exact ⟨_, h.2.choose_spec.1⟩
  | dk ds => exact ⟨_, h.2.choose_spec.1⟩
  | dt ds => exact ⟨_, h.2.choose_spec.1⟩
  | hand =>
    obtain ⟨_, ds, vs, _, q, _⟩ := h
    exact ⟨_, q⟩
  | dead =>
    obtain ⟨o, q⟩ := h
    obtain ⟨y, hy, _⟩ := e l o q
    exact ⟨y, hy⟩
/-- F grows away from l, H is the same at l -/
theorem CellOk.keep {l : Addr} {c : Cell} (h : CellOk K F H l c) (e : Ext F F') (hF : F l = none → F' l = none) (hH : H' l = H l) : CellOk K F' H' l c := by
  cases c with
  | lst ds =>
    obtain ⟨n, vs, q, r⟩ := h
    exact ⟨hF n, vs, hH.trans q, r.mono e⟩
  | dk ds =>
    obtain ⟨n, vs, q, r⟩ := h
    exact ⟨hF n, vs, hH.trans q, Paired.mapP r fun a b z => ⟨z.1, z.2.mono e⟩⟩
  | dt ds =>
    obtain ⟨n, vs, q, r⟩ := h
    exact ⟨hF n, vs, hH.trans q, Paired.mapP r fun a b z => ⟨z.1, z.2.mono e⟩⟩
  | hand =>
    obtain ⟨n, ds, vs, hh, q, r⟩ := h
    exact ⟨hF n, ds, vs, hh, hH.trans q, r.mono e⟩
  | dead =>
    obtain ⟨o, q⟩ := h
    obtain ⟨y, hy, _⟩ := e l o q
    exact ⟨y, hy⟩
theorem Stt.at (S : Stt K fr F H as cs) {i : Nat} {c : Cell} (h : cs[i]? = some c) : ∃ l, as[i]? = some l ∧ CellOk K F H l c := Paired.get1 S.own h
theorem Stt.at' (S : Stt K fr F H as cs) {i : Nat} {l : Addr} (h : as[i]? = some l) : ∃ c, cs[i]? = some c ∧ CellOk K F H l c := Paired.get2 S.own h
theorem Stt.liveAt (S : Stt K fr F H as cs) {l : Addr} (h : l ∈ as) : ∃ o, H l = some o := by
  obtain ⟨i, hi⟩ := List.getElem?_of_mem h
  obtain ⟨c, _, hc⟩ := S.at' hi
  exact hc.live S.ext
theorem Stt.noAs (S : Stt K fr F H as cs) {p : Addr} (h : H p = none) : p ∉ as := fun hm => by
  obtain ⟨o, ho⟩ := S.liveAt hm
  rw [h] at ho
  cases ho
theorem Stt.noFr (S : Stt K fr F H as cs) {p : Addr} (h : H p = none) : p ∉ fr.map Prod.fst := fun hm => by
  obtain ⟨q, hq, rfl⟩ := List.mem_map.mp hm
  have := (S.frm q hq).1
  rw [h] at this
  cases this
theorem own_keep {F' H' : Hp} (own : Paired (CellOk K F H) as cs) (e : Ext F F') (hF : ∀ l ∈ as, F l = none → F' l = none) (hH : ∀ l ∈ as, H' l = H l) : Paired (CellOk K F' H') as cs := by
  induction own with
  | nil => exact .nil
  | cons h _ ih => exact .cons (h.keep e (hF _ List.mem_cons_self) (hH _ List.mem_cons_self)) (ih (fun l hl => hF l (List.mem_cons_of_mem _ hl)) fun l hl => hH l (List.mem_cons_of_mem _ hl))
/-- a new object, frozen -/
theorem Stt.newD (S : Stt K fr F H as cs) {p : Addr} (h : H p = none) (o : HO) : Stt K fr (upd F p o) (upd H p o) as cs where
  ext := S.ext.upd2
  nd := S.nd
  own := own_keep S.own (Ext.new (S.ext.non h)) (fun l hl n => by
    have : l ≠ p := fun e => S.noAs h (e ▸ hl)
    rw [upd_ne this]
    exact n) fun l hl => upd_ne (show l ≠ p from fun e => S.noAs h (e ▸ hl))
  frm := fun q hq => by
    have : q.1 ≠ p := fun e => S.noFr h (e ▸ List.mem_map_of_mem hq)
    rw [upd_ne this, upd_ne this]
    exact S.frm q hq
theorem Stt.leD (S : Stt K fr F H as cs) {p : Addr} (h : H p = none) (o : HO) : Le F as (upd F p o) as := ⟨Ext.new (S.ext.non h), [], by simp⟩
/-- a new object, owned -/
theorem Stt.newC (S : Stt K fr F H as cs) {p : Addr} (h : H p = none) {o : HO} {c : Cell} (hc : CellOk K F (upd H p o) p c) : Stt K fr F (upd H p o) (as ++ [p]) (cs ++ [c]) where
  ext := S.ext.mut (S.ext.non h)
  nd := by
    have h1 := S.noAs h
    have h2 := S.noFr h
    have nd := S.nd
    rw [List.append_assoc, List.nodup_append]
    rw [List.nodup_append] at nd
    obtain ⟨n1, n2, n3⟩ := nd
    refine ⟨n1, ?_, ?_⟩
    · rw [List.singleton_append, List.nodup_cons]
      exact ⟨h2, n2⟩
    · intro a ha b hb
      rw [List.singleton_append, List.mem_cons] at hb
      rcases hb with rfl | hb
      · exact fun e => h1 (e ▸ ha)
      · exact n3 a ha b hb
  own := (own_keep S.own (Ext.refl F) (fun _ _ n => n) fun l hl => upd_ne (show l ≠ p from fun e => S.noAs h (e ▸ hl))).snoc hc
  frm := fun q hq => by
    have : q.1 ≠ p := fun e => S.noFr h (e ▸ List.mem_map_of_mem hq)
    rw [upd_ne this]
    exact S.frm q hq
theorem le_snoc {p : Addr} : Le F as F (as ++ [p]) := ⟨Ext.refl F, [p], rfl⟩
theorem own_set {F H : Hp} {l : Addr} {o : HO} {c : Cell} : ∀ {as : List Addr} {cs : Cells} {i : Nat}, Paired (CellOk K F H) as cs → as.Nodup → as[i]? = some l → CellOk K F (upd H l o) l c → Paired (CellOk K F (upd H l o)) as (cs.set i c)
  | _, _, _, .nil, _, e, _ => by simp at e
  | a :: as, _, 0, .cons h r, nd, e, hc => by
    simp at e
    subst e
    have n := (List.nodup_cons.mp nd).1
    exact .cons hc (own_keep r (Ext.refl F) (fun _ _ z => z) fun b hb => upd_ne (show b ≠ _ from fun e => n (e ▸ hb)))
  | a :: as, _, i + 1, .cons h r, nd, e, hc => by
    have e' : as[i]? = some l := by simpa using e
    have n := List.nodup_cons.mp nd
    have hl : l ∈ as := List.mem_of_getElem? e'
    exact .cons (h.keep (Ext.refl F) (fun z => z) (upd_ne fun q => n.1 (q ▸ hl))) (own_set r n.2 e' hc)
/-- an owned object is written -/
theorem Stt.put (S : Stt K fr F H as cs) {i : Nat} {l : Addr} {o : HO} {c : Cell} (h : as[i]? = some l) (hF : F l = none) (hc : CellOk K F (upd H l o) l c) : Stt K fr F (upd H l o) as (cs.set i c) where
  ext := S.ext.mut hF
  nd := S.nd
  own := own_set S.own (List.nodup_append.mp S.nd).1 h hc
  frm := fun q hq => by
    have hl : l ∈ as := List.mem_of_getElem? h
    have : q.1 ≠ l := fun e => (List.nodup_append.mp S.nd).2.2 l hl q.1 (List.mem_map_of_mem hq) e.symm
    rw [upd_ne this]
    exact S.frm q hq
theorem own_dead {F F' H : Hp} {l : Addr} (ef : Ext F F') (hl' : ∃ o, F' l = some o) (hF : ∀ b, b ≠ l → F b = none → F' b = none) : ∀ {as : List Addr} {cs : Cells} {i : Nat}, Paired (CellOk K F H) as cs → as.Nodup → as[i]? = some l → Paired (CellOk K F' H) as (cs.set i .dead)
  | _, _, _, .nil, _, e => by simp at e
  | a :: as, _, 0, .cons h r, nd, e => by
    simp at e
    subst e
    have n := (List.nodup_cons.mp nd).1
    exact .cons hl' (own_keep r ef (fun b hb z => hF b (fun e => n (e ▸ hb)) z) fun _ _ => rfl)
  | a :: as, _, i + 1, .cons h r, nd, e => by
    have e' : as[i]? = some l := by simpa using e
    have n := List.nodup_cons.mp nd
    have hl : l ∈ as := List.mem_of_getElem? e'
    have ha : a ≠ l := fun q => n.1 (q ▸ hl)
    exact .cons (h.keep ef (hF a ha) rfl) (own_dead ef hl' hF r n.2 e')
/-- an owned object is frozen -/
theorem Stt.freeze (S : Stt K fr F H as cs) {i : Nat} {l : Addr} {o : HO} (h : as[i]? = some l) (hF : F l = none) (hH : H l = some o) : Stt K fr (upd F l o) H as (cs.set i .dead) where
  ext := fun a x e => by
    by_cases ha : a = l
    · subst ha
      rw [upd_same] at e
      cases e
      exact ⟨_, hH, .inl rfl⟩
    · rw [upd_ne ha] at e
      exact S.ext a x e
  nd := S.nd
  own := own_dead (Ext.new hF) ⟨o, upd_same⟩ (fun b hb n => by rw [upd_ne hb]; exact n) S.own (List.nodup_append.mp S.nd).1 h
  frm := fun q hq => by
    have hl : l ∈ as := List.mem_of_getElem? h
    have : q.1 ≠ l := fun e => (List.nodup_append.mp S.nd).2.2 l hl q.1 (List.mem_map_of_mem hq) e.symm
    rw [upd_ne this]
    exact S.frm q hq
theorem own_take (n : Nat) : ∀ {as : List Addr} {cs : Cells}, Paired (CellOk K F H) as cs → Paired (CellOk K F H) (as.take n) (cs.take n) := by
  induction n with
  | zero =>
    intro as cs _
    rw [List.take_zero, List.take_zero]
    exact .nil
  | succ n ih =>
    intro as cs h
    cases h with
    | nil => exact .nil
    | cons a r => exact .cons a (ih r)
theorem Stt.take (S : Stt K fr F H as cs) (n : Nat) : Stt K fr F H (as.take n) (cs.take n) where
  ext := S.ext
  nd := by
    have nd := S.nd
    rw [List.nodup_append] at nd ⊢
    exact ⟨nd.1.sublist (List.take_sublist n as), nd.2.1, fun a ha => nd.2.2 a (List.mem_of_mem_take ha)⟩
  own := own_take n S.own
  frm := S.frm
end

/-! ### readings at the data level -/
abbrev EK := Loc → Cells → Prop
abbrev DTE := Env → Cells → EK → Prop
abbrev DTT := Env → Cells → (Bool → Cells → Prop) → Prop
abbrev DTA := Env → Cells → (List Loc → Cells → Prop) → Prop
structure DEnds where
  nx : Env → Cells → Prop
  rt : EK
  bk : Env → Cells → Prop := fun _ _ => False
  ct : Env → Cells → Prop := fun _ _ => False
abbrev DTS := DEnds → Env → Cells → Prop
abbrev DTG := Loc → Env → Cells → (Env → Cells → Prop) → Prop
abbrev DTGs := List Loc → Env → Cells → (Env → Cells → Prop) → Prop
section
variable (K : PySem.W.Frag) (fr : List (Addr × HO)) (F : Hp) (as : List Addr)
def PostE (Φ : EK) (Q : VK) : Prop := ∀ v F' H' as' r cs', Le F as F' as' → Stt K fr F' H' as' cs' → LocOk K F' as' v r → Φ r cs' → Q v H'
def PostT (Φ : Bool → Cells → Prop) (Q : Bool → Hp → Prop) : Prop := ∀ b F' H' as' cs', Le F as F' as' → Stt K fr F' H' as' cs' → Φ b cs' → Q b H'
def PostA (n : Nat) (Φ : List Loc → Cells → Prop) (Q : List V → Hp → Prop) : Prop := ∀ vs F' H' as' rs cs', rs.length = n → Le F as F' as' → Stt K fr F' H' as' cs' → Paired (LocOk K F' as') vs rs → Φ rs cs' → Q vs H'
def PostN (Φ : Env → Cells → Prop) (Q : L2.St → Hp → Prop) : Prop := ∀ σ' F' H' as' ρ' cs', Le F as F' as' → Stt K fr F' H' as' cs' → EnvOk K F' as' σ' ρ' → Φ ρ' cs' → Q σ' H'
def PostS (Δ : DEnds) (D : Ends) : Prop := PostN K fr F as Δ.nx D.nx ∧ PostE K fr F as Δ.rt D.rt ∧ PostN K fr F as Δ.bk D.bk ∧ PostN K fr F as Δ.ct D.ct
end
section
variable {K : PySem.W.Frag} {fr : List (Addr × HO)} {F F' : Hp} {as as' : List Addr}
theorem PostE.mono {Φ : EK} {Q : VK} (h : PostE K fr F as Φ Q) (g : Le F as F' as') : PostE K fr F' as' Φ Q := fun v F2 H2 a2 r c2 g2 => h v F2 H2 a2 r c2 (g.trans g2)
theorem PostT.mono {Φ : Bool → Cells → Prop} {Q : Bool → Hp → Prop} (h : PostT K fr F as Φ Q) (g : Le F as F' as') : PostT K fr F' as' Φ Q := fun b F2 H2 a2 c2 g2 => h b F2 H2 a2 c2 (g.trans g2)
theorem PostA.mono {n : Nat} {Φ : List Loc → Cells → Prop} {Q : List V → Hp → Prop} (h : PostA K fr F as n Φ Q) (g : Le F as F' as') : PostA K fr F' as' n Φ Q := fun v F2 H2 a2 r c2 hn g2 => h v F2 H2 a2 r c2 hn (g.trans g2)
theorem PostN.mono {Φ : Env → Cells → Prop} {Q : L2.St → Hp → Prop} (h : PostN K fr F as Φ Q) (g : Le F as F' as') : PostN K fr F' as' Φ Q := fun v F2 H2 a2 r c2 g2 => h v F2 H2 a2 r c2 (g.trans g2)
theorem PostS.mono {Δ : DEnds} {D : Ends} (h : PostS K fr F as Δ D) (g : Le F as F' as') : PostS K fr F' as' Δ D := ⟨h.1.mono g, h.2.1.mono g, h.2.2.1.mono g, h.2.2.2.mono g⟩
theorem PostN.no {Q : L2.St → Hp → Prop} : PostN K fr F as (fun _ _ => False) Q := fun _ _ _ _ _ _ _ _ _ z => z.elim
end
section
variable (K : PySem.W.Frag)
def SndE (te : TE) (de : DTE) : Prop := ∀ {fr σ F H as ρ cs}, Stt K fr F H as cs → EnvOk K F as σ ρ → ∀ {Φ : EK} {Q : VK}, de ρ cs Φ → PostE K fr F as Φ Q → te σ H Q
def SndT (te : TT) (de : DTT) : Prop := ∀ {fr σ F H as ρ cs}, Stt K fr F H as cs → EnvOk K F as σ ρ → ∀ {Φ : Bool → Cells → Prop} {Q : Bool → Hp → Prop}, de ρ cs Φ → PostT K fr F as Φ Q → te σ H Q
def SndA (n : Nat) (te : TA) (de : DTA) : Prop := ∀ {fr σ F H as ρ cs}, Stt K fr F H as cs → EnvOk K F as σ ρ → ∀ {Φ : List Loc → Cells → Prop} {Q : List V → Hp → Prop}, de ρ cs Φ → PostA K fr F as n Φ Q → te σ H Q
def SndG (tg : TG) (dg : DTG) : Prop := ∀ {fr σ F H as ρ cs v r}, Stt K fr F H as cs → EnvOk K F as σ ρ → LocOk K F as v r → ∀ {Φ : Env → Cells → Prop} {Q : L2.St → Hp → Prop}, dg r ρ cs Φ → PostN K fr F as Φ Q → tg v σ H Q
def SndGs (tg : TGs) (dg : DTGs) : Prop := ∀ {fr σ F H as ρ cs vs rs}, Stt K fr F H as cs → EnvOk K F as σ ρ → Paired (LocOk K F as) vs rs → ∀ {Φ : Env → Cells → Prop} {Q : L2.St → Hp → Prop}, dg rs ρ cs Φ → PostN K fr F as Φ Q → tg vs σ H Q
def SndS (ts : TS) (ds : DTS) : Prop := ∀ {fr σ F H as ρ cs}, Stt K fr F H as cs → EnvOk K F as σ ρ → ∀ {Δ : DEnds} {D : Ends}, ds Δ ρ cs → PostS K fr F as Δ D → ts D σ H
end
structure DE (X : Cx) (e : Expr) (de : DTE) : Prop where
  ex : ∃ te, PE X e te ∧ SndE X.K te de
structure DT (X : Cx) (e : Expr) (de : DTT) : Prop where
  ex : ∃ te, PT X e te ∧ SndT X.K te de
structure DW (X : Cx) (e : Expr) (de : DTT) : Prop where
  ex : ∃ te, PW X e te ∧ SndT X.K te de
structure DA (X : Cx) (es : List Expr) (de : DTA) : Prop where
  ex : ∃ te, PA X es te ∧ SndA X.K es.length te de
structure DG (X : Cx) (e : Expr) (dg : DTG) : Prop where
  ex : ∃ te, PG X e te ∧ SndG X.K te dg
structure DGs (X : Cx) (es : List Expr) (dg : DTGs) : Prop where
  ex : ∃ te, PGs X es te ∧ SndGs X.K te dg
structure DS (X : Cx) (st : Stmt) (ds : DTS) : Prop where
  ex : ∃ ts, PS X st ts ∧ SndS X.K ts ds
structure DSs (X : Cx) (st : List Stmt) (ds : DTS) : Prop where
  ex : ∃ ts, PSs X st ts ∧ SndS X.K ts ds
end DL

/-! DL2: expressions at the data level. -/
namespace DL
open PySem L2 PyProof.Rows

section
variable {X : Cx} {K : PySem.W.Frag} {fr : List (Addr × HO)} {F H : Hp} {as : List Addr} {cs : Cells} {σ : L2.St} {ρ : Env}

/-! ### names, constants -/
@[simp] def dVar (i : Nat) : DTE := fun ρ cs Φ => match ρ[i]? with
  | some (some r) => Φ r cs
  | _ => False
@[simp] def dC (x : PyData) : DTE := fun _ cs Φ => Φ (.d x) cs
theorem snd_var {i : Nat} : SndE K (tVar i) (dVar i) := fun S E Φ Q h q => by
  unfold dVar at h
  split at h
  · rename_i r e
    obtain ⟨v, e2, l⟩ := E.get e
    exact ⟨v, e2, q v _ _ _ r _ Le.refl S l h⟩
  · exact h.elim
theorem dv (i : Nat) {x : Str} {pos : Pos} (hN : X.N[i]? = some x := by rfl) (hv : Vis X.env.scope x := by first | exact Or.inl rfl | exact Or.inr (Or.inl rfl) | exact Or.inr (Or.inr rfl)) (hd : (x == ("__debug__" : Str)) = false := by decide)
    (hcd : (x == ("__classdict__" : Str)) = false := by decide) : DE X (.Name x pos) (dVar i) := ⟨tVar i, pe_var hN hv hd hcd, snd_var⟩
theorem snd_c {v : V} {x : PyData} (h : ∀ F, Rp K F v x) : SndE K (tC v) (dC x) := fun S E Φ Q p q => q v _ _ _ (.d x) _ Le.refl S (h _) p
theorem de_int {i j pos} : DE X (.Constant (.int i) j pos) (dC (.int i)) := ⟨_, pe_int, snd_c fun _ => .int i⟩
theorem de_bl {b j pos} : DE X (.Constant (.bool b) j pos) (dC (.bool b)) := ⟨_, pe_bl, snd_c fun _ => .bl b⟩
theorem de_non {j pos} : DE X (.Constant .none j pos) (dC .none) := ⟨_, pe_non, snd_c fun _ => .non⟩
theorem de_str {x j pos} : DE X (.Constant (.str x) j pos) (dC (.str x)) := ⟨_, pe_str, snd_c fun _ => .str x⟩
/-- a module's int -/
theorem de_gint {x : Str} {pos : Pos} {i : Int} {t : Tok} (hg : Gl X x) (hm : X.mg x = some (.int i t)) (hd : (x == ("__debug__" : Str)) = false := by decide) : DE X (.Name x pos) (dC (.int i)) := ⟨_, pe_glob hg hm (v := .int i) ⟨t, rfl⟩ hd, snd_c fun _ => .int i⟩

/-! ### lists made: as data, or owned -/
@[simp] def newL (b : Bool) (ds : List PyData) (cs : Cells) (Φ : EK) : Prop := match b with
  | true => Φ (.c cs.length) (cs ++ [.lst ds])
  | false => Φ (.d (.list ds)) cs
theorem newL_snd {b : Bool} {ds : List PyData} {Φ : EK} {Q : VK} {vs : List V} (S : Stt K fr F H as cs) (r : RpAll K F vs ds) (h : newL b ds cs Φ) (q : PostE K fr F as Φ Q) : ∀ p, H p = none → Q (.ref p) (upd H p (.lst vs)) := fun p hp => by
  cases b with
  | false =>
    have g := S.leD hp (.lst vs)
    exact q _ _ _ _ (.d (.list ds)) cs g (S.newD hp _) (.lst upd_same (r.mono g.ext)) h
  | true =>
    have hl : as.length = cs.length := Paired.length S.own
    refine q _ _ _ _ (.c cs.length) _ le_snoc (S.newC (c := .lst ds) hp ⟨S.ext.non hp, vs, upd_same, r⟩) ⟨p, ?_, rfl⟩ h
    rw [← hl, List.getElem?_append_right (Nat.le_refl _), Nat.sub_self]
    rfl
theorem newT_snd {ds : List PyData} {Φ : EK} {Q : VK} {vs : List V} (S : Stt K fr F H as cs) (r : RpAll K F vs ds) (h : Φ (.d (.tuple ds)) cs) (q : PostE K fr F as Φ Q) : ∀ p, H p = none → Q (.ref p) (upd H p (.tup vs)) := fun p hp =>
  have g := S.leD hp (.tup vs)
  q _ _ _ _ (.d (.tuple ds)) cs g (S.newD hp _) (.tup upd_same (r.mono g.ext)) h
/-- what is a list, a list or a tuple, as it stands -/
@[simp] def lstOf : Loc → Cells → Option (List PyData)
  | .d (.list ds), _ => some ds
  | .c i, cs => match cs[i]? with
    | some (.lst ds) => some ds
    | _ => none
  | _, _ => none
@[simp] def seqOf : Loc → Cells → Option (List PyData)
  | .d (.tuple ds), _ => some ds
  | .d (.list ds), _ => some ds
  | .c i, cs => match cs[i]? with
    | some (.lst ds) => some ds
    | _ => none
  | _, _ => none
theorem lstOf_ok {x : Loc} {v : V} {ds : List PyData} (S : Stt K fr F H as cs) (l : LocOk K F as v x) (h : lstOf x cs = some ds) : ∃ a vs, v = .ref a ∧ H a = some (.lst vs) ∧ RpAll K F vs ds := by
  cases x with
  | d x =>
    cases x <;> try cases h
    cases l with
    | lst h1 h2 => exact ⟨_, _, rfl, S.ext.exact h1 rfl, h2⟩
  | c i =>
    have h : (match cs[i]? with | some (.lst ds) => some ds | _ => none) = some ds := h
    split at h
    · rename_i e
      cases h
      obtain ⟨a, ea, rfl⟩ := l
      obtain ⟨b, eb, ok⟩ := S.at e
      rw [ea] at eb
      cases eb
      obtain ⟨_, vs, q, r⟩ := ok
      exact ⟨a, vs, rfl, q, r⟩
    · cases h
  | s ns => cases h
theorem seqOf_ok {x : Loc} {v : V} {ds : List PyData} (S : Stt K fr F H as cs) (l : LocOk K F as v x) (h : seqOf x cs = some ds) : ∃ a vs, v = .ref a ∧ (SqL K H a vs ∨ SqT K H a vs) ∧ RpAll K F vs ds := by
  cases x with
  | d x =>
    cases x <;> try cases h
    · cases l with
      | lst h1 h2 => exact ⟨_, _, rfl, .inl (SqL.of (S.ext.exact h1 rfl)), h2⟩
    · cases l with
      | tup h1 h2 => exact ⟨_, _, rfl, .inr (SqT.of (S.ext.exact h1 rfl)), h2⟩
  | c i =>
    obtain ⟨a, vs, e, q, r⟩ := lstOf_ok S l (show lstOf (.c i) cs = some ds from h)
    exact ⟨a, vs, e, .inl (SqL.of q), r⟩
  | s ns => cases h

/-! ### operators -/
abbrev DR2 := Loc → Loc → Cells → EK → Prop
def SndR (K : PySem.W.Frag) (r : R2) (o : DR2) : Prop := ∀ {fr F H as cs v u x y}, Stt K fr F H as cs → LocOk K F as v x → LocOk K F as u y → ∀ {Φ : EK} {Q : VK}, o x y cs Φ → PostE K fr F as Φ Q → r v u H Q
structure OpD (X : Cx) (f : Value → Value → Sem Value) (o : DR2) : Prop where
  ex : ∃ r, OpR X f r ∧ SndR X.K r o
@[simp] def dBin (o : DR2) (ta tb : DTE) : DTE := fun ρ cs Φ => ta ρ cs fun x cs1 => tb ρ cs1 fun y cs2 => o x y cs2 Φ
theorem snd_bin {r : R2} {o : DR2} {ta tb : TE} {da db : DTE} (ho : SndR K r o) (ha : SndE K ta da) (hb : SndE K tb db) : SndE K (tOp r ta tb) (dBin o da db) := fun S E Φ Q h q => by
  refine ha S E h fun v F1 H1 as1 x cs1 g1 S1 l1 h1 => ?_
  refine hb S1 (E.mono g1) h1 fun u F2 H2 as2 y cs2 g2 S2 l2 h2 => ?_
  exact ho S2 (l1.mono g2) l2 h2 (q.mono (g1.trans g2))
theorem de_op {op : Operator} {o : DR2} {a b : Expr} {da db : DTE} {pos : Pos} (ho : OpD X (binaryOp op) o) (ha : DE X a da) (hb : DE X b db) : DE X (.BinOp a op b pos) (dBin o da db) := by
  obtain ⟨r, h1, h2⟩ := ho
  obtain ⟨ta, a1, a2⟩ := ha
  obtain ⟨tb, b1, b2⟩ := hb
  exact ⟨_, pe_op h1 a1 b1, snd_bin h2 a2 b2⟩
theorem de_cmp {op : CmpOp} {o : DR2} {a b : Expr} {da db : DTE} {pos : Pos} (ho : OpD X (compareOp op) o) (ha : DE X a da) (hb : DE X b db) (hm : behindInMarks op b = false) : DE X (.Compare a [op] [b] pos) (dBin o da db) := by
  obtain ⟨r, h1, h2⟩ := ho
  obtain ⟨ta, a1, a2⟩ := ha
  obtain ⟨tb, b1, b2⟩ := hb
  exact ⟨_, pe_cmpR h1 a1 b1 hm, snd_bin h2 a2 b2⟩
theorem PostE.here {Φ : EK} {Q : VK} {v : V} {x : PyData} (q : PostE K fr F as Φ Q) (S : Stt K fr F H as cs) (r : Rp K F v x) (h : Φ (.d x) cs) : Q v H := q v F H as (.d x) cs Le.refl S r h
/-- + -/
@[simp] def oAdd (b : Bool) : DR2 := fun x y cs Φ => match x, y with
  | .d (.int i), .d (.int j) => Φ (.d (.int (i + j))) cs
  | .d (.tuple xs), .d (.tuple ys) => xs.length + ys.length ≤ sizeLine ∧ Φ (.d (.tuple (xs ++ ys))) cs
  | x, y => match lstOf x cs, lstOf y cs with
    | some xs, some ys => xs.length + ys.length ≤ sizeLine ∧ newL b (xs ++ ys) cs Φ
    | _, _ => False
def rAddU (K : PySem.W.Frag) : R2 := fun x y H Q => rI0 (fun i j => .int (i + j)) x y H Q ∨ rCatA K x y H Q ∨ rCat x y H Q
theorem snd_add {b : Bool} : SndR K (rAddU K) (oAdd b) := fun {fr F H as cs v u x y} S l1 l2 Φ Q h q => by
  unfold oAdd at h
  split at h
  · rename_i i j
    cases l1
    cases l2
    exact .inl ⟨i, j, rfl, rfl, q.here S (.int _) h⟩
  · rename_i xs ys
    obtain ⟨hl, h⟩ := h
    cases l1 with
    | tup a1 a2 =>
      cases l2 with
      | tup b1 b2 =>
        refine .inr (.inl ⟨_, _, _, _, rfl, rfl, SqT.of (S.ext.exact a1 rfl), SqT.of (S.ext.exact b1 rfl), by rw [a2.length, b2.length]; exact hl, ?_⟩)
        refine ⟨fun e => ?_, fun e1 e2 => ?_, fun _ _ p hp => ?_⟩
        all_goals first
          | exact newT_snd S (a2.append b2) h q p hp
          | (subst e
             cases a2
             exact q.here S (.tup b1 b2) h)
          | (subst e2
             cases b2
             rw [List.append_nil] at h
             exact q.here S (.tup a1 a2) h)
  · split at h
    · rename_i xs ys e1 e2
      obtain ⟨hl, h⟩ := h
      obtain ⟨a, vs, rfl, ha, ra⟩ := lstOf_ok S l1 e1
      obtain ⟨c, us, rfl, hc, rc⟩ := lstOf_ok S l2 e2
      exact .inr (.inr ⟨a, c, vs, us, rfl, rfl, ha, hc, by rw [ra.length, rc.length]; exact hl, newL_snd S (ra.append rc) h q⟩)
    · exact h.elim
theorem do_add (b : Bool) : OpD X (binaryOp .Add) (oAdd b) := ⟨_, op_add.or (op_catA.or op_cat), snd_add⟩
end
end DL

/-! DL3: operators, comparisons, tests, subscripts, displays. -/
namespace DL
open PySem L2 PyProof.Rows

section
variable {X : Cx} {K : PySem.W.Frag} {fr : List (Addr × HO)} {F H : Hp} {as : List Addr} {cs : Cells} {σ : L2.St} {ρ : Env}

/-- two ints, a condition, the answer -/
@[simp] def oI (C : Int → Int → Prop) (g : Int → Int → PyData) : DR2 := fun x y cs Φ => match x, y with
  | .d (.int i), .d (.int j) => C i j ∧ Φ (.d (g i j)) cs
  | _, _ => False
@[simp] def oI0 (g : Int → Int → PyData) : DR2 := fun x y cs Φ => match x, y with
  | .d (.int i), .d (.int j) => Φ (.d (g i j)) cs
  | _, _ => False
theorem snd_I {C : Int → Int → Prop} {g : Int → Int → V} {g' : Int → Int → PyData} (hg : ∀ i j F, Rp K F (g i j) (g' i j)) : SndR K (rI C g) (oI C g') := fun {fr F H as cs v u x y} S l1 l2 Φ Q h q => by
  unfold oI at h
  split at h
  · rename_i i j
    cases l1
    cases l2
    exact ⟨i, j, rfl, rfl, h.1, q.here S (hg i j _) h.2⟩
  · exact h.elim
theorem snd_I0 {g : Int → Int → V} {g' : Int → Int → PyData} (hg : ∀ i j F, Rp K F (g i j) (g' i j)) : SndR K (rI0 g) (oI0 g') := fun {fr F H as cs v u x y} S l1 l2 Φ Q h q => by
  unfold oI0 at h
  split at h
  · rename_i i j
    cases l1
    cases l2
    exact ⟨i, j, rfl, rfl, q.here S (hg i j _) h⟩
  · exact h.elim
abbrev oSub : DR2 := oI0 fun i j => .int (i - j)
theorem do_sub : OpD X (binaryOp .Sub) oSub := ⟨_, op_sub, snd_I0 fun _ _ _ => .int _⟩
abbrev oFdiv : DR2 := oI CDiv fun i j => .int (i / j)
theorem do_fdiv : OpD X (binaryOp .FloorDiv) oFdiv := ⟨_, op_fdiv, snd_I fun _ _ _ => .int _⟩
abbrev oMod : DR2 := oI (fun _ j => 0 < j) fun i j => .int (i % j)
theorem do_mod : OpD X (binaryOp .Mod) oMod := ⟨_, op_mod, snd_I fun _ _ _ => .int _⟩
abbrev oPow : DR2 := oI CPow fun i j => .int (i ^ j.toNat)
theorem do_pow : OpD X (binaryOp .Pow) oPow := ⟨_, op_pow, snd_I fun _ _ _ => .int _⟩
abbrev oLt : DR2 := oI0 fun i j => .bool (decide (i < j))
theorem do_lt : OpD X (compareOp .Lt) oLt := ⟨_, op_lt, snd_I0 fun _ _ _ => .bl _⟩
abbrev oLe : DR2 := oI0 fun i j => .bool (decide (i ≤ j))
theorem do_le : OpD X (compareOp .LtE) oLe := ⟨_, op_le, snd_I0 fun _ _ _ => .bl _⟩
abbrev oGt : DR2 := oI0 fun i j => .bool (decide (j < i))
theorem do_gt : OpD X (compareOp .Gt) oGt := ⟨_, op_gt, snd_I0 fun _ _ _ => .bl _⟩
abbrev oGe : DR2 := oI0 fun i j => .bool (decide (j ≤ i))
theorem do_ge : OpD X (compareOp .GtE) oGe := ⟨_, op_ge, snd_I0 fun _ _ _ => .bl _⟩
/-- times: ints, a list so many times, a tuple so many times -/
@[simp] def oMul (b : Bool) : DR2 := fun x y cs Φ => match x, y with
  | .d (.int i), .d (.int j) => CMul i j ∧ Φ (.d (.int (i * j))) cs
  | .d (.list xs), .d (.int k) => 0 ≤ k ∧ k < 2 ^ 62 ∧ xs.length * k.toNat ≤ sizeLine ∧ newL b (List.replicate k.toNat xs).flatten cs Φ
  | .d (.tuple xs), .d (.int k) => xs ≠ [] ∧ 2 ≤ k ∧ k ≤ 1000 ∧ xs.length ≤ 1000 ∧ Φ (.d (.tuple (List.replicate k.toNat xs).flatten)) cs
  | _, _ => False
def rMulU (K : PySem.W.Frag) : R2 := fun x y H Q => rI CMul (fun i j => .int (i * j)) x y H Q ∨ rRep x y H Q ∨ rRepT K x y H Q
theorem RpAll.rep {vs : List V} {ds : List PyData} (h : RpAll K F vs ds) : ∀ k : Nat, RpAll K F (List.replicate k vs).flatten (List.replicate k ds).flatten
  | 0 => .nil
  | k + 1 => by
    rw [List.replicate_succ, List.replicate_succ, List.flatten_cons, List.flatten_cons]
    exact h.append (RpAll.rep h k)
theorem snd_mul {b : Bool} : SndR K (rMulU K) (oMul b) := fun {fr F H as cs v u x y} S l1 l2 Φ Q h q => by
  unfold oMul at h
  split at h
  · rename_i i j
    cases l1
    cases l2
    exact .inl ⟨i, j, rfl, rfl, h.1, q.here S (.int _) h.2⟩
  · rename_i xs k
    cases l2
    cases l1 with
    | lst a1 a2 =>
      obtain ⟨h0, h1, h2, h3⟩ := h
      exact .inr (.inl ⟨_, k, _, rfl, rfl, S.ext.exact a1 rfl, by omega, by omega, by rw [a2.length]; exact h2, newL_snd S (a2.rep _) h3 q⟩)
  · rename_i xs k
    cases l2
    cases l1 with
    | tup a1 a2 =>
      obtain ⟨h0, h1, h2, h3, h4⟩ := h
      refine .inr (.inr ⟨_, k, _, rfl, rfl, SqT.of (S.ext.exact a1 rfl), fun e => ?_, h1, h2, by rw [a2.length]; exact h3, newT_snd S (a2.rep _) h4 q⟩)
      subst e
      cases a2
      exact h0 rfl
  · exact h.elim
theorem do_mul (b : Bool) : OpD X (binaryOp .Mult) (oMul b) := ⟨_, op_mul.or (op_rep.or op_repT), snd_mul⟩
/-- -a -/
@[simp] def dNeg (ta : DTE) : DTE := fun ρ cs Φ => ta ρ cs fun x cs1 => match x with
  | .d (.int i) => Φ (.d (.int (-i))) cs1
  | _ => False
theorem de_neg {a : Expr} {da : DTE} {pos : Pos} (ha : DE X a da) : DE X (.UnaryOp .USub a pos) (dNeg da) := by
  obtain ⟨ta, a1, a2⟩ := ha
  refine ⟨_, pe_un un_neg a1, fun S E Φ Q h q => a2 S E h fun v F1 H1 as1 x cs1 g1 S1 l1 h1 => ?_⟩
  split at h1
  · rename_i i
    cases l1
    exact ⟨i, rfl, (q.mono g1).here S1 (.int _) h1⟩
  · exact h1.elim
/-- == and != -/
@[simp] def sameKind : PyData → PyData → Option Bool
  | .int i, .int j => some (decide (i = j))
  | .bool i, .bool j => some (decide (i = j))
  | .str i, .str j => some (decide (i = j))
  | _, _ => none
@[simp] def oEq (n : Bool) : DR2 := fun x y cs Φ => match x, y with
  | .d a, .d b => (match sameKind a b with
    | some k => Φ (.d (.bool (k != n))) cs
    | none => noDic a = true ∧ noDic b = true ∧ SeqAt.shaped a = true ∧ SeqAt.shaped b = true ∧ Φ (.d (.bool (PyData.eqv a b != n))) cs)
  | _, _ => False
theorem xor_f (b : Bool) : (b != false) = b := by cases b <;> rfl
theorem xor_t (b : Bool) : (b != true) = !b := by cases b <;> rfl
theorem same_scal {a b : PyData} {k : Bool} (h : sameKind a b = some k) {v u : V} (r1 : Rp K F v a) (r2 : Rp K F u b) : scal v u = true ∧ decide (v = u) = k := by
  cases a <;> cases b <;> simp [sameKind] at h
  all_goals
    cases r1
    cases r2
    subst h
    simp [scal]
theorem snd_eq : SndR K (fun x y H Q => rEq x y H Q ∨ rEqD K x y H Q) (oEq false) := fun {fr F H as cs v u x y} S l1 l2 Φ Q h q => by
  unfold oEq at h
  split at h
  · rename_i a b
    have l1 : Rp K F v a := l1
    have l2 : Rp K F u b := l2
    split at h
    · rename_i k e
      obtain ⟨s1, s2⟩ := same_scal e l1 l2
      rw [xor_f] at h
      exact .inl ⟨s1, by rw [s2]; exact q.here S (.bl k) h⟩
    · obtain ⟨n1, n2, s1, s2, h⟩ := h
      rw [xor_f] at h
      exact .inr ⟨a, b, (l1.mono S.ext).dp n1, (l2.mono S.ext).dp n2, s1, s2, q.here S (.bl _) h⟩
  · exact h.elim
theorem snd_ne : SndR K (fun x y H Q => rNe x y H Q ∨ rNeD K x y H Q) (oEq true) := fun {fr F H as cs v u x y} S l1 l2 Φ Q h q => by
  unfold oEq at h
  split at h
  · rename_i a b
    have l1 : Rp K F v a := l1
    have l2 : Rp K F u b := l2
    split at h
    · rename_i k e
      obtain ⟨s1, s2⟩ := same_scal e l1 l2
      rw [xor_t] at h
      exact .inl ⟨s1, by rw [s2]; exact q.here S (.bl _) h⟩
    · obtain ⟨n1, n2, s1, s2, h⟩ := h
      rw [xor_t] at h
      exact .inr ⟨a, b, (l1.mono S.ext).dp n1, (l2.mono S.ext).dp n2, s1, s2, q.here S (.bl _) h⟩
  · exact h.elim
theorem do_eq (hu : X.A.units + 64 < cLine) : OpD X (compareOp .Eq) (oEq false) := ⟨_, op_eq.or (op_eqD hu), snd_eq⟩
theorem do_ne (hu : X.A.units + 64 < cLine) : OpD X (compareOp .NotEq) (oEq true) := ⟨_, op_ne.or (op_neD hu), snd_ne⟩
/-- is, is not: None on the right, or two truth values -/
@[simp] def isNone : Loc → Bool
  | .d .none => true
  | _ => false
@[simp] def oIs (n : Bool) : DR2 := fun x y cs Φ => match y with
  | .d .none => Φ (.d (.bool (isNone x != n))) cs
  | .d (.bool b) => (match x with
    | .d (.bool a) => Φ (.d (.bool (decide (a = b) != n))) cs
    | _ => False)
  | _ => False
theorem isNone_ok {x : Loc} {v : V} (l : LocOk K F as v x) : decide (v = .non) = isNone x := by
  cases x with
  | d x =>
    cases l <;> rfl
  | c i =>
    obtain ⟨a, _, rfl⟩ := l
    rfl
  | s ns =>
    obtain ⟨a, rfl, _⟩ := l
    rfl
theorem snd_is : SndR K (fun x y H Q => (y = .non ∧ Q (.bl (decide (x = .non))) H) ∨ rIsB x y H Q) (oIs false) := fun {fr F H as cs v u x y} S l1 l2 Φ Q h q => by
  unfold oIs at h
  split at h
  · cases l2
    rw [xor_f] at h
    exact .inl ⟨rfl, by rw [isNone_ok l1]; exact q.here S (.bl _) h⟩
  · cases l2
    split at h
    · cases l1
      rw [xor_f] at h
      exact .inr ⟨_, _, rfl, rfl, q.here S (.bl _) h⟩
    · exact h.elim
  · exact h.elim
theorem snd_isnot : SndR K (fun x y H Q => (y = .non ∧ Q (.bl (!decide (x = .non))) H) ∨ rNotB x y H Q) (oIs true) := fun {fr F H as cs v u x y} S l1 l2 Φ Q h q => by
  unfold oIs at h
  split at h
  · cases l2
    rw [xor_t] at h
    exact .inl ⟨rfl, by rw [isNone_ok l1]; exact q.here S (.bl _) h⟩
  · cases l2
    split at h
    · cases l1
      rw [xor_t] at h
      exact .inr ⟨_, _, rfl, rfl, q.here S (.bl _) h⟩
    · exact h.elim
  · exact h.elim
theorem do_is : OpD X (compareOp .Is) (oIs false) := ⟨_, op_isN.or op_isBl, snd_is⟩
theorem do_isnot : OpD X (compareOp .IsNot) (oIs true) := ⟨_, op_notN.or op_notBl, snd_isnot⟩

/-! ### tests -/
@[simp] def dTest (t : DTE) : DTT := fun ρ cs Φ => t ρ cs fun r cs1 => match r with
  | .d (.bool b) => Φ b cs1
  | _ => False
theorem snd_test {te : TE} {de : DTE} (h : SndE K te de) : SndT K (tTest te) (dTest de) := fun S E Φ Q p q => h S E p fun v F1 H1 as1 x cs1 g1 S1 l1 h1 => by
  split at h1
  · rename_i b
    cases l1
    exact ⟨b, rfl, q _ _ _ _ _ g1 S1 h1⟩
  · exact h1.elim
theorem snd_tB {te : TE} {de : DTE} (h : SndE K te de) : SndT K (tB te) (dTest de) := fun S E Φ Q p q => h S E p fun v F1 H1 as1 x cs1 g1 S1 l1 h1 => by
  split at h1
  · rename_i b
    cases l1
    exact ⟨b, rfl, q _ _ _ _ _ g1 S1 h1⟩
  · exact h1.elim
theorem dt_val {e : Expr} {de : DTE} (h : DE X e de) (he : ∀ whole, isTrue e X.env whole = (do let v ← whole; standAt e.pos; holding [v] (truthy v)) := by intro _; rfl) : DT X e (dTest de) := by
  obtain ⟨te, a, b⟩ := h
  exact ⟨_, pt_val a he, snd_tB b⟩
theorem dt_cmp {op : CmpOp} {o : DR2} {a b : Expr} {da db : DTE} {pos : Pos} (ho : OpD X (compareOp op) o) (ha : DE X a da) (hb : DE X b db) (hm : behindInMarks op b = false) : DT X (.Compare a [op] [b] pos) (dTest (dBin o da db)) := by
  obtain ⟨r, h1, h2⟩ := ho
  obtain ⟨ta, a1, a2⟩ := ha
  obtain ⟨tb, b1, b2⟩ := hb
  exact ⟨_, pt_cmpR h1 a1 b1 hm, snd_test (snd_bin h2 a2 b2)⟩
/-- a < b < c -/
@[simp] def dChain (o o' : DR2) (ta tb tc : DTE) : DTE := fun ρ cs Φ => ta ρ cs fun x cs1 => tb ρ cs1 fun y cs2 => o x y cs2 fun z cs3 => match z with
  | .d (.bool k) => if k = true then tc ρ cs3 fun w cs4 => o' y w cs4 Φ else Φ (.d (.bool false)) cs3
  | _ => False
theorem snd_chain {r r' : R2} {o o' : DR2} {ta tb tc : TE} {da db dc : DTE} (ho : SndR K r o) (ho' : SndR K r' o') (ha : SndE K ta da) (hb : SndE K tb db) (hc : SndE K tc dc) : SndE K (tChain r r' ta tb tc) (dChain o o' da db dc) := fun S E Φ Q h q => by
  refine ha S E h fun v F1 H1 as1 x cs1 g1 S1 l1 h1 => ?_
  refine hb S1 (E.mono g1) h1 fun u F2 H2 as2 y cs2 g2 S2 l2 h2 => ?_
  refine ho S2 (l1.mono g2) l2 h2 fun z F3 H3 as3 r3 cs3 g3 S3 l3 h3 => ?_
  split at h3
  · rename_i k
    cases l3
    refine ⟨k, rfl, ?_⟩
    cases k with
    | true =>
      exact hc S3 (E.mono (g1.trans (g2.trans g3))) h3 fun w F4 H4 as4 r4 cs4 g4 S4 l4 h4 => ho' S4 (l2.mono (g3.trans g4)) l4 h4 (q.mono (g1.trans (g2.trans (g3.trans g4))))
    | false => exact (q.mono (g1.trans (g2.trans g3))).here S3 (.bl false) h3
  · exact h3.elim
theorem de_chain {op op' : CmpOp} {o o' : DR2} {a b c : Expr} {da db dc : DTE} {pos : Pos} (ho : OpD X (compareOp op) o) (ho' : OpD X (compareOp op') o') (ha : DE X a da) (hb : DE X b db) (hc : DE X c dc)
    (hm : lastMarks [op, op'] [b, c] = false) : DE X (.Compare a [op, op'] [b, c] pos) (dChain o o' da db dc) := by
  obtain ⟨r, h1, h2⟩ := ho
  obtain ⟨r', h1', h2'⟩ := ho'
  obtain ⟨ta, a1, a2⟩ := ha
  obtain ⟨tb, b1, b2⟩ := hb
  obtain ⟨tc, c1, c2⟩ := hc
  exact ⟨_, pe_chain h1 h1' a1 b1 c1 hm, snd_chain h2 h2' a2 b2 c2⟩
theorem dt_chain {op op' : CmpOp} {o o' : DR2} {a b c : Expr} {da db dc : DTE} {pos : Pos} (ho : OpD X (compareOp op) o) (ho' : OpD X (compareOp op') o') (ha : DE X a da) (hb : DE X b db) (hc : DE X c dc)
    (hm : lastMarks [op, op'] [b, c] = false := by rfl) : DT X (.Compare a [op, op'] [b, c] pos) (dTest (dChain o o' da db dc)) := by
  obtain ⟨r, h1, h2⟩ := ho
  obtain ⟨r', h1', h2'⟩ := ho'
  obtain ⟨ta, a1, a2⟩ := ha
  obtain ⟨tb, b1, b2⟩ := hb
  obtain ⟨tc, c1, c2⟩ := hc
  exact ⟨_, pt_chain h1 h1' a1 b1 c1 hm, snd_test (snd_chain h2 h2' a2 b2 c2)⟩
/-- and, or, not as tests -/
@[simp] def dAnd (t u : DTT) : DTT := fun ρ cs Φ => t ρ cs fun b cs1 => if b = true then u ρ cs1 Φ else Φ false cs1
@[simp] def dOr (t u : DTT) : DTT := fun ρ cs Φ => t ρ cs fun b cs1 => if b = true then Φ true cs1 else u ρ cs1 Φ
@[simp] def dNot (t : DTT) : DTT := fun ρ cs Φ => t ρ cs fun b cs1 => Φ (!b) cs1
theorem snd_and {t u : TT} {dt du : DTT} (h1 : SndT K t dt) (h2 : SndT K u du) : SndT K (tAnd t u) (dAnd dt du) := fun S E Φ Q p q => h1 S E p fun b F1 H1 as1 cs1 g1 S1 p1 => by
  cases b with
  | true => exact h2 S1 (E.mono g1) p1 (q.mono g1)
  | false => exact q false _ _ _ _ g1 S1 p1
theorem snd_or {t u : TT} {dt du : DTT} (h1 : SndT K t dt) (h2 : SndT K u du) : SndT K (tOr t u) (dOr dt du) := fun S E Φ Q p q => h1 S E p fun b F1 H1 as1 cs1 g1 S1 p1 => by
  cases b with
  | false => exact h2 S1 (E.mono g1) p1 (q.mono g1)
  | true => exact q true _ _ _ _ g1 S1 p1
theorem dw_and1 {a : Expr} {t : DTT} {pos : Pos} (h : DT X a t) : DW X (.BoolOp .And [a] pos) t := by
  obtain ⟨te, a, b⟩ := h
  exact ⟨_, pw_and1 a, b⟩
theorem dw_or1 {a : Expr} {t : DTT} {pos : Pos} (h : DT X a t) : DW X (.BoolOp .Or [a] pos) t := by
  obtain ⟨te, a, b⟩ := h
  exact ⟨_, pw_or1 a, b⟩
theorem dw_and {a b : Expr} {rest : List Expr} {t u : DTT} {pos : Pos} (h : DT X a t) (h2 : DW X (.BoolOp .And (b :: rest) pos) u) : DW X (.BoolOp .And (a :: b :: rest) pos) (dAnd t u) := by
  obtain ⟨te, a1, a2⟩ := h
  obtain ⟨ue, b1, b2⟩ := h2
  exact ⟨_, pw_and a1 b1, snd_and a2 b2⟩
theorem dw_or {a b : Expr} {rest : List Expr} {t u : DTT} {pos : Pos} (h : DT X a t) (h2 : DW X (.BoolOp .Or (b :: rest) pos) u) : DW X (.BoolOp .Or (a :: b :: rest) pos) (dOr t u) := by
  obtain ⟨te, a1, a2⟩ := h
  obtain ⟨ue, b1, b2⟩ := h2
  exact ⟨_, pw_or a1 b1, snd_or a2 b2⟩
theorem DW.dt {e : Expr} {t : DTT} (h : DW X e t) : DT X e t := by
  obtain ⟨te, a, b⟩ := h
  exact ⟨_, a.pt, b⟩
theorem dt_not {a : Expr} {t : DTT} {pos : Pos} (h : DT X a t) : DT X (.UnaryOp .Not a pos) (dNot t) := by
  obtain ⟨te, a1, a2⟩ := h
  exact ⟨_, pt_not a1, fun S E Φ Q p q => a2 S E p fun b F1 H1 as1 cs1 g1 S1 p1 => q _ _ _ _ _ g1 S1 p1⟩
/-- .. as values -/
@[simp] def dAndV (t u : DTE) : DTE := fun ρ cs Φ => t ρ cs fun r cs1 => match r with
  | .d (.bool b) => if b = true then u ρ cs1 Φ else Φ (.d (.bool false)) cs1
  | _ => False
@[simp] def dOrV (t u : DTE) : DTE := fun ρ cs Φ => t ρ cs fun r cs1 => match r with
  | .d (.bool b) => if b = true then Φ (.d (.bool true)) cs1 else u ρ cs1 Φ
  | _ => False
@[simp] def dNotV (t : DTE) : DTE := fun ρ cs Φ => t ρ cs fun r cs1 => match r with
  | .d (.bool b) => Φ (.d (.bool (!b))) cs1
  | _ => False
theorem de_one {op} {a : Expr} {t : DTE} {pos : Pos} (h : DE X a t) : DE X (.BoolOp op [a] pos) t := by
  obtain ⟨te, a1, a2⟩ := h
  exact ⟨_, pe_one a1, a2⟩
theorem de_and {a b : Expr} {rest : List Expr} {t u : DTE} {pos : Pos} (h : DE X a t) (h2 : DE X (.BoolOp .And (b :: rest) pos) u) : DE X (.BoolOp .And (a :: b :: rest) pos) (dAndV t u) := by
  obtain ⟨te, a1, a2⟩ := h
  obtain ⟨ue, b1, b2⟩ := h2
  refine ⟨_, pe_and a1 b1, fun S E Φ Q p q => a2 S E p fun v F1 H1 as1 r cs1 g1 S1 l1 p1 => ?_⟩
  split at p1
  · rename_i b
    cases l1
    refine ⟨b, rfl, ?_⟩
    cases b with
    | true => exact b2 S1 (E.mono g1) p1 (q.mono g1)
    | false => exact (q.mono g1).here S1 (.bl false) p1
  · exact p1.elim
theorem de_or {a b : Expr} {rest : List Expr} {t u : DTE} {pos : Pos} (h : DE X a t) (h2 : DE X (.BoolOp .Or (b :: rest) pos) u) : DE X (.BoolOp .Or (a :: b :: rest) pos) (dOrV t u) := by
  obtain ⟨te, a1, a2⟩ := h
  obtain ⟨ue, b1, b2⟩ := h2
  refine ⟨_, pe_or a1 b1, fun S E Φ Q p q => a2 S E p fun v F1 H1 as1 r cs1 g1 S1 l1 p1 => ?_⟩
  split at p1
  · rename_i b
    cases l1
    refine ⟨b, rfl, ?_⟩
    cases b with
    | false => exact b2 S1 (E.mono g1) p1 (q.mono g1)
    | true => exact (q.mono g1).here S1 (.bl true) p1
  · exact p1.elim
theorem de_not {a : Expr} {t : DTE} {pos : Pos} (h : DE X a t) : DE X (.UnaryOp .Not a pos) (dNotV t) := by
  obtain ⟨te, a1, a2⟩ := h
  refine ⟨_, pe_not a1, fun S E Φ Q p q => a2 S E p fun v F1 H1 as1 r cs1 g1 S1 l1 p1 => ?_⟩
  split at p1
  · rename_i b
    cases l1
    exact ⟨b, rfl, (q.mono g1).here S1 (.bl _) p1⟩
  · exact p1.elim
/-- a if t else b -/
@[simp] def dIfE (t : DTT) (u w : DTE) : DTE := fun ρ cs Φ => t ρ cs fun b cs1 => if b = true then u ρ cs1 Φ else w ρ cs1 Φ
theorem de_if {c a b : Expr} {t : DTT} {u w : DTE} {pos : Pos} (hc : DT X c t) (ha : DE X a u) (hb : DE X b w) : DE X (.IfExp c a b pos) (dIfE t u w) := by
  obtain ⟨tc, c1, c2⟩ := hc
  obtain ⟨te, a1, a2⟩ := ha
  obtain ⟨ue, b1, b2⟩ := hb
  refine ⟨_, pe_ifExp c1 a1 b1, fun S E Φ Q p q => c2 S E p fun b F1 H1 as1 cs1 g1 S1 p1 => ?_⟩
  cases b with
  | true => exact a2 S1 (E.mono g1) p1 (q.mono g1)
  | false => exact b2 S1 (E.mono g1) p1 (q.mono g1)

/-! ### argument lists, displays -/
@[simp] def dNil : DTA := fun _ cs Φ => Φ [] cs
@[simp] def dCons (t : DTE) (u : DTA) : DTA := fun ρ cs Φ => t ρ cs fun r cs1 => u ρ cs1 fun rs cs2 => Φ (r :: rs) cs2
theorem da_nil : DA X [] dNil := ⟨_, pa_nil, fun S E Φ Q p q => q _ _ _ _ _ _ rfl Le.refl S .nil p⟩
theorem da_cons {e : Expr} {es : List Expr} {t : DTE} {u : DTA} (h : DE X e t) (h2 : DA X es u) (hs : starEach (e :: es) X.env = (false, eval e X.env) :: starEach es X.env := by rfl) : DA X (e :: es) (dCons t u) := by
  obtain ⟨te, a1, a2⟩ := h
  obtain ⟨ue, b1, b2⟩ := h2
  exact ⟨_, pa_cons a1 b1 hs, fun S E Φ Q p q => a2 S E p fun v F1 H1 as1 r cs1 g1 S1 l1 p1 => b2 S1 (E.mono g1) p1 fun vs F2 H2 as2 rs cs2 hn g2 S2 l2 p2 => q _ _ _ _ _ _ (by rw [List.length_cons, List.length_cons, hn]) (g1.trans g2) S2 (.cons (l1.mono g2) l2) p2⟩
/-- all of them data -/
@[simp] def allD : List Loc → Option (List PyData)
  | [] => some []
  | .d x :: r => match allD r with
    | some ds => some (x :: ds)
    | none => none
  | _ :: _ => none
theorem allD_ok : ∀ {rs : List Loc} {vs : List V} {ds : List PyData}, Paired (LocOk K F as) vs rs → allD rs = some ds → RpAll K F vs ds
  | _, _, _, .nil, e => by
    cases e
    exact .nil
  | .d x :: r, _, _, .cons h t, e => by
    have e : (match allD r with | some ds => some (x :: ds) | none => none) = some _ := e
    split at e
    · rename_i q
      cases e
      exact .cons h (allD_ok t q)
    · cases e
  | .c _ :: _, _, _, .cons h t, e => by cases e
  | .s _ :: _, _, _, .cons h t, e => by cases e
@[simp] def dTup (t : DTA) : DTE := fun ρ cs Φ => t ρ cs fun rs cs1 => match allD rs with
  | some ds => Φ (.d (.tuple ds)) cs1
  | none => False
@[simp] def dLst (b : Bool) (t : DTA) : DTE := fun ρ cs Φ => t ρ cs fun rs cs1 => match allD rs with
  | some ds => newL b ds cs1 Φ
  | none => False
theorem de_tup {es : List Expr} {t : DTA} {x1} {pos : Pos} (h : DA X es t) (hn : es.length ≤ 1000 := by decide) : DE X (.Tuple es x1 pos) (dTup t) := by
  obtain ⟨te, a1, a2⟩ := h
  refine ⟨_, pe_tup a1, fun S E Φ Q p q => a2 S E p fun vs F1 H1 as1 rs cs1 hl g1 S1 l1 p1 => ?_⟩
  split at p1
  · rename_i ds e
    have r := allD_ok l1 e
    refine ⟨?_, newT_snd S1 r p1 (q.mono g1)⟩
    have := Paired.length l1
    exact Nat.le_trans (by omega) (show 1000 ≤ sizeLine by decide)
  · exact p1.elim
theorem de_lst (b : Bool) {es : List Expr} {t : DTA} {pos : Pos} (h : DA X es t) (hn : es.length ≤ 1000 := by decide) : DE X (.List es pos) (dLst b t) := by
  obtain ⟨te, a1, a2⟩ := h
  refine ⟨_, pe_lst a1, fun S E Φ Q p q => a2 S E p fun vs F1 H1 as1 rs cs1 hl g1 S1 l1 p1 => ?_⟩
  split at p1
  · rename_i ds e
    have r := allD_ok l1 e
    refine ⟨?_, newL_snd S1 r p1 (q.mono g1)⟩
    have := Paired.length l1
    exact Nat.le_trans (by omega) (show 1000 ≤ sizeLine by decide)
  · exact p1.elim
end
end DL

/-! DL4: subscripts, slices, built-in functions. -/
namespace DL
open PySem L2 PyProof.Rows

section
variable {X : Cx} {K : PySem.W.Frag} {fr : List (Addr × HO)} {F H : Hp} {as : List Addr} {cs : Cells} {σ : L2.St} {ρ : Env}

/-! ### dicts as data -/
def getK {κ α : Type} [DecidableEq κ] (kvs : List (κ × α)) (k : κ) : Option α := (kvs.find? fun p => decide (p.1 = k)).map Prod.snd
def putG {κ α : Type} [DecidableEq κ] (kvs : List (κ × α)) (k : κ) (v : α) : List (κ × α) :=
  if (kvs.any fun p => decide (p.1 = k)) = true then kvs.map (fun p => if p.1 = k then (p.1, v) else p) else kvs ++ [(k, v)]
mutual
def keyEq : PyData → PyData → Bool
  | .int a, .int b => decide (a = b)
  | .str a, .str b => decide (a = b)
  | .tuple as, .tuple bs => keyEqs as bs
  | _, _ => false
def keyEqs : List PyData → List PyData → Bool
  | [], [] => true
  | a :: as, b :: bs => keyEq a b && keyEqs as bs
  | _, _ => false
end
def getD (ds : List (PyData × PyData)) (k : PyData) : Option PyData := (ds.find? fun p => keyEq p.1 k).map Prod.snd
theorem keyEq_key (a b : Key) : keyEq (keyD a) (keyD b) = decide (a = b) := by
  cases a <;> cases b <;> simp [keyD, keyEq]
theorem keyEqs_keys : ∀ a b : List Key, keyEqs (a.map keyD) (b.map keyD) = decide (a = b)
  | [], [] => by simp [keyEqs]
  | [], _ :: _ => by simp [keyEqs]
  | _ :: _, [] => by simp [keyEqs]
  | a :: as, b :: bs => by
    rw [List.map_cons, List.map_cons, keyEqs, keyEq_key, keyEqs_keys as bs]
    simp
theorem RpKV.get {kvs : List (Key × V)} {ds : List (PyData × PyData)} (h : RpKV K F kvs ds) (k : Key) : (valV kvs k = none ∧ getD ds (keyD k) = none) ∨ ∃ v d, valV kvs k = some v ∧ getD ds (keyD k) = some d ∧ Rp K F v d := by
  match kvs, ds, h with
  | _, _, .nil => exact .inl ⟨rfl, rfl⟩
  | _, _, .cons (k := j) (v := v) (r := r) (d := d) (ds := es) a t =>
    by_cases e : j = k
    · refine .inr ⟨v, d, valV_pos e, ?_, a⟩
      simp [getD, List.find?_cons, keyEq_key, e]
    · have q1 : valV ((j, v) :: r) k = valV r k := valV_neg e
      have q2 : getD ((keyD j, d) :: es) (keyD k) = getD es (keyD k) := by simp [getD, List.find?_cons, keyEq_key, e]
      rw [q1, q2]
      exact RpKV.get t k
theorem RpTV.get {kvs : List (List Key × V)} {ds : List (PyData × PyData)} (h : RpTV K F kvs ds) (k : List Key) : (valV kvs k = none ∧ getD ds (.tuple (k.map keyD)) = none) ∨ ∃ v d, valV kvs k = some v ∧ getD ds (.tuple (k.map keyD)) = some d ∧ Rp K F v d := by
  match kvs, ds, h with
  | _, _, .nil => exact .inl ⟨rfl, rfl⟩
  | _, _, .cons (k := j) (v := v) (r := r) (d := d) (ds := es) a t =>
    by_cases e : j = k
    · refine .inr ⟨v, d, valV_pos e, ?_, a⟩
      simp [getD, List.find?_cons, keyEq, keyEqs_keys, e]
    · have q1 : valV ((j, v) :: r) k = valV r k := valV_neg e
      have q2 : getD ((.tuple (j.map keyD), d) :: es) (.tuple (k.map keyD)) = getD es (.tuple (k.map keyD)) := by simp [getD, List.find?_cons, keyEq, keyEqs_keys, e]
      rw [q1, q2]
      exact RpTV.get t k
theorem Paired.getV {κ : Type} [DecidableEq κ] {kvs : List (κ × V)} {es : List (κ × PyData)} (h : Paired (fun p q => p.1 = q.1 ∧ Rp K F p.2 q.2) kvs es) (k : κ) : (valV kvs k = none ∧ getK es k = none) ∨ ∃ v d, valV kvs k = some v ∧ getK es k = some d ∧ Rp K F v d := by
  induction h with
  | nil => exact .inl ⟨rfl, rfl⟩
  | @cons p q l₁ l₂ a t ih =>
    obtain ⟨e1, a⟩ := a
    by_cases e : p.1 = k
    · refine .inr ⟨p.2, q.2, valV_pos e, ?_, a⟩
      have : q.1 = k := e1.symm.trans e
      simp [getK, List.find?_cons, this]
    · have q1 : valV (p :: l₁) k = valV l₁ k := valV_neg e
      have ne : ¬ q.1 = k := fun z => e (e1.trans z)
      have q2 : getK (q :: l₂) k = getK l₂ k := by simp [getK, List.find?_cons, ne]
      rw [q1, q2]
      exact ih
/-- a key as data -/
def keyOf : PyData → Option Key
  | .int i => some (.inl i)
  | .str x => some (.inr x)
  | _ => none
def keysOf : List PyData → Option (List Key)
  | [] => some []
  | d :: ds => match keyOf d, keysOf ds with
    | some k, some ks => some (k :: ks)
    | _, _ => none
theorem keyOf_ok {d : PyData} {k : Key} (h : keyOf d = some k) : d = keyD k := by
  cases d <;> cases h <;> rfl
theorem keysOf_ok : ∀ {ds : List PyData} {ks : List Key}, keysOf ds = some ks → ds = ks.map keyD
  | [], _, h => by
    cases h
    rfl
  | d :: ds, ks, h => by
    unfold keysOf at h
    split at h
    · rename_i k ks' e1 e2
      cases h
      rw [keyOf_ok e1, keysOf_ok e2]
      rfl
    · cases h
theorem rp_key {v : V} {k : Key} (h : Rp K F v (keyD k)) : v = kV k := by
  cases k <;> cases h <;> rfl
theorem rp_keys : ∀ {ks : List Key} {vs : List V}, RpAll K F vs (ks.map keyD) → vs = ks.map kV
  | [], _, h => by
    cases h
    rfl
  | k :: ks, _, h => by
    cases h with
    | cons a r =>
      rw [rp_key a, rp_keys r]
      rfl
/-- what a dict holds at a key: none at all where it is no dict with such keys (a dict with tuple keys is told by an entry (none, none) ahead) -/
def hasMark : List (PyData × PyData) → Bool
  | (.none, .none) :: _ => true
  | _ => false
def dicGet : Loc → Loc → Cells → Option (Option PyData)
  | .d (.dict ds), .d k, _ => match keyOf k with
    | some _ => if hasMark ds then none else some (getD ds k)
    | none => match k with
      | .tuple es => match keysOf es with
        | some _ => if hasMark ds then some (getD ds k) else none
        | none => none
      | _ => none
  | .c i, .d k, cs => match cs[i]? with
    | some (.dk kvs) => match keyOf k with
      | some k => some (getK kvs k)
      | none => none
    | some (.dt kvs) => match k with
      | .tuple es => match keysOf es with
        | some ks => some (getK kvs ks)
        | none => none
      | _ => none
    | _ => none
  | _, _, _ => none
def OptRp (K : PySem.W.Frag) (F : Hp) : Option V → Option PyData → Prop
  | none, none => True
  | some v, some d => Rp K F v d
  | _, _ => False
theorem hasMark_kv {kvs : List (Key × V)} {ds : List (PyData × PyData)} (h : RpKV K F kvs ds) : hasMark ds = false := by
  cases h with
  | nil => rfl
  | @cons k v r d ds a t => cases k <;> rfl
theorem dicGet_ok {x y : Loc} {v u : V} {o : Option PyData} (S : Stt K fr F H as cs) (l1 : LocOk K F as v x) (l2 : LocOk K F as u y) (h : dicGet x y cs = some o) : ∃ a ov, v = .ref a ∧ DGet H a u ov ∧ OptRp K F ov o := by
  unfold dicGet at h
  split at h
  · rename_i ds k
    have l1 : Rp K F v (.dict ds) := l1
    have l2 : Rp K F u k := l2
    split at h
    · rename_i key e
      split at h
      · cases h
      · rename_i nm
        cases h
        have ek := keyOf_ok e
        subst ek
        rw [rp_key l2]
        cases l1 with
        | dk a1 a2 =>
          rcases RpKV.get a2 key with ⟨q1, q2⟩ | ⟨w, d, q1, q2, q3⟩
          · exact ⟨_, _, rfl, .inl ⟨_, key, S.ext.rd rfl a1, rfl, rfl⟩, by rw [q1, q2]; trivial⟩
          · exact ⟨_, _, rfl, .inl ⟨_, key, S.ext.rd rfl a1, rfl, rfl⟩, by rw [q1, q2]; exact q3⟩
        | dt a1 a2 => exact absurd rfl nm
    · split at h
      · rename_i es
        split at h
        · rename_i ks e
          split at h
          · rename_i hm
            cases h
            have ek := keysOf_ok e
            subst ek
            cases l2 with
            | tup b1 b2 =>
              rw [rp_keys b2] at b1
              cases l1 with
              | dk a1 a2 =>
                rw [hasMark_kv a2] at hm
                cases hm
              | dt a1 a2 =>
                have q0 : ∀ (ds : List (PyData × PyData)) (k : PyData), getD ((.none, .none) :: ds) k = getD ds k := fun ds k => by cases k <;> simp [getD, List.find?_cons, keyEq]
                rw [q0]
                rcases RpTV.get a2 ks with ⟨q1, q2⟩ | ⟨w, d, q1, q2, q3⟩
                · exact ⟨_, _, rfl, .inr ⟨_, ks, _, S.ext.rd rfl a1, rfl, S.ext.exact b1 rfl, rfl⟩, by rw [q1, q2]; trivial⟩
                · exact ⟨_, _, rfl, .inr ⟨_, ks, _, S.ext.rd rfl a1, rfl, S.ext.exact b1 rfl, rfl⟩, by rw [q1, q2]; exact q3⟩
          · cases h
        · cases h
      · cases h
  · rename_i i k
    have l2 : Rp K F u k := l2
    obtain ⟨a, ea, rfl⟩ := l1
    split at h
    · rename_i kvs e
      obtain ⟨b, eb, ok⟩ := S.at e
      rw [ea] at eb
      cases eb
      obtain ⟨_, vs, q, r⟩ := ok
      split at h
      · rename_i key ek
        cases h
        have ek := keyOf_ok ek
        subst ek
        rw [rp_key l2]
        rcases Paired.getV r key with ⟨q1, q2⟩ | ⟨w, d, q1, q2, q3⟩
        · exact ⟨_, _, rfl, .inl ⟨_, key, .inl q, rfl, rfl⟩, by rw [q1, q2]; trivial⟩
        · exact ⟨_, _, rfl, .inl ⟨_, key, .inl q, rfl, rfl⟩, by rw [q1, q2]; exact q3⟩
      · cases h
    · rename_i kvs e
      obtain ⟨b, eb, ok⟩ := S.at e
      rw [ea] at eb
      cases eb
      obtain ⟨_, vs, q, r⟩ := ok
      split at h
      · rename_i es
        split at h
        · rename_i ks e2
          cases h
          have ek := keysOf_ok e2
          subst ek
          cases l2 with
          | tup b1 b2 =>
            rw [rp_keys b2] at b1
            rcases Paired.getV r ks with ⟨q1, q2⟩ | ⟨w, d, q1, q2, q3⟩
            · exact ⟨_, _, rfl, .inr ⟨_, ks, _, .inl q, rfl, S.ext.exact b1 rfl, rfl⟩, by rw [q1, q2]; trivial⟩
            · exact ⟨_, _, rfl, .inr ⟨_, ks, _, .inl q, rfl, S.ext.exact b1 rfl, rfl⟩, by rw [q1, q2]; exact q3⟩
        · cases h
      · cases h
    · cases h
  · cases h

/-! ### subscripts -/
@[simp] def oIx : DR2 := fun x y cs Φ => match y, seqOf x cs with
  | .d (.int k), some ds => ∃ d, atI ds k = some d ∧ Φ (.d d) cs
  | y, _ => match dicGet x y cs with
    | some o => ∃ d, o = some d ∧ Φ (.d d) cs
    | none => False
def rIxU (K : PySem.W.Frag) : R2 := fun x y H Q => (rIxL K x y H Q ∨ rIxT K x y H Q) ∨ ∃ a v, x = .ref a ∧ DGet H a y (some v) ∧ Q v H
theorem ix_dic (hu : X.A.units + 1 < cLine) : IxR X (fun x y H Q => ∃ a v, x = .ref a ∧ DGet H a y (some v) ∧ Q v H) := by
  intro value slice pins s σ H x y v u Q I rx ry h hs
  obtain ⟨a, w, rfl, g, q⟩ := h
  cases rx
  have ty : s.TypeIs (.ref a) "dict" := dict_typeIs I g
  have got : wpAny (model X.prog X.w) X.A (getItem (.ref a) u) (EP X pins σ Q) X.xe s := d_getItem hu I g ry fun z t I2 r2 => ⟨w, H, I2, r2, q⟩
  unfold subscriptTail
  refine wpAny_bind ?_
  rw [getitemInPython_of_ne ty.not_modules]
  refine wpAny_bind (wpAny_specialOf ty PySem.F.slot_dict_getitem.lookup ?_)
  have done : wpAny (model X.prog X.w) X.A (subscripted slice false (.ref a) u) (fun r t => wpAny (model X.prog X.w) X.A (letTemporaryGo value (.ref a) r >>= fun _ => pure r) (EP X pins σ Q) X.xe t) X.xe s := by
    rw [hs]
    exact wpAny_operating (thn got fun r t k => wpAny_bind (wpAny_letTemporaryGo (wpAny_pure k)))
  first
    | exact wpAny_pure (wpAny_bind done)
    | exact wpAny_bind (wpAny_pure (wpAny_bind done))
    | exact wpAny_bind done
theorem OptRp.some {ov : Option V} {d : PyData} (h : OptRp K F ov (some d)) : ∃ v, ov = some v ∧ Rp K F v d := by
  cases ov with
  | none => exact h.elim
  | some v => exact ⟨v, rfl, h⟩
theorem atI_rp {vs : List V} {ds : List PyData} {k : Int} {d : PyData} (r : RpAll K F vs ds) (h : atI ds k = some d) : ∃ v, atI vs k = some v ∧ Rp K F v d := by
  unfold atI at h ⊢
  rw [r.length]
  cases e : ixN ds.length k with
  | none =>
    rw [e] at h
    cases h
  | some j =>
    rw [e] at h
    obtain ⟨v, h1, h2⟩ := r.get (show ds[j]? = some d from h)
    exact ⟨v, h1, h2⟩
theorem snd_ix : SndR K (rIxU K) oIx := fun {fr F H as cs v u x y} S l1 l2 Φ Q h q => by
  unfold oIx at h
  split at h
  · rename_i k ds e
    obtain ⟨d, h1, h2⟩ := h
    cases l2
    obtain ⟨a, vs, rfl, sq, r⟩ := seqOf_ok S l1 e
    obtain ⟨w, h3, h4⟩ := atI_rp r h1
    rcases sq with sq | sq
    · exact .inl (.inl ⟨a, vs, k, w, rfl, rfl, sq, h3, q.here S h4 h2⟩)
    · exact .inl (.inr ⟨a, vs, k, w, rfl, rfl, sq, h3, q.here S h4 h2⟩)
  · split at h
    · rename_i o e
      obtain ⟨d, rfl, h2⟩ := h
      obtain ⟨a, ov, rfl, g, r⟩ := dicGet_ok S l1 l2 e
      obtain ⟨w, rfl, r⟩ := r.some
      exact .inr ⟨a, w, rfl, g, q.here S r h2⟩
    · exact h.elim
theorem de_ix (hu : X.A.units + 1 < cLine) {a b : Expr} {da db : DTE} {pos : Pos} (ha : DE X a da) (hb : DE X b db) (hs : PlainIx b := by exact fun _ _ => rfl) : DE X (.Subscript a b pos) (dBin oIx da db) := by
  obtain ⟨ta, a1, a2⟩ := ha
  obtain ⟨tb, b1, b2⟩ := hb
  exact ⟨_, pe_ix ((ix_list.or ix_tup).or (ix_dic hu)) a1 b1 hs, snd_bin snd_ix a2 b2⟩

/-! ### slices -/
abbrev DTO := Env → Cells → (Option Int → Cells → Prop) → Prop
def SndO (K : PySem.W.Frag) (to : TO) (d : DTO) : Prop := ∀ {fr σ F H as ρ cs}, Stt K fr F H as cs → EnvOk K F as σ ρ → ∀ {Φ : Option Int → Cells → Prop} {Q : Option Int → Hp → Prop}, d ρ cs Φ → (∀ o F' H' as' cs', Le F as F' as' → Stt K fr F' H' as' cs' → Φ o cs' → Q o H') → to σ H Q
structure DO (X : Cx) (e : Option Expr) (d : DTO) : Prop where
  ex : ∃ to, PO X e to ∧ SndO X.K to d
@[simp] def dNoPart : DTO := fun _ cs Φ => Φ none cs
@[simp] def dPart (t : DTE) : DTO := fun ρ cs Φ => t ρ cs fun r cs1 => match r with
  | .d (.int i) => Φ (some i) cs1
  | _ => False
theorem do_none : DO X none dNoPart := ⟨_, po_none, fun S E Φ Q p q => q _ _ _ _ _ Le.refl S p⟩
theorem do_some {e : Expr} {t : DTE} (h : DE X e t) : DO X (some e) (dPart t) := by
  obtain ⟨te, a, b⟩ := h
  refine ⟨_, po_some a, fun S E Φ Q p q => b S E p fun v F1 H1 as1 r cs1 g1 S1 l1 p1 => ?_⟩
  split at p1
  · rename_i i
    cases l1
    exact ⟨i, rfl, q _ _ _ _ _ g1 S1 p1⟩
  · exact p1.elim
def cutG {α : Type} (xs : List α) (lo hi : Option Int) : List α := (xs.drop (HT.sIx xs.length 0 lo)).take (HT.sIx xs.length xs.length hi - HT.sIx xs.length 0 lo)
theorem cut_rp {vs : List V} {ds : List PyData} {lo hi : Option Int} (r : RpAll K F vs ds) : RpAll K F (cutV vs lo hi) (cutG ds lo hi) := by
  unfold cutV cutG
  rw [r.length]
  exact (r.drop _).take _
/-- x[lo:hi] -/
@[simp] def dSl (b : Bool) (t : DTE) (tl th : DTO) : DTE := fun ρ cs Φ => t ρ cs fun x cs1 => tl ρ cs1 fun lo cs2 => th ρ cs2 fun hi cs3 => match x with
  | .d (.tuple ds) => Φ (.d (.tuple (cutG ds lo hi))) cs3
  | .s ns => newL b ((cutG ns lo hi).map .int) cs3 Φ
  | x => match lstOf x cs3 with
    | some ds => newL b (cutG ds lo hi) cs3 Φ
    | none => False
theorem cut_whole {α : Type} {xs : List α} {lo hi : Option Int} (h : HT.sIx xs.length 0 lo = 0 ∧ HT.sIx xs.length xs.length hi = xs.length) : cutG xs lo hi = xs := by
  unfold cutG
  rw [h.1, h.2]
  simp
theorem cut_map {α β : Type} (f : α → β) (xs : List α) (lo hi : Option Int) : cutG (xs.map f) lo hi = (cutG xs lo hi).map f := by
  unfold cutG
  rw [List.length_map, List.map_take, List.map_drop]
theorem de_sl (b : Bool) {e : Expr} {lo hi : Option Expr} {t : DTE} {tl th : DTO} {p2 pos : Pos} (he : DE X e t) (hl : DO X lo tl) (hh : DO X hi th) : DE X (.Subscript e (.Slice lo hi none p2) pos) (dSl b t tl th) := by
  obtain ⟨te, a1, a2⟩ := he
  obtain ⟨ul, b1, b2⟩ := hl
  obtain ⟨uh, c1, c2⟩ := hh
  refine ⟨_, pe_slice (sl_list.or sl_tupA) a1 b1 c1, fun S E Φ Q p q => a2 S E p fun v F1 H1 as1 x cs1 g1 S1 l1 p1 => b2 S1 (E.mono g1) p1 fun lo F2 H2 as2 cs2 g2 S2 p2 => c2 S2 (E.mono (g1.trans g2)) p2 fun hi F3 H3 as3 cs3 g3 S3 p3 => ?_⟩
  have l3 := l1.mono (g2.trans g3)
  have q3 := q.mono (g1.trans (g2.trans g3))
  split at p3
  · rename_i ds
    cases l3 with
    | tup h1 h2 =>
      have ht := SqT.of (K := X.K) (S3.ext.exact h1 rfl)
      refine .inr ⟨_, _, rfl, ht, fun w => ?_, fun _ => newT_snd S3 (cut_rp h2) p3 q3⟩
      rw [h2.length] at w
      rw [cut_whole w] at p3
      exact q3.here S3 (.tup h1 h2) p3
  · rename_i ns
    obtain ⟨a, rfl, hs⟩ := l3
    refine .inl ⟨a, _, rfl, S3.ext.seqL hs, newL_snd S3 ?_ p3 q3⟩
    have : cutV (ns.map V.int) lo hi = (cutG ns lo hi).map V.int := cut_map V.int ns lo hi
    rw [this]
    exact RpAll.of_ints _
  · split at p3
    · rename_i ds e
      obtain ⟨a, vs, rfl, ha, r⟩ := lstOf_ok S3 l3 e
      exact .inl ⟨a, vs, rfl, SqL.of ha, newL_snd S3 (cut_rp r) p3 q3⟩
    · exact p3.elim

/-! ### built-in functions -/
abbrev DRC := List Loc → Cells → EK → Prop
def SndC (K : PySem.W.Frag) (r : List V → Hp → VK → Prop) (o : DRC) : Prop := ∀ {fr F H as cs vs rs}, Stt K fr F H as cs → Paired (LocOk K F as) vs rs → ∀ {Φ : EK} {Q : VK}, o rs cs Φ → PostE K fr F as Φ Q → r vs H Q
structure CallD (X : Cx) (f : Value) (o : DRC) : Prop where
  ex : ∃ r, CallR X f r ∧ SndC X.K r o
@[simp] def dCB (o : DRC) (t : DTA) : DTE := fun ρ cs Φ => t ρ cs fun rs cs1 => o rs cs1 Φ
theorem de_callB {x : Str} {p pos : Pos} {e : Expr} {es : List Expr} {t : DTA} {id : String} {o : DRC} (hc : CallD X (.builtin id) o) (hg : Gl X x) (hm : X.mg x = none) (hv : bootBuiltins x = some (.builtin id)) (ha : DA X (e :: es) t) (hn : x ≠ "__name__" := by decide) (hdb : (x == ("__debug__" : Str)) = false := by decide)
    (he : starEach (e :: es) X.env = (false, eval e X.env) :: starEach es X.env := by rfl) (hpl : (backTo pos (starEach es X.env)).any (·.1) = false := by rfl) : DE X (.Call (.Name x p) (e :: es) [] pos) (dCB o t) := by
  obtain ⟨r, h1, h2⟩ := hc
  obtain ⟨ta, a1, a2⟩ := ha
  exact ⟨_, pe_callB h1 hg hm hv a1 hn hdb he hpl, fun S E Φ Q p q => a2 S E p fun vs F1 H1 as1 rs cs1 _ g1 S1 l1 p1 => h2 S1 l1 p1 (q.mono g1)⟩
theorem de_callTy {x : Str} {p pos : Pos} {e : Expr} {es : List Expr} {t : DTA} {T : String} {o : DRC} (hc : CallD X (.type T) o) (hg : Gl X x) (hm : X.mg x = none) (hv : bootBuiltins x = some (.type T)) (ha : DA X (e :: es) t) (hn : x ≠ "__name__" := by decide) (hdb : (x == ("__debug__" : Str)) = false := by decide)
    (he : starEach (e :: es) X.env = (false, eval e X.env) :: starEach es X.env := by rfl) (hpl : (backTo pos (starEach es X.env)).any (·.1) = false := by rfl) : DE X (.Call (.Name x p) (e :: es) [] pos) (dCB o t) := by
  obtain ⟨r, h1, h2⟩ := hc
  obtain ⟨ta, a1, a2⟩ := ha
  exact ⟨_, pe_callTy h1 hg hm hv a1 hn hdb he hpl, fun S E Φ Q p q => a2 S E p fun vs F1 H1 as1 rs cs1 _ g1 S1 l1 p1 => h2 S1 l1 p1 (q.mono g1)⟩
theorem pair1 {R : V → Loc → Prop} {vs : List V} {x : Loc} (h : Paired R vs [x]) : ∃ v, vs = [v] ∧ R v x := by
  cases h with
  | cons a t =>
    cases t
    exact ⟨_, rfl, a⟩
theorem pair2 {R : V → Loc → Prop} {vs : List V} {x y : Loc} (h : Paired R vs [x, y]) : ∃ v u, vs = [v, u] ∧ R v x ∧ R u y := by
  cases h with
  | cons a t =>
    cases t with
    | cons b t =>
      cases t
      exact ⟨_, _, rfl, a, b⟩
/-- len -/
@[simp] def oLen : DRC := fun rs cs Φ => match rs with
  | [x] => (match seqOf x cs with
    | some ds => Φ (.d (.int ds.length)) cs
    | none => match x with
      | .d (.str z) => z.length ≤ sizeLine ∧ Φ (.d (.int z.length)) cs
      | _ => False)
  | _ => False
theorem do_len : CallD X (.builtin "len") oLen := ⟨_, call_len_seq.or call_len_str, fun S l Φ Q h q => by
  unfold oLen at h
  split at h
  · rename_i x
    obtain ⟨v, rfl, l1⟩ := pair1 l
    split at h
    · rename_i ds e
      obtain ⟨a, vs, rfl, sq, r⟩ := seqOf_ok S l1 e
      refine .inl ⟨a, vs, rfl, sq, ?_⟩
      rw [r.length]
      exact q.here S (.int _) h
    · split at h
      · cases l1
        exact .inr ⟨_, rfl, h.1, q.here S (.int _) h.2⟩
      · exact h.elim
  · exact h.elim⟩
/-- len of a dict that is owned or frozen -/
@[simp] def oAbs : DRC := fun rs cs Φ => match rs with
  | [.d (.int i)] => Φ (.d (.int (if i < 0 then -i else i))) cs
  | _ => False
theorem do_abs : CallD X (.builtin "abs") oAbs := ⟨_, call_abs, fun S l Φ Q h q => by
  unfold oAbs at h
  split at h
  · obtain ⟨v, rfl, l1⟩ := pair1 l
    cases l1
    exact ⟨_, rfl, q.here S (.int _) h⟩
  · exact h.elim⟩
@[simp] def oInt : DRC := fun rs cs Φ => match rs with
  | [.d (.int i)] => Φ (.d (.int i)) cs
  | [.d (.bool b)] => Φ (.d (.int (if b then 1 else 0))) cs
  | _ => False
theorem do_int : CallD X (.type "int") oInt := ⟨_, call_int1, fun S l Φ Q h q => by
  unfold oInt at h
  split at h
  · obtain ⟨v, rfl, l1⟩ := pair1 l
    cases l1
    exact .inl ⟨_, rfl, q.here S (.int _) h⟩
  · obtain ⟨v, rfl, l1⟩ := pair1 l
    cases l1
    exact .inr ⟨_, rfl, q.here S (.int _) h⟩
  · exact h.elim⟩
/-- max, min of two ints -/
@[simp] def oMax2 : DRC := fun rs cs Φ => match rs with
  | [.d (.int i), .d (.int j)] => Φ (.d (.int (max i j))) cs
  | _ => False
@[simp] def oMin2 : DRC := fun rs cs Φ => match rs with
  | [.d (.int i), .d (.int j)] => Φ (.d (.int (min i j))) cs
  | _ => False
theorem do_max2 (hc : X.calm = true) : CallD X (.builtin "max") oMax2 := ⟨_, call_max2 hc, fun S l Φ Q h q => by
  unfold oMax2 at h
  split at h
  · rename_i i j
    obtain ⟨v, u, rfl, l1, l2⟩ := pair2 l
    cases l1
    cases l2
    refine ⟨_, _, rfl, ?_⟩
    rw [show (if j > i then j else i) = max i j by omega]
    exact q.here S (.int _) h
  · exact h.elim⟩
theorem do_min2 (hc : X.calm = true) : CallD X (.builtin "min") oMin2 := ⟨_, call_min2 hc, fun S l Φ Q h q => by
  unfold oMin2 at h
  split at h
  · rename_i i j
    obtain ⟨v, u, rfl, l1, l2⟩ := pair2 l
    cases l1
    cases l2
    refine ⟨_, _, rfl, ?_⟩
    rw [show (if j < i then j else i) = min i j by omega]
    exact q.here S (.int _) h
  · exact h.elim⟩
/-- a list of ints: its sum, greatest, least -/
theorem ints_ok {x : Loc} {v : V} {ns : List Int} (S : Stt K fr F H as cs) (l : LocOk K F as v x) (h : lstOf x cs = some (ns.map .int)) : ∃ a, v = .ref a ∧ SqL K H a (ns.map V.int) := by
  obtain ⟨a, vs, rfl, ha, r⟩ := lstOf_ok S l h
  rw [r.ints] at ha
  exact ⟨a, rfl, SqL.of ha⟩
def oSum : DRC := fun rs cs Φ => match rs with
  | [x] => ∃ ns : List Int, lstOf x cs = some (ns.map .int) ∧ Φ (.d (.int ns.sum)) cs
  | _ => False
theorem do_sum (hc : X.calm = true) : CallD X (.builtin "sum") oSum := ⟨_, cr_sum hc, fun S l Φ Q h q => by
  unfold oSum at h
  split at h
  · obtain ⟨v, rfl, l1⟩ := pair1 l
    obtain ⟨ns, e, h⟩ := h
    obtain ⟨a, rfl, ha⟩ := ints_ok S l1 e
    exact ⟨a, ns, rfl, ha, q.here S (.int _) h⟩
  · exact h.elim⟩
def maxL : List Int → Int
  | [] => 0
  | x :: xs => xs.foldl max x
def minL : List Int → Int
  | [] => 0
  | x :: xs => xs.foldl min x
theorem foldl_max_ge : ∀ (xs : List Int) (x : Int), x ≤ xs.foldl max x ∧ (∀ y ∈ xs, y ≤ xs.foldl max x) ∧ (xs.foldl max x = x ∨ xs.foldl max x ∈ xs)
  | [], x => ⟨Int.le_refl _, fun _ h => (nomatch h), .inl rfl⟩
  | y :: ys, x => by
    obtain ⟨h1, h2, h3⟩ := foldl_max_ge ys (max x y)
    rw [List.foldl_cons]
    refine ⟨by omega, fun z hz => ?_, ?_⟩
    · rcases List.mem_cons.mp hz with rfl | hz
      · omega
      · exact h2 z hz
    · rcases h3 with h3 | h3
      · by_cases c : x ≤ y
        · exact .inr (List.mem_cons.mpr (.inl (by omega)))
        · exact .inl (by omega)
      · exact .inr (List.mem_cons_of_mem _ h3)
theorem foldl_min_le : ∀ (xs : List Int) (x : Int), xs.foldl min x ≤ x ∧ (∀ y ∈ xs, xs.foldl min x ≤ y) ∧ (xs.foldl min x = x ∨ xs.foldl min x ∈ xs)
  | [], x => ⟨Int.le_refl _, fun _ h => (nomatch h), .inl rfl⟩
  | y :: ys, x => by
    obtain ⟨h1, h2, h3⟩ := foldl_min_le ys (min x y)
    rw [List.foldl_cons]
    refine ⟨by omega, fun z hz => ?_, ?_⟩
    · rcases List.mem_cons.mp hz with rfl | hz
      · omega
      · exact h2 z hz
    · rcases h3 with h3 | h3
      · by_cases c : y ≤ x
        · exact .inr (List.mem_cons.mpr (.inl (by omega)))
        · exact .inl (by omega)
      · exact .inr (List.mem_cons_of_mem _ h3)
theorem maxL_mem {ns : List Int} (h : ns ≠ []) : maxL ns ∈ ns := by
  cases ns with
  | nil => exact absurd rfl h
  | cons x xs =>
    rcases (foldl_max_ge xs x).2.2 with e | e
    · exact List.mem_cons.mpr (.inl e)
    · exact List.mem_cons_of_mem _ e
theorem maxL_ge {ns : List Int} {y : Int} (h : y ∈ ns) : y ≤ maxL ns := by
  cases ns with
  | nil => cases h
  | cons x xs =>
    rcases List.mem_cons.mp h with rfl | h
    · exact (foldl_max_ge xs _).1
    · exact (foldl_max_ge xs x).2.1 y h
theorem minL_mem {ns : List Int} (h : ns ≠ []) : minL ns ∈ ns := by
  cases ns with
  | nil => exact absurd rfl h
  | cons x xs =>
    rcases (foldl_min_le xs x).2.2 with e | e
    · exact List.mem_cons.mpr (.inl e)
    · exact List.mem_cons_of_mem _ e
theorem minL_le {ns : List Int} {y : Int} (h : y ∈ ns) : minL ns ≤ y := by
  cases ns with
  | nil => cases h
  | cons x xs =>
    rcases List.mem_cons.mp h with rfl | h
    · exact (foldl_min_le xs _).1
    · exact (foldl_min_le xs x).2.1 y h
def oMaxL : DRC := fun rs cs Φ => match rs with
  | [x] => ∃ ns : List Int, lstOf x cs = some (ns.map .int) ∧ ns ≠ [] ∧ Φ (.d (.int (maxL ns))) cs
  | _ => False
theorem do_maxL (hc : X.calm = true) : CallD X (.builtin "max") oMaxL := ⟨_, cr_max hc, fun S l Φ Q h q => by
  unfold oMaxL at h
  split at h
  · obtain ⟨v, rfl, l1⟩ := pair1 l
    obtain ⟨ns, e, ne, h⟩ := h
    obtain ⟨a, rfl, ha⟩ := ints_ok S l1 e
    refine ⟨a, ns, rfl, ha, List.length_pos_iff.mpr ne, fun m hm hle => ?_⟩
    have e : m = maxL ns := Int.le_antisymm (maxL_ge hm) (hle _ (maxL_mem ne))
    subst e
    exact q.here S (.int _) h
  · exact h.elim⟩
def oMinL : DRC := fun rs cs Φ => match rs with
  | [x] => ∃ ns : List Int, lstOf x cs = some (ns.map .int) ∧ ns ≠ [] ∧ Φ (.d (.int (minL ns))) cs
  | _ => False
theorem do_minL (hc : X.calm = true) : CallD X (.builtin "min") oMinL := ⟨_, cr_min hc, fun S l Φ Q h q => by
  unfold oMinL at h
  split at h
  · obtain ⟨v, rfl, l1⟩ := pair1 l
    obtain ⟨ns, e, ne, h⟩ := h
    obtain ⟨a, rfl, ha⟩ := ints_ok S l1 e
    refine ⟨a, ns, rfl, ha, List.length_pos_iff.mpr ne, fun m hm hle => ?_⟩
    have e : m = minL ns := Int.le_antisymm (hle _ (minL_mem ne)) (minL_le hm)
    subst e
    exact q.here S (.int _) h
  · exact h.elim⟩
/-- all, any of a list of truth values -/
theorem bls_ok {x : Loc} {v : V} {bs : List Bool} (S : Stt K fr F H as cs) (l : LocOk K F as v x) (h : lstOf x cs = some (bs.map .bool)) : ∃ a, v = .ref a ∧ SqL K H a (bs.map V.bl) := by
  obtain ⟨a, vs, rfl, ha, r⟩ := lstOf_ok S l h
  rw [r.bools] at ha
  exact ⟨a, rfl, SqL.of ha⟩
def oAll : DRC := fun rs cs Φ => match rs with
  | [x] => ∃ bs : List Bool, lstOf x cs = some (bs.map .bool) ∧ Φ (.d (.bool (bs.all id))) cs
  | _ => False
def oAny : DRC := fun rs cs Φ => match rs with
  | [x] => ∃ bs : List Bool, lstOf x cs = some (bs.map .bool) ∧ Φ (.d (.bool (bs.any id))) cs
  | _ => False
theorem do_all (hc : X.calm = true) : CallD X (.builtin "all") oAll := ⟨_, cr_all hc, fun S l Φ Q h q => by
  unfold oAll at h
  split at h
  · obtain ⟨v, rfl, l1⟩ := pair1 l
    obtain ⟨ns, e, h⟩ := h
    obtain ⟨a, rfl, ha⟩ := bls_ok S l1 e
    exact ⟨a, ns, rfl, ha, q.here S (.bl _) h⟩
  · exact h.elim⟩
theorem do_any (hc : X.calm = true) : CallD X (.builtin "any") oAny := ⟨_, cr_any hc, fun S l Φ Q h q => by
  unfold oAny at h
  split at h
  · obtain ⟨v, rfl, l1⟩ := pair1 l
    obtain ⟨ns, e, h⟩ := h
    obtain ⟨a, rfl, ha⟩ := bls_ok S l1 e
    exact ⟨a, ns, rfl, ha, q.here S (.bl _) h⟩
  · exact h.elim⟩
/-- list(xs), tuple(xs) -/
@[simp] def oList (b : Bool) : DRC := fun rs cs Φ => match rs with
  | [x] => (match seqOf x cs with
    | some ds => newL b ds cs Φ
    | none => False)
  | _ => False
theorem do_list (b : Bool) : CallD X (.type "list") (oList b) := ⟨_, call_list_of, fun S l Φ Q h q => by
  unfold oList at h
  split at h
  · obtain ⟨v, rfl, l1⟩ := pair1 l
    split at h
    · rename_i ds e
      obtain ⟨a, vs, rfl, sq, r⟩ := seqOf_ok S l1 e
      exact ⟨a, vs, rfl, sq, newL_snd S r h q⟩
    · exact h.elim
  · exact h.elim⟩
@[simp] def oTuple : DRC := fun rs cs Φ => match rs with
  | [x] => (match seqOf x cs with
    | some ds => Φ (.d (.tuple ds)) cs
    | none => False)
  | _ => False
theorem do_tuple : CallD X (.type "tuple") oTuple := ⟨_, call_tuple_of, fun S l Φ Q h q => by
  unfold oTuple at h
  split at h
  · rename_i x
    obtain ⟨v, rfl, l1⟩ := pair1 l
    split at h
    · rename_i ds e
      cases x with
      | d x =>
        cases x <;> try cases e
        · cases l1 with
          | lst a1 a2 => exact ⟨_, _, rfl, .inl ⟨SqL.of (S.ext.exact a1 rfl), newT_snd S a2 h q⟩⟩
        · cases l1 with
          | tup a1 a2 => exact ⟨_, _, rfl, .inr ⟨SqT.of (S.ext.exact a1 rfl), q.here S (.tup a1 a2) h⟩⟩
      | c i =>
        obtain ⟨a, vs, rfl, ha, r⟩ := lstOf_ok S l1 (show lstOf (.c i) _ = some ds from e)
        exact ⟨_, _, rfl, .inl ⟨SqL.of ha, newT_snd S r h q⟩⟩
      | s ns => cases e
    · exact h.elim
  · exact h.elim⟩
/-- sorted of ints -/
def sortI (ns : List Int) : List Int := ns.mergeSort (fun a b => decide (a ≤ b))
theorem sortI_perm (ns : List Int) : (sortI ns).Perm ns := List.mergeSort_perm _ _
theorem sortI_sorted (ns : List Int) : (sortI ns).Pairwise (· ≤ ·) := by
  have := List.pairwise_mergeSort (le := fun a b : Int => decide (a ≤ b)) (fun a b c h1 h2 => by simp at *; omega) (fun a b => by simp; omega) ns
  exact this.imp fun h => by simpa using h
theorem sorted_uniq : ∀ {a b : List Int}, a.Perm b → a.Pairwise (· ≤ ·) → b.Pairwise (· ≤ ·) → a = b := fun h h1 h2 => h.eq_of_pairwise (fun _ _ _ _ x y => Int.le_antisymm x y) h1 h2
def oSortI (b : Bool) : DRC := fun rs cs Φ => match rs with
  | [x] => ∃ ns : List Int, lstOf x cs = some (ns.map .int) ∧ newL b ((sortI ns).map .int) cs Φ
  | _ => False
theorem do_sortI (b : Bool) : CallD X (.builtin "sorted") (oSortI b) := ⟨_, cr_sortedI, fun S l Φ Q h q => by
  unfold oSortI at h
  split at h
  · obtain ⟨v, rfl, l1⟩ := pair1 l
    obtain ⟨ns, e, h⟩ := h
    obtain ⟨a, rfl, ha⟩ := ints_ok S l1 e
    refine ⟨a, ns, rfl, ha, fun ns' p hp ho => ?_⟩
    rw [sorted_uniq (hp.trans (sortI_perm ns).symm) ho (sortI_sorted ns)]
    exact newL_snd S (RpAll.of_ints _) h q p
  · exact h.elim⟩
/-- isinstance of a datum -/
def tyN : PyData → String
  | .none => "NoneType"
  | .bool _ => "bool"
  | .int _ => "int"
  | .str _ => "str"
  | .list _ => "list"
  | .tuple _ => "tuple"
  | .dict _ => "dict"
theorem rp_tyx {v : V} {d : PyData} (r : Rp K H v d) (n : ∀ ds, d ≠ .dict ds) : TyX K H v (.type (tyN d)) := by
  cases r with
  | non => exact .base .non
  | bl b => exact .base (.bl b)
  | int i => exact .base (.int i)
  | str x => exact .base (.str x)
  | lst h _ => exact .base (.lst h)
  | tup h _ => exact .base (.tup h)
  | dk h _ => exact absurd rfl (n _)
  | dt h _ => exact absurd rfl (n _)
/-- is a datum of such a built-in type -/
def isiB : PyData → String → Bool
  | .int _, "int" => true
  | .bool _, "int" => true
  | .bool _, "bool" => true
  | .str _, "str" => true
  | .list _, "list" => true
  | .tuple _, "tuple" => true
  | _, _ => false
theorem kit_isi {T : String} (hT : T ∈ ["int", "bool", "str", "list", "tuple"]) (d : PyData) (n : ∀ ds, d ≠ .dict ds) : PySem.W.kitOne K (.type (tyN d)) (.type T) = some (isiB d T) := by
  simp only [List.mem_cons, List.not_mem_nil, or_false] at hT
  rcases hT with rfl | rfl | rfl | rfl | rfl <;> cases d
  all_goals first
    | exact absurd rfl (n _)
    | exact kit_ty (a := "NoneType") (r := false) (by decide +kernel)
    | exact kit_ty (a := "bool") (r := true) (by decide +kernel)
    | exact kit_ty (a := "bool") (r := false) (by decide +kernel)
    | exact kit_ty (a := "int") (r := true) (by decide +kernel)
    | exact kit_ty (a := "int") (r := false) (by decide +kernel)
    | exact kit_ty (a := "str") (r := true) (by decide +kernel)
    | exact kit_ty (a := "str") (r := false) (by decide +kernel)
    | exact kit_ty (a := "list") (r := true) (by decide +kernel)
    | exact kit_ty (a := "list") (r := false) (by decide +kernel)
    | exact kit_ty (a := "tuple") (r := true) (by decide +kernel)
    | exact kit_ty (a := "tuple") (r := false) (by decide +kernel)
def isDict : PyData → Bool
  | .dict _ => true
  | _ => false
theorem not_dict {d : PyData} (h : isDict d = false) : ∀ ds, d ≠ .dict ds := fun ds e => by
  subst e
  cases h
@[simp] def dIsi (T : String) (t : DTE) : DTE := fun ρ cs Φ => t ρ cs fun r cs1 => match r with
  | .d x => isDict x = false ∧ Φ (.d (.bool (isiB x T))) cs1
  | .c i => match cs1[i]? with
    | some (.lst _) => Φ (.d (.bool (T == "list"))) cs1
    | _ => False
  | _ => False
theorem de_isi {p q pos : Pos} {e : Expr} {T : String} {t : DTE} (hg : Gl X "isinstance") (hm : X.mg "isinstance" = none) (hT : T ∈ ["int", "bool", "str", "list", "tuple"]) (he : DE X e t) {y : Str} (hgT : Gl X y) (hmT : X.mg y = none) (hvT : bootBuiltins y = some (.type T)) (hnT : y ≠ "__name__" := by decide)
    (hdT : (y == ("__debug__" : Str)) = false := by decide) (h1 : starEach [e, .Name y q] X.env = (false, eval e X.env) :: starEach [.Name y q] X.env := by rfl) (h2 : starEach [Expr.Name y q] X.env = (false, eval (.Name y q) X.env) :: starEach [] X.env := by rfl)
    (hpl : (backTo pos (starEach [Expr.Name y q] X.env)).any (·.1) = false := by rfl) : DE X (.Call (.Name "isinstance" p) [e, .Name y q] [] pos) (dIsi T t) := by
  obtain ⟨te, a1, a2⟩ := he
  refine ⟨_, pe_callB call_isi hg hm (by decide +kernel) (pa_cons a1 (pa_cons (pe_bltn (v := .ty T) hgT hmT hvT rfl hnT hdT) pa_nil h2) h1) (by decide) (by decide) h1 hpl, fun S E Φ Q p q => ?_⟩
  refine a2 S E p fun v F1 H1 as1 r cs1 g1 S1 l1 p1 => ?_
  split at p1
  · rename_i x
    obtain ⟨nd, p1⟩ := p1
    have n := not_dict nd
    exact ⟨v, .ty T, _, _, isiB x T, rfl, .ty T, rp_tyx (Rp.mono S1.ext l1) n, kit_isi hT x n, (q.mono g1).here S1 (.bl _) p1⟩
  · rename_i i
    split at p1
    · rename_i ds e
      obtain ⟨a, vs, rfl, ha, r⟩ := lstOf_ok (ds := ds) S1 l1 (by
        show (match cs1[i]? with | some (.lst ds) => some ds | _ => none) = some ds
        rw [e])
      refine ⟨.ref a, .ty T, _, _, isiB (.list ds) T, rfl, .ty T, .base (.lst ha), kit_isi hT (.list ds) (fun _ z => nomatch z), ?_⟩
      have : isiB (.list ds) T = (T == "list") := by
        simp only [List.mem_cons, List.not_mem_nil, or_false] at hT
        rcases hT with rfl | rfl | rfl | rfl | rfl <;> rfl
      rw [this]
      exact (q.mono g1).here S1 (.bl _) p1
    · exact p1.elim
  · exact p1.elim
end
end DL

/-! DL5: what is walked: any list or tuple; zip of any two; and what a walk is at the data level. -/
namespace DL
open PySem L2 PyProof.Rows

/-! ### a list or a tuple -/
def Sq (K : PySem.W.Frag) (t : Bool) (H : Hp) (a : Addr) (xs : List V) : Prop := if t = true then SqT K H a xs else SqL K H a xs
def ItAt (t : Bool) (h : Heap) (it a : Addr) (i : Nat) : Prop := if t = true then h.IsTupleIter it a i else h.IsListIter it a i
def SeqAt' (t : Bool) (h : Heap) (a : Addr) (items : Array Value) : Prop := if t = true then h.IsTuple a items else h.IsList a items
section
variable {X : Cx} {pins : List (Addr × Obj)} {σ : L2.St} {H : Hp} {s : Shared} {a : Addr} {xs ys : List V} {t : Bool}
theorem sq_items (I : Inv X pins σ H s) (h : Sq X.K t H a xs) : ∃ its : List Value, Vals xs its ∧ SeqAt' t s.heap a its.toArray := by
  cases t with
  | true =>
    obtain ⟨its, r, p, _⟩ := I.tuple h
    exact ⟨its, r, p⟩
  | false =>
    obtain ⟨its, r, p, _⟩ := I.list h
    exact ⟨its, r, p.isList⟩
theorem sq_inj (I : Inv X pins σ H s) (h : Sq X.K t H a xs) (h' : Sq X.K t H a ys) : xs = ys := by
  cases t with
  | true => exact I.tuple_inj h h'
  | false => exact I.list_inj h h'
theorem SeqAt'.lt {h : Heap} {items : Array Value} (x : SeqAt' t h a items) : a < h.objs.size := by
  cases t with
  | true =>
    obtain ⟨o, e, _⟩ := x
    exact Heap.lt_size e
  | false =>
    obtain ⟨o, e, _⟩ := x
    exact Heap.lt_size e
theorem ItAt.obj {h : Heap} {it : Addr} {i : Nat} (x : ItAt t h it a i) : ∃ o, h.get? it = some o ∧ ∀ v, o.data ≠ .cell v := by
  cases t with
  | true =>
    obtain ⟨o, e, c, d⟩ := x
    exact ⟨o, e, fun v z => by rw [d] at z; cases z⟩
  | false =>
    obtain ⟨o, e, c, d⟩ := x
    exact ⟨o, e, fun v z => by rw [d] at z; cases z⟩
theorem ItAt.keep {h h' : Heap} {it : Addr} {i : Nat} (x : ItAt t h it a i) (k : ∀ o, h.get? it = some o → h'.get? it = some o) : ItAt t h' it a i := by
  cases t with
  | true => exact Heap.IsTupleIter.at x k
  | false => exact Heap.IsListIter.at x k
theorem draws_seq {prog : Program} {w : World} {A : Around} (hh : A.handled = none) (t : Bool) (it a : Addr) (ne : a ≠ it) (items : Array Value) :
    Draws prog w A it [it, a] items.size (fun i v => items[i]? = some v) (fun i h => ItAt t h it a i ∧ SeqAt' t h a items) := by
  cases t with
  | true => exact Draws.tuple hh it a ne items
  | false => exact Draws.list hh it a ne items
end

/-! ### zip of any two -/
def ItzG (K : PySem.W.Frag) (t u : Bool) (a b : Addr) : It :=
  ⟨fun i H => ∃ (xs ys : List V) (x y : V), Sq K t H a xs ∧ Sq K u H b ys ∧ xs[i]? = some x ∧ ys[i]? = some y,
    fun i H v H' => ∃ T x y, v = .ref T ∧ H T = none ∧ H' = upd H T (.tup [x, y]) ∧ (∀ xs, Sq K t H a xs → xs[i]? = some x) ∧ ∀ ys, Sq K u H b ys → ys[i]? = some y,
    fun i H => ∃ xs ys : List V, Sq K t H a xs ∧ Sq K u H b ys ∧ i = min xs.length ys.length⟩
theorem turn_zipG {P : Program} {w : World} {K : PySem.W.Frag} {elts : List Expr} {kk : Nat} {tpos : Pos} {t u : Bool} {a b z TI TO i1 i2 : Addr} (D : ZipSep2 z TI TO i1 i2 [i1, a] [i2, b]) (na : a ≠ i1) (nb : b ≠ i2) :
    Turn P w K (.Tuple elts kk tpos) (ItzG K t u a b) [z, TI, TO, i1, i2] z (fun i h => IsZip h z TI TO .none ∧ IsTupOf2 h TI (.ref i1) (.ref i2) ∧ (∃ x y, IsTupOf2 h TO x y) ∧ ItAt t h i1 a i ∧ ItAt u h i2 b i) where
  mem := by simp
  obj := fun i h st c hc => by
    obtain ⟨hz, hTI, ⟨x, y, hTO⟩, h1, h2⟩ := st
    have e' : c = z ∨ c = TI ∨ c = TO ∨ c = i1 ∨ c = i2 := by simpa using hc
    rcases e' with q | q | q | q | q
    · rw [q]
      exact ⟨_, hz, fun v z => nomatch z⟩
    · rw [q]
      exact ⟨_, hTI, fun v z => nomatch z⟩
    · rw [q]
      exact ⟨_, hTO, fun v z => nomatch z⟩
    · rw [q]
      exact h1.obj
    · rw [q]
      exact h2.obj
  keep := fun i h h' st k => by
    obtain ⟨hz, hTI, ⟨x, y, hTO⟩, h1, h2⟩ := st
    exact ⟨k z (by simp) _ hz, k TI (by simp) _ hTI, ⟨x, y, k TO (by simp) _ hTO⟩, h1.keep fun o q => k i1 (by simp) o q, h2.keep fun o q => k i2 (by simp) o q⟩
  item := by
    intro X hP hw hK hc i pins s σ H E I hf st hg
    subst hP hw hK
    obtain ⟨hz, hTI, hTO, h1, h2⟩ := st
    obtain ⟨xs, ys, x, y, qx, qy, hx, hy⟩ := hg
    obtain ⟨its, rv, p⟩ := sq_items I qx
    obtain ⟨its2, rv2, p2⟩ := sq_items I qy
    obtain ⟨v1, e1, r1⟩ := rv.get hx
    obtain ⟨v2, e2, r2⟩ := rv2.get hy
    have hh : X.A.in1.handled = none := I.ok.hd hc
    have W := GoesN.zip2 (prog := X.prog) (w := X.w) (A := X.A) (elts := elts) (x1 := kk) (pos := tpos) D (draws_seq hh t i1 a na its.toArray) (draws_seq hh u i2 b nb its2.toArray)
    have l1 : i < its.length := (List.getElem?_eq_some_iff.mp e1).1
    have l2 : i < its2.length := (List.getElem?_eq_some_iff.mp e2).1
    refine thn (W.goes i s (fun v s2 => ∃ x H', Inv X pins σ H' s2 ∧ RelV x v ∧ (ItzG X.K t u a b).yld i H x H' ∧ (IsZip s2.heap z TI TO .none ∧ IsTupOf2 s2.heap TI (.ref i1) (.ref i2) ∧ (∃ x y, IsTupOf2 s2.heap TO x y) ∧ ItAt t s2.heap i1 a (i + 1) ∧ ItAt u s2.heap i2 b (i + 1)) ∧ ∀ b ∈ [z, TI, TO, i1, i2], H' b = none) E (by
      rw [List.size_toArray, List.size_toArray]
      omega) ⟨hz, hTI, hTO, ⟨h1, p⟩, h2, p2⟩ fun v h' tk Y st' hk _ => ?_) fun r s1 q => q
    obtain ⟨T, w1, w2, rfl, hn, f1, f2, hT⟩ := Y
    obtain ⟨z1, z2, z3, ⟨z4, _⟩, z5, _⟩ := st'
    have g1 : w1 = v1 := by
      have : its.toArray[i]? = some v1 := by simpa using e1
      exact Option.some.inj (f1.symm.trans this)
    have g2 : w2 = v2 := by
      have : its2.toArray[i]? = some v2 := by simpa using e2
      exact Option.some.inj (f2.symm.trans this)
    subst g1 g2
    have new : ObjOk X.prog X.w (upd H T (.tup [x, y])) h' T (.tup [x, y]) := ⟨by show 2 ≤ sizeLine; decide, [w1, w2], .cons r1 (.cons r2 .nil), hT⟩
    have I1 : Inv X pins σ (upd H T (.tup [x, y])) { s with heap := h', toks := tk } :=
      I.turnedNew (t' := tk) (ch := [z, TI, TO, i1, i2]) (fun c o hb q => hk c o (fun q' => hb (by
        have : c = z ∨ c = TO ∨ c = i1 ∨ c = i2 := by simpa using q'
        rcases this with e | e | e | e <;> simp [e])) q) hf hn new
    refine ⟨.ref T, _, I1, rfl, ⟨T, x, y, rfl, I.hok.fresh hn, rfl, fun l hl => by rw [sq_inj I hl qx]; exact hx, fun l hl => by rw [sq_inj I hl qy]; exact hy⟩, ⟨z1, z2, z3, z4, z5⟩, fun c hcm => ?_⟩
    have hlt : c < s.heap.objs.size := by
      have e' : c = z ∨ c = TI ∨ c = TO ∨ c = i1 ∨ c = i2 := by simpa using hcm
      obtain ⟨_, _, hTO'⟩ := hTO
      rcases e' with q | q | q | q | q
      · rw [q]; exact Heap.lt_size hz
      · rw [q]; exact Heap.lt_size hTI
      · rw [q]; exact Heap.lt_size hTO'
      · rw [q]; obtain ⟨_, e, _⟩ := h1.obj; exact Heap.lt_size e
      · rw [q]; obtain ⟨_, e, _⟩ := h2.obj; exact Heap.lt_size e
    rw [upd_ne (Nat.ne_of_lt (Nat.lt_of_lt_of_le hlt hn))]
    exact (hf c hcm).1
  done := by
    intro X hP hw hK hc i pins s σ H E I hf st hg
    subst hP hw hK
    obtain ⟨hz, hTI, hTO, h1, h2⟩ := st
    obtain ⟨xs, ys, qx, qy, hend⟩ := hg
    obtain ⟨its, rv, p⟩ := sq_items I qx
    obtain ⟨its2, rv2, p2⟩ := sq_items I qy
    have hh : X.A.in1.handled = none := I.ok.hd hc
    have W := GoesN.zip2 (prog := X.prog) (w := X.w) (A := X.A) (elts := elts) (x1 := kk) (pos := tpos) D (draws_seq hh t i1 a na its.toArray) (draws_seq hh u i2 b nb its2.toArray)
    have ei : i = min its.toArray.size its2.toArray.size := by
      rw [List.size_toArray, List.size_toArray, ← rv.length, ← rv2.length]
      exact hend
    subst ei
    exact W.stops s (fun s1 => Inv X pins σ H s1) E ⟨hz, hTI, hTO, ⟨h1, p⟩, h2, p2⟩ fun h' tk hk _ => I.turnedL (t' := tk) (ch := [z, TI, TO, i1, i2]) (fun c o hb q => hk c o (fun q' => hb (by
        have : c = z ∨ c = TO ∨ c = i1 ∨ c = i2 := by simpa using q'
        rcases this with e | e | e | e <;> simp [e])) q) hf
  self := fun A i s Q E st h => wpAny_pyIter_zip st.1 h
theorem zip_begins' {prog : Program} {w : World} {A : Around} {E : Value → Shared → Prop} {s : Shared} {t u : Bool} {a b : Addr} {xs ys : Array Value} {Z : Value → Shared → Prop} (h1 : SeqAt' t s.heap a xs) (h2 : SeqAt' u s.heap b ys)
    (h : ∀ h', IsZip h' (s.heap.objs.size + 4) (s.heap.objs.size + 2) (s.heap.objs.size + 3) .none → IsTupOf2 h' (s.heap.objs.size + 2) (.ref s.heap.objs.size) (.ref (s.heap.objs.size + 1)) →
      IsTupOf2 h' (s.heap.objs.size + 3) .none .none → ItAt t h' s.heap.objs.size a 0 → ItAt u h' (s.heap.objs.size + 1) b 0 → (∀ c o, s.heap.get? c = some o → h'.get? c = some o) → Z (.ref (s.heap.objs.size + 4)) { s with heap := h' }) :
    wpAny (model prog w) A (call (.type "zip") [.ref a, .ref b]) Z E s := by
  cases t <;> cases u
  · exact zip_begins2 (begins_list a xs) (begins_list b ys) h1 h2 fun h' z1 z2 z3 z4 z5 _ k => h h' z1 z2 z3 ⟨_, z4, rfl, rfl⟩ ⟨_, z5, rfl, rfl⟩ k
  · exact zip_begins2 (begins_list a xs) (begins_tuple b ys) h1 h2 fun h' z1 z2 z3 z4 z5 _ k => h h' z1 z2 z3 ⟨_, z4, rfl, rfl⟩ ⟨_, z5, rfl, rfl⟩ k
  · exact zip_begins2 (begins_tuple a xs) (begins_list b ys) h1 h2 fun h' z1 z2 z3 z4 z5 _ k => h h' z1 z2 z3 ⟨_, z4, rfl, rfl⟩ ⟨_, z5, rfl, rfl⟩ k
  · exact zip_begins2 (begins_tuple a xs) (begins_tuple b ys) h1 h2 fun h' z1 z2 z3 z4 z5 _ k => h h' z1 z2 z3 ⟨_, z4, rfl, rfl⟩ ⟨_, z5, rfl, rfl⟩ k
def iZipG (K : PySem.W.Frag) (ta : TA) : TI := fun σ H R => ta σ H fun vs H1 => ∃ t u a b xs ys, vs = [.ref a, .ref b] ∧ Sq K t H1 a xs ∧ Sq K u H1 b ys ∧ R (ItzG K t u a b) H1
theorem pi_zipG {X : Cx} {e e2 : Expr} {ta : TA} {p pos tpos : Pos} {elts : List Expr} {kk : Nat} (hg : Gl X "zip") (hm : X.mg "zip" = none) (ha : PA X [e, e2] ta)
    (hs : starEach [e, e2] X.env = (false, eval e X.env) :: starEach [e2] X.env := by rfl) (hpl : (backTo pos (starEach [e2] X.env)).any (·.1) = false := by rfl) :
    PI X (.Tuple elts kk tpos) (.Call (.Name "zip" p) [e, e2] [] pos) (iZipG X.K ta) := by
  refine ⟨fun pins s σ H R I h => ?_⟩
  refine Call_ (ld_blt I hg hm PyProof.Rows.boot_zip (PyProof.Rows.callWith_type1 (thn (ha.run pos pins s σ H _ I h) fun us s1 ⟨vs, H1, I1, r1, q1⟩ => ?_) hs hpl))
  obtain ⟨t, u, a, b, xs, ys, ex, qx, qy, q1⟩ := q1
  subst ex
  obtain ⟨v1, v2, rfl, m1, m2⟩ := vals2 r1
  cases m1
  cases m2
  obtain ⟨its, rv, p1⟩ := sq_items I1 qx
  obtain ⟨its2, rv2, p2⟩ := sq_items I1 qy
  have la := p1.lt
  have lb := p2.lt
  have fresh5 : ∀ c, c ∈ [s1.heap.objs.size + 4, s1.heap.objs.size + 2, s1.heap.objs.size + 3, s1.heap.objs.size, s1.heap.objs.size + 1] → FpOk X pins H1 c := fun c hcm => by
    have e' : c = s1.heap.objs.size + 4 ∨ c = s1.heap.objs.size + 2 ∨ c = s1.heap.objs.size + 3 ∨ c = s1.heap.objs.size ∨ c = s1.heap.objs.size + 1 := by simpa using hcm
    have le : s1.heap.objs.size ≤ c := by
      rcases e' with z | z | z | z | z <;> rw [z] <;> first | exact Nat.le_add_right _ _ | exact Nat.le_refl _
    exact I1.fpOk le (I1.hok.fresh le)
  refine zip_begins' p1 p2 fun h' hz hTI hTO h1 h2 hk => wpAny_pyIter_zip hz ?_
  have I2 : Inv X pins σ H1 { s1 with heap := h' } := I1.kept (t' := s1.toks) hk
  exact ⟨s1.heap.objs.size + 4, [s1.heap.objs.size + 4, s1.heap.objs.size + 2, s1.heap.objs.size + 3, s1.heap.objs.size, s1.heap.objs.size + 1], _, _, H1, rfl, I2, turn_zipG (zip_sep2 (fp1 := [a]) (fp2 := [b]) (fun c hc => by rw [List.mem_singleton.mp hc]; exact la) (fun c hc => by rw [List.mem_singleton.mp hc]; exact lb)) (Nat.ne_of_lt la) (Nat.ne_of_lt (Nat.lt_succ_of_lt lb)), ⟨hz, hTI, ⟨_, _, hTO⟩, h1, h2⟩, fresh5, q1⟩
/-! ### a list or a tuple, walked -/
def iSeq (K : PySem.W.Frag) (tl : TE) : TI := fun σ H R => tl σ H fun x H1 => ∃ a, x = .ref a ∧ (((∃ xs, SqL K H1 a xs) ∧ R (Itl K a) H1) ∨ ((∃ xs, SqT K H1 a xs) ∧ R (Itt K a) H1))
theorem pi_seq {X : Cx} {tg l : Expr} {tl : TE} (hl : PE X l tl) : PI X tg l (iSeq X.K tl) := by
  refine ⟨fun pins s σ H R I h => ?_⟩
  refine thn (hl.run pins s σ H _ I h) fun v s1 ⟨x, H1, I1, r1, q1⟩ => ?_
  obtain ⟨a, e, q1⟩ := q1
  subst e
  cases r1
  have fp : ∀ b ∈ [s1.heap.objs.size], FpOk X pins H1 b := fun b hb => by
    rw [List.mem_singleton.mp hb]
    exact I1.fpOk (Nat.le_refl _) (I1.hok.fresh (Nat.le_refl _))
  rcases q1 with ⟨⟨xs, hq⟩, q⟩ | ⟨⟨xs, hq⟩, q⟩
  · obtain ⟨its, rv, p, hz⟩ := I1.list hq
    refine wpAny_pyIter_list p.isList ?_
    exact ⟨s1.heap.objs.size, [s1.heap.objs.size], _, _, H1, rfl, I1.kept (t' := s1.toks) fun b o e => Heap.get?_push_of_some _ e, turn_list a _, ⟨_, Heap.get?_push_size _ rfl, rfl, rfl⟩, fp, q⟩
  · obtain ⟨its, rv, p, hz⟩ := I1.tuple hq
    refine wpAny_pyIter_tuple (show s1.heap.IsTuple a its.toArray from p) ?_
    exact ⟨s1.heap.objs.size, [s1.heap.objs.size], _, _, H1, rfl, I1.kept (t' := s1.toks) fun b o e => Heap.get?_push_of_some _ e, turn_tuple a _, ⟨_, Heap.get?_push_size _ rfl, rfl, rfl⟩, fp, q⟩
end DL

/-! DL6: walks, statements, loops, list comprehensions at the data level. -/
namespace DL
open PySem L2 PyProof.Rows

/-- what is walked, as data: so many turns, the items, when it goes on -/
structure DIt where
  n : Nat
  it : Nat → PyData
  ok : Cells → Prop
abbrev DTI := Env → Cells → (DIt → Cells → Prop) → Prop
section
variable (K : PySem.W.Frag) (F : Hp) (as : List Addr)
structure ItOk (J : It) (dJ : DIt) : Prop where
  goes : ∀ fr F' H' as' cs', Le F as F' as' → Stt K fr F' H' as' cs' → dJ.ok cs' → ∀ i, i < dJ.n → J.go i H'
  stops : ∀ fr F' H' as' cs', Le F as F' as' → Stt K fr F' H' as' cs' → dJ.ok cs' → J.stop dJ.n H'
  yields : ∀ fr F' H' as' cs', Le F as F' as' → Stt K fr F' H' as' cs' → dJ.ok cs' → ∀ i x H'', i < dJ.n → J.yld i H' x H'' → ∃ F'', Le F' as' F'' as' ∧ Stt K fr F'' H'' as' cs' ∧ Rp K F'' x (dJ.it i)
end
def SndI (K : PySem.W.Frag) (wi : TI) (di : DTI) : Prop := ∀ {fr σ F H as ρ cs}, Stt K fr F H as cs → EnvOk K F as σ ρ → ∀ {Φ : DIt → Cells → Prop} {R : It → Hp → Prop}, di ρ cs Φ → (∀ J F' H' as' dJ cs', Le F as F' as' → Stt K fr F' H' as' cs' → ItOk K F' as' J dJ → Φ dJ cs' → R J H') → wi σ H R
structure DI (X : Cx) (tg iter : Expr) (di : DTI) : Prop where
  ex : ∃ wi, PI X tg iter wi ∧ SndI X.K wi di
section
variable {X : Cx} {K : PySem.W.Frag} {fr : List (Addr × HO)} {F H : Hp} {as : List Addr} {cs : Cells} {σ : L2.St} {ρ : Env}
/-- the items of a sequence: they stand while ok holds -/
def seqOk (x : Loc) (ds : List PyData) : Cells → Prop := fun cs => seqOf x cs = some ds
def itSeq (x : Loc) (ds : List PyData) : DIt := ⟨ds.length, fun i => ds.getD i .none, seqOk x ds⟩
theorem getD_at {ds : List PyData} {i : Nat} {d : PyData} (h : ds[i]? = some d) : ds.getD i .none = d := by
  rw [List.getD_eq_getElem?_getD, h]
  rfl
theorem sq_of_loc {x : Loc} {v : V} (l : LocOk K F as v x) {ds : List PyData} (S : Stt K fr F H as cs) (h : seqOf x cs = some ds) : ∃ t a, v = .ref a ∧ (∃ xs, Sq K t H a xs) ∧ ∀ fr F' H' as' cs', Le F as F' as' → Stt K fr F' H' as' cs' → seqOf x cs' = some ds → ∃ xs, Sq K t H' a xs ∧ RpAll K F' xs ds := by
  cases x with
  | d x =>
    cases x <;> try cases h
    · cases l with
      | lst a1 a2 => exact ⟨false, _, rfl, ⟨_, SqL.of (S.ext.exact a1 rfl)⟩, fun fr2 F' H' as' cs' g S' _ => ⟨_, SqL.of (S'.ext.exact (g.ext.exact a1 rfl) rfl), a2.mono g.ext⟩⟩
    · cases l with
      | tup a1 a2 => exact ⟨true, _, rfl, ⟨_, SqT.of (S.ext.exact a1 rfl)⟩, fun fr2 F' H' as' cs' g S' _ => ⟨_, SqT.of (S'.ext.exact (g.ext.exact a1 rfl) rfl), a2.mono g.ext⟩⟩
  | c i =>
    obtain ⟨a, vs, rfl, q, r⟩ := lstOf_ok S l (show lstOf (.c i) cs = some ds from h)
    refine ⟨false, a, rfl, ⟨vs, SqL.of q⟩, fun fr2 F' H' as' cs' g S' e => ?_⟩
    obtain ⟨b, vs, eb, q, r⟩ := lstOf_ok S' (l.mono g) (show lstOf (.c i) cs' = some ds from e)
    cases eb
    exact ⟨vs, SqL.of q, r⟩
  | s ns => cases h
@[simp] def dISeq (t : DTE) : DTI := fun ρ cs R => t ρ cs fun x cs1 => match seqOf x cs1 with
  | some ds => R (itSeq x ds) cs1
  | none => False
theorem di_seq {tg l : Expr} {t : DTE} (h : DE X l t) : DI X tg l (dISeq t) := by
  obtain ⟨te, a1, a2⟩ := h
  refine ⟨_, pi_seq a1, fun S E Φ R p q => a2 S E p fun v F1 H1 as1 x cs1 g1 S1 l1 p1 => ?_⟩
  split at p1
  · rename_i ds e
    obtain ⟨t, a, rfl, ⟨xs, sq⟩, st⟩ := sq_of_loc l1 S1 e
    cases t with
    | false =>
      refine ⟨a, rfl, .inl ⟨⟨xs, sq⟩, q _ _ _ _ _ _ g1 S1 ⟨fun fr2 F' H' as' cs' g S' o i hi => ?_, fun fr2 F' H' as' cs' g S' o => ?_, fun fr2 F' H' as' cs' g S' o i x H'' hi y => ?_⟩ p1⟩⟩
      · obtain ⟨ys, s1, r1⟩ := st fr2 F' H' as' cs' g S' o
        have hl : i < ys.length := by rw [r1.length]; exact hi
        exact ⟨ys, ys[i], s1, by simp [hl]⟩
      · obtain ⟨ys, s1, r1⟩ := st fr2 F' H' as' cs' g S' o
        exact ⟨ys, s1, Nat.le_of_eq r1.length⟩
      · obtain ⟨ys, s1, r1⟩ := st fr2 F' H' as' cs' g S' o
        obtain ⟨rfl, y⟩ := y
        obtain ⟨d, e1, e2⟩ := r1.get' (y ys s1)
        exact ⟨F', Le.refl, S', by rw [show (itSeq _ ds).it i = d from getD_at e1]; exact e2⟩
    | true =>
      refine ⟨a, rfl, .inr ⟨⟨xs, sq⟩, q _ _ _ _ _ _ g1 S1 ⟨fun fr2 F' H' as' cs' g S' o i hi => ?_, fun fr2 F' H' as' cs' g S' o => ?_, fun fr2 F' H' as' cs' g S' o i x H'' hi y => ?_⟩ p1⟩⟩
      · obtain ⟨ys, s1, r1⟩ := st fr2 F' H' as' cs' g S' o
        have hl : i < ys.length := by rw [r1.length]; exact hi
        exact ⟨ys, ys[i], s1, by simp [hl]⟩
      · obtain ⟨ys, s1, r1⟩ := st fr2 F' H' as' cs' g S' o
        exact ⟨ys, s1, Nat.le_of_eq r1.length⟩
      · obtain ⟨ys, s1, r1⟩ := st fr2 F' H' as' cs' g S' o
        obtain ⟨rfl, y⟩ := y
        obtain ⟨d, e1, e2⟩ := r1.get' (y ys s1)
        exact ⟨F', Le.refl, S', by rw [show (itSeq _ ds).it i = d from getD_at e1]; exact e2⟩
  · exact p1.elim
/-- range -/
def itRng (lo : Int) (n : Nat) : DIt := ⟨n, fun i => .int (lo + i), fun _ => True⟩
theorem rng_ok {lo : Int} {n : Nat} : ItOk K F as (Itr lo n) (itRng lo n) :=
  ⟨fun _ _ _ _ _ _ _ _ _ hi => hi, fun _ _ _ _ _ _ _ _ => Nat.le_refl _, fun fr2 F' H' as' cs' g S' _ i x H'' hi y => by
    obtain ⟨rfl, rfl⟩ := y
    exact ⟨F', Le.refl, S', .int _⟩⟩
@[simp] def dIRng1 (ta : DTA) : DTI := fun ρ cs R => ta ρ cs fun rs cs1 => match rs with
  | [.d (.int j)] => (-(2 ^ 62) ≤ j ∧ j < 2 ^ 62) ∧ R (itRng 0 j.toNat) cs1
  | _ => False
@[simp] def dIRng2 (ta : DTA) : DTI := fun ρ cs R => ta ρ cs fun rs cs1 => match rs with
  | [.d (.int i), .d (.int j)] => (-(2 ^ 62) ≤ i ∧ i < 2 ^ 62 ∧ -(2 ^ 62) ≤ j ∧ j < 2 ^ 62) ∧ R (itRng i (j - i).toNat) cs1
  | _ => False
theorem di_range1 {tg a : Expr} {ta : DTA} {p pos : Pos} (hg : Gl X "range") (hm : X.mg "range" = none) (ha : DA X [a] ta) (hs : starEach [a] X.env = [(false, eval a X.env)] := by rfl) : DI X tg (.Call (.Name "range" p) [a] [] pos) (dIRng1 ta) := by
  obtain ⟨te, a1, a2⟩ := ha
  refine ⟨_, pi_range1 hg hm a1 hs, fun S E Φ R p q => a2 S E p fun vs F1 H1 as1 rs cs1 hlen g1 S1 l1 p1 => ?_⟩
  split at p1
  · rename_i j
    obtain ⟨v, rfl, l2⟩ := pair1 l1
    cases l2
    exact ⟨j, rfl, p1.1.1, p1.1.2, q _ _ _ _ _ _ g1 S1 rng_ok p1.2⟩
  · exact p1.elim
theorem di_range2 {tg a b : Expr} {ta : DTA} {p pos : Pos} (hg : Gl X "range") (hm : X.mg "range" = none) (ha : DA X [a, b] ta) (hs : starEach [a, b] X.env = [(false, eval a X.env), (false, eval b X.env)] := by rfl) (hs2 : starEach [b] X.env = [(false, eval b X.env)] := by rfl) : DI X tg (.Call (.Name "range" p) [a, b] [] pos) (dIRng2 ta) := by
  obtain ⟨te, a1, a2⟩ := ha
  refine ⟨_, pi_range2 hg hm a1 hs hs2, fun S E Φ R p q => a2 S E p fun vs F1 H1 as1 rs cs1 hlen g1 S1 l1 p1 => ?_⟩
  split at p1
  · rename_i i j
    obtain ⟨v, u, rfl, l3, l2⟩ := pair2 l1
    cases l3
    cases l2
    exact ⟨i, j, rfl, p1.1, q _ _ _ _ _ _ g1 S1 rng_ok p1.2⟩
  · exact p1.elim
/-- zip of two -/
def itZip (x y : Loc) (ds es : List PyData) : DIt := ⟨min ds.length es.length, fun i => .tuple [ds.getD i .none, es.getD i .none], fun cs => seqOk x ds cs ∧ seqOk y es cs⟩
@[simp] def dIZip (ta : DTA) : DTI := fun ρ cs R => ta ρ cs fun rs cs1 => match rs with
  | [x, y] => (match seqOf x cs1, seqOf y cs1 with
    | some ds, some es => R (itZip x y ds es) cs1
    | _, _ => False)
  | _ => False
theorem di_zip {e e2 : Expr} {ta : DTA} {p pos tpos : Pos} {elts : List Expr} {kk : Nat} (hg : Gl X "zip") (hm : X.mg "zip" = none) (ha : DA X [e, e2] ta)
    (hs : starEach [e, e2] X.env = (false, eval e X.env) :: starEach [e2] X.env := by rfl) (hpl : (backTo pos (starEach [e2] X.env)).any (·.1) = false := by rfl) : DI X (.Tuple elts kk tpos) (.Call (.Name "zip" p) [e, e2] [] pos) (dIZip ta) := by
  obtain ⟨te, a1, a2⟩ := ha
  refine ⟨_, pi_zipG hg hm a1 hs hpl, fun S E Φ R p q => a2 S E p fun vs F1 H1 as1 rs cs1 hlen g1 S1 l1 p1 => ?_⟩
  split at p1
  · rename_i x y
    obtain ⟨v, u, rfl, l1, l2⟩ := pair2 l1
    split at p1
    · rename_i ds es e1 e2
      obtain ⟨t, a, rfl, ⟨xs, sx⟩, stx⟩ := sq_of_loc l1 S1 e1
      obtain ⟨t2, b, rfl, ⟨ys, sy⟩, sty⟩ := sq_of_loc l2 S1 e2
      refine ⟨t, t2, a, b, xs, ys, rfl, sx, sy, q _ _ _ _ _ _ g1 S1 ⟨fun fr2 F' H' as' cs' g S' o i hi => ?_, fun fr2 F' H' as' cs' g S' o => ?_, fun fr2 F' H' as' cs' g S' o i x H'' hi y => ?_⟩ p1⟩
      · obtain ⟨xs, s1, r1⟩ := stx fr2 F' H' as' cs' g S' o.1
        obtain ⟨ys, s2, r2⟩ := sty fr2 F' H' as' cs' g S' o.2
        have hi : i < min ds.length es.length := hi
        have h1 : i < xs.length := by rw [r1.length]; omega
        have h2 : i < ys.length := by rw [r2.length]; omega
        exact ⟨xs, ys, xs[i], ys[i], s1, s2, by simp [h1], by simp [h2]⟩
      · obtain ⟨xs, s1, r1⟩ := stx fr2 F' H' as' cs' g S' o.1
        obtain ⟨ys, s2, r2⟩ := sty fr2 F' H' as' cs' g S' o.2
        exact ⟨xs, ys, s1, s2, by rw [r1.length, r2.length]; rfl⟩
      · obtain ⟨xs, s1, r1⟩ := stx fr2 F' H' as' cs' g S' o.1
        obtain ⟨ys, s2, r2⟩ := sty fr2 F' H' as' cs' g S' o.2
        obtain ⟨T, w1, w2, rfl, hT, rfl, f1, f2⟩ := y
        obtain ⟨d1, e1, e2⟩ := r1.get' (f1 xs s1)
        obtain ⟨d2, e3, e4⟩ := r2.get' (f2 ys s2)
        have g2 := S'.leD hT (.tup [w1, w2])
        refine ⟨_, g2, S'.newD hT _, ?_⟩
        show Rp X.K _ (.ref T) (.tuple [ds.getD i .none, es.getD i .none])
        rw [getD_at e1, getD_at e3]
        exact .tup upd_same (.cons (e2.mono g2.ext) (.cons (e4.mono g2.ext) .nil))
    · exact p1.elim
  · exact p1.elim
/-- enumerate of a list -/
def itEnum (x : Loc) (ds : List PyData) : DIt := ⟨ds.length, fun i => .tuple [.int (i : Nat), ds.getD i .none], seqOk x ds⟩
@[simp] def dIEnum (ta : DTA) : DTI := fun ρ cs R => ta ρ cs fun rs cs1 => match rs with
  | [x] => (match lstOf x cs1 with
    | some ds => R (itEnum x ds) cs1
    | none => False)
  | _ => False
theorem lst_seq {x : Loc} {cs : Cells} {ds : List PyData} (h : lstOf x cs = some ds) : seqOf x cs = some ds := by
  cases x with
  | d x => cases x <;> first | exact h | cases h
  | c i => exact h
  | s ns => cases h
theorem lst_of_loc {x : Loc} {v : V} (l : LocOk K F as v x) {ds : List PyData} (S : Stt K fr F H as cs) (h : lstOf x cs = some ds) : ∃ a, v = .ref a ∧ (∃ xs, SqL K H a xs) ∧ ∀ fr F' H' as' cs', Le F as F' as' → Stt K fr F' H' as' cs' → seqOf x cs' = some ds → ∃ xs, SqL K H' a xs ∧ RpAll K F' xs ds := by
  obtain ⟨a, vs, rfl, q, r⟩ := lstOf_ok S l h
  refine ⟨a, rfl, ⟨vs, SqL.of q⟩, fun fr2 F' H' as' cs' g S' e => ?_⟩
  have e' : lstOf x cs' = some ds := by
    cases x with
    | d x =>
      cases x <;> try cases h
      exact rfl
    | c i => exact e
    | s ns => cases h
  obtain ⟨b, vs, eb, q, r⟩ := lstOf_ok S' (l.mono g) e'
  cases eb
  exact ⟨vs, SqL.of q, r⟩
theorem di_enum {e : Expr} {ta : DTA} {p pos tpos : Pos} {elts : List Expr} {kk : Nat} (hg : Gl X "enumerate") (hm : X.mg "enumerate" = none) (ha : DA X [e] ta) (hs : starEach [e] X.env = [(false, eval e X.env)] := by rfl) : DI X (.Tuple elts kk tpos) (.Call (.Name "enumerate" p) [e] [] pos) (dIEnum ta) := by
  obtain ⟨te, a1, a2⟩ := ha
  refine ⟨_, pi_enum hg hm a1 hs, fun S E Φ R p q => a2 S E p fun vs F1 H1 as1 rs cs1 hlen g1 S1 l1 p1 => ?_⟩
  split at p1
  · rename_i x
    obtain ⟨v, rfl, l2⟩ := pair1 l1
    split at p1
    · rename_i ds e0
      obtain ⟨a, rfl, ⟨xs, sx⟩, st⟩ := lst_of_loc l2 S1 e0
      refine ⟨a, xs, rfl, sx, q _ _ _ _ _ _ g1 S1 ⟨fun fr2 F' H' as' cs' g S' o i hi => ?_, fun fr2 F' H' as' cs' g S' o => ?_, fun fr2 F' H' as' cs' g S' o i x H'' hi y => ?_⟩ p1⟩
      · obtain ⟨ys, s1, r1⟩ := st fr2 F' H' as' cs' g S' o
        have hl : i < ys.length := by rw [r1.length]; exact hi
        exact walk_enum.goes i H' hl s1
      · obtain ⟨ys, s1, r1⟩ := st fr2 F' H' as' cs' g S' o
        have := walk_enum.stops H' s1
        rw [r1.length] at this
        exact this
      · obtain ⟨ys, s1, r1⟩ := st fr2 F' H' as' cs' g S' o
        have hl : i < ys.length := by rw [r1.length]; exact hi
        obtain ⟨T, w1, w2, rfl, hT, rfl, f1, f2⟩ := walk_enum.yields i H' x H'' hl s1 y
        cases f1
        obtain ⟨d2, e3, e4⟩ := r1.get' f2
        have g2 := S'.leD hT (.tup [.int (i : Nat), w2])
        refine ⟨_, g2, S'.newD hT _, ?_⟩
        show Rp X.K _ (.ref T) (.tuple [.int (i : Nat), ds.getD i .none])
        rw [getD_at e3]
        exact .tup upd_same (.cons (.int _) (.cons (e4.mono g2.ext) .nil))
    · exact p1.elim
  · exact p1.elim

/-! ### targets -/
@[simp] def dName (i : Nat) : DTG := fun r ρ cs k => k (ρ.set i (some r)) cs
theorem dg_name {i : Nat} {x : Str} {pos : Pos} (hN : X.N.Nodup) (hi : X.N[i]? = some x := by rfl) (hx : L2.Loc X.env.scope x := by first | exact Or.inl rfl | exact Or.inr rfl) (hf : X.fn x = true ∨ X.env.scope.names.lookup x = some .local := by first | exact .inl rfl | exact .inr rfl | assumption) : DG X (.Name x pos) (dName i) :=
  ⟨_, pg_name hN hi hx hf, fun S E l Φ Q p q => q _ _ _ _ _ _ Le.refl S (E.set l i) p⟩
@[simp] def dGNil : DTGs := fun rs ρ cs k => match rs with
  | [] => k ρ cs
  | _ => False
@[simp] def dGCons (g : DTG) (u : DTGs) : DTGs := fun rs ρ cs k => match rs with
  | r :: t => g r ρ cs fun ρ1 cs1 => u t ρ1 cs1 k
  | [] => False
theorem dgs_nil : DGs X [] dGNil := ⟨_, pgs_nil, fun S E l Φ Q p q => by
  cases l with
  | nil => exact ⟨rfl, q _ _ _ _ _ _ Le.refl S E p⟩
  | cons _ _ => exact p.elim⟩
theorem dgs_cons {e : Expr} {es : List Expr} {g : DTG} {u : DTGs} (h1 : DG X e g) (h2 : DGs X es u) (hs : (assignEach (e :: es) X.env).map (·.2) = assign e X.env :: (assignEach es X.env).map (·.2) := by rfl) : DGs X (e :: es) (dGCons g u) := by
  obtain ⟨tg, a1, a2⟩ := h1
  obtain ⟨tu, b1, b2⟩ := h2
  refine ⟨_, pgs_cons a1 b1 hs, fun S E l Φ Q p q => ?_⟩
  cases l with
  | nil => exact p.elim
  | @cons v r vs rs lv lr => exact ⟨v, vs, rfl, a2 S E lv p fun σ1 F1 H1 as1 ρ1 cs1 g1 S1 E1 p1 => b2 S1 E1 (Paired.mono (fun _ _ z => LocOk.mono g1 z) lr) p1 (q.mono g1)⟩
theorem paired_d : ∀ {vs : List V} {ds : List PyData}, RpAll K F vs ds → Paired (LocOk K F as) vs (ds.map .d)
  | _, _, .nil => .nil
  | _, _, .cons a r => .cons a (paired_d r)
/-- (a, b, ..) = a tuple of so many -/
@[simp] def dGTup (n : Nat) (g : DTGs) : DTG := fun r ρ cs k => match r with
  | .d (.tuple ds) => ds.length = n ∧ g (ds.map .d) ρ cs k
  | _ => False
theorem dg_tup {es : List Expr} {k : Nat} {g : DTGs} {n : Nat} {pos : Pos} (hc : X.calm = true) (h : DGs X es g) (hn : (assignEach es X.env).length = n := by rfl) (hst : (assignEach es X.env).findIdx? (·.1) = none := by rfl) : DG X (.Tuple es k pos) (dGTup n g) := by
  obtain ⟨tg, a1, a2⟩ := h
  refine ⟨_, pg_tup hc a1 hn hst, fun S E l Φ Q p q => ?_⟩
  unfold dGTup at p
  split at p
  · rename_i ds
    obtain ⟨hl, p⟩ := p
    cases l with
    | tup b1 b2 => exact ⟨_, _, rfl, SqT.of (S.ext.exact b1 rfl), b2.length.trans hl, a2 S E (paired_d b2) p q⟩
  · exact p.elim

/-! ### statements -/
@[simp] def dNext : DTS := fun Δ ρ cs => Δ.nx ρ cs
@[simp] def dSeq (t u : DTS) : DTS := fun Δ ρ cs => t { Δ with nx := u Δ } ρ cs
theorem dss_nil : DSs X [] dNext := ⟨_, pss_nil, fun S E Δ D p q => q.1 _ _ _ _ _ _ Le.refl S E p⟩
theorem dss_one {st : Stmt} {t : DTS} (h : DS X st t) : DSs X [st] t := by
  obtain ⟨ts, a, b⟩ := h
  exact ⟨_, pss_one a, b⟩
theorem dss_cons {st : Stmt} {rest : List Stmt} {t u : DTS} (h1 : DS X st t) (h2 : DSs X rest u) : DSs X (st :: rest) (dSeq t u) := by
  obtain ⟨ts, a1, a2⟩ := h1
  obtain ⟨us, b1, b2⟩ := h2
  exact ⟨_, pss_cons a1 b1, fun S E Δ D p q => a2 S E p ⟨fun σ1 F1 H1 as1 ρ1 cs1 g1 S1 E1 p1 => b2 S1 E1 p1 (q.mono g1), q.2.1, q.2.2.1, q.2.2.2⟩⟩
@[simp] def dSet (i : Nat) (t : DTE) : DTS := fun Δ ρ cs => t ρ cs fun r cs1 => Δ.nx (ρ.set i (some r)) cs1
theorem ds_set {i : Nat} {x : Str} {e : Expr} {t : DTE} {pos pos' : Pos} (hN : X.N.Nodup) (he : DE X e t) (hi : X.N[i]? = some x := by rfl) (hx : L2.Loc X.env.scope x := by first | exact Or.inl rfl | exact Or.inr rfl) (hs : swapsWith e (some (.Name x pos')) pos.line X.env = pure false := by rfl)
    (hf : X.fn x = true ∨ X.env.scope.names.lookup x = some .local := by first | exact .inl rfl | exact .inr rfl | assumption) : DS X (.Assign [.Name x pos'] e pos) (dSet i t) := by
  obtain ⟨te, a1, a2⟩ := he
  exact ⟨_, ps_set hN hi hx a1 hs hf, fun S E Δ D p q => a2 S E p fun v F1 H1 as1 r cs1 g1 S1 l1 p1 => q.1 _ _ _ _ _ _ g1 S1 ((E.mono g1).set l1 i) p1⟩
/-- target = value, any target -/
@[simp] def dAsg (t : DTE) (g : DTG) : DTS := fun Δ ρ cs => t ρ cs fun r cs1 => g r ρ cs1 Δ.nx
theorem ds_asg {tg e : Expr} {t : DTE} {g : DTG} {pos : Pos} (he : DE X e t) (hg : DG X tg g) (hs : swapsWithSole [tg] e pos.line X.env = pure false := by rfl) (hw : swappedStores [tg] e X.env = pure none := by rfl)
    (h1 : (assignEach [tg] X.env).map (·.2) = [assign tg X.env] := by rfl) : DS X (.Assign [tg] e pos) (dAsg t g) := by
  obtain ⟨te, a1, a2⟩ := he
  obtain ⟨tg', b1, b2⟩ := hg
  exact ⟨_, ps_asg a1 b1 hs hw h1, fun S E Δ D p q => a2 S E p fun v F1 H1 as1 r cs1 g1 S1 l1 p1 => b2 S1 (E.mono g1) l1 p1 (q.1.mono g1)⟩
/-- a, b = x, y -/
@[simp] def dPar (i j : Nat) (ta : DTA) : DTS := fun Δ ρ cs => ta ρ cs fun rs cs1 => match rs with
  | [x, y] => Δ.nx ((ρ.set i (some x)).set j (some y)) cs1
  | _ => False
theorem ds_par {i j : Nat} {x y : Str} {a b : Expr} {ta : DTA} {px py pt pos : Pos} {kt k2 pt2} (hc : X.calm = true) (hN : X.N.Nodup) (ha : DA X [a, b] ta) (hi : X.N[i]? = some x := by rfl) (hj : X.N[j]? = some y := by rfl) (hij : i ≠ j := by decide)
    (hx : X.env.scope.names.lookup x = some .local := by rfl) (hy : X.env.scope.names.lookup y = some .local := by rfl)
    (hw : swappedStores [.Tuple [.Name x px, .Name y py] kt pt] (.Tuple [a, b] k2 pt2) X.env = pure (some [x, y]) := by rfl)
    (hs : swapsWithSole [.Tuple [.Name x px, .Name y py] kt pt] (.Tuple [a, b] k2 pt2) pos.line X.env = pure false := by rfl) : DS X (.Assign [.Tuple [.Name x px, .Name y py] kt pt] (.Tuple [a, b] k2 pt2) pos) (dPar i j ta) := by
  obtain ⟨te, a1, a2⟩ := ha
  refine ⟨_, ps_par hc hN hi hj hij hx hy a1 hw hs, fun S E Δ D p q => a2 S E p fun vs F1 H1 as1 rs cs1 hlen g1 S1 l1 p1 => ?_⟩
  split at p1
  · rename_i x y
    obtain ⟨v, u, rfl, m1, m2⟩ := pair2 l1
    exact ⟨v, u, rfl, q.1 _ _ _ _ _ _ g1 S1 (((E.mono g1).set m1 i).set m2 j) p1⟩
  · exact p1.elim
@[simp] def dPar3 (i j l : Nat) (ta : DTA) : DTS := fun Δ ρ cs => ta ρ cs fun rs cs1 => match rs with
  | [x, y, z] => Δ.nx (((ρ.set i (some x)).set j (some y)).set l (some z)) cs1
  | _ => False
theorem pair3 {R : V → DL.Loc → Prop} {vs : List V} {x y z : DL.Loc} (h : Paired R vs [x, y, z]) : ∃ v u w, vs = [v, u, w] ∧ R v x ∧ R u y ∧ R w z := by
  cases h with
  | cons a t =>
    obtain ⟨u, w, rfl, b, c⟩ := pair2 t
    exact ⟨_, _, _, rfl, a, b, c⟩
theorem ds_par3 {i j l : Nat} {x y z : Str} {a b c : Expr} {ta : DTA} {px py pz pt pos : Pos} {kt k2 pt2} (hc : X.calm = true) (hN : X.N.Nodup) (ha : DA X [a, b, c] ta) (hi : X.N[i]? = some x := by rfl) (hj : X.N[j]? = some y := by rfl) (hl : X.N[l]? = some z := by rfl)
    (hij : i ≠ j := by decide) (hil : i ≠ l := by decide) (hjl : j ≠ l := by decide)
    (hx : X.env.scope.names.lookup x = some .local := by rfl) (hy : X.env.scope.names.lookup y = some .local := by rfl) (hz : X.env.scope.names.lookup z = some .local := by rfl)
    (hw : swappedStores [.Tuple [.Name x px, .Name y py, .Name z pz] kt pt] (.Tuple [a, b, c] k2 pt2) X.env = pure (some [x, y, z]) := by rfl)
    (hs : swapsWithSole [.Tuple [.Name x px, .Name y py, .Name z pz] kt pt] (.Tuple [a, b, c] k2 pt2) pos.line X.env = pure false := by rfl) : DS X (.Assign [.Tuple [.Name x px, .Name y py, .Name z pz] kt pt] (.Tuple [a, b, c] k2 pt2) pos) (dPar3 i j l ta) := by
  obtain ⟨te, a1, a2⟩ := ha
  refine ⟨_, ps_par3 hc hN hi hj hl hij hil hjl hx hy hz a1 hw hs, fun S E Δ D p q => a2 S E p fun vs F1 H1 as1 rs cs1 hlen g1 S1 l1 p1 => ?_⟩
  split at p1
  · rename_i x y z
    obtain ⟨v, u, w, rfl, m1, m2, m3⟩ := pair3 l1
    exact ⟨v, u, w, rfl, q.1 _ _ _ _ _ _ g1 S1 ((((E.mono g1).set m1 i).set m2 j).set m3 l) p1⟩
  · exact p1.elim
/-- name += e of ints -/
@[simp] def dAugI (f : Int → Int → Int) (i : Nat) (t : DTE) : DTS := fun Δ ρ cs => match ρ[i]? with
  | some (some (.d (.int a))) => t ρ cs fun r cs1 => (match r with
    | .d (.int b) => Δ.nx (ρ.set i (some (.d (.int (f a b))))) cs1
    | _ => False)
  | _ => False
theorem snd_aug {f : Int → Int → Int} {i : Nat} {te : TE} {t : DTE} (h : SndE K te t) : SndS K (tAug i te (ipI f)) (dAugI f i t) := fun S E Δ D p q => by
  unfold dAugI at p
  split at p
  · rename_i a e
    obtain ⟨v, e2, l⟩ := E.get e
    cases l
    refine ⟨_, e2, h S E p fun u F1 H1 as1 r cs1 g1 S1 l1 p1 => ?_⟩
    split at p1
    · cases l1
      exact ⟨_, _, rfl, rfl, q.1 _ _ _ _ _ _ g1 S1 ((E.mono g1).set (show LocOk K _ _ _ (.d (.int _)) from .int _) i) p1⟩
    · exact p1.elim
  · exact p.elim
theorem ds_addI {i : Nat} {x : Str} {e : Expr} {t : DTE} {pos pos' : Pos} (hN : X.N.Nodup) (he : DE X e t) (hi : X.N[i]? = some x := by rfl) (hx : L2.Loc X.env.scope x := by first | exact Or.inl rfl | exact Or.inr rfl)
    (hf : X.fn x = true ∨ X.env.scope.names.lookup x = some .local := by first | exact .inl rfl | exact .inr rfl | assumption) : DS X (.AugAssign (.Name x pos') .Add e pos) (dAugI (fun i j => i + j) i t) := by
  obtain ⟨te, a1, a2⟩ := he
  exact ⟨_, ps_aug hN hi hx a1 ip_add hf, snd_aug a2⟩
theorem ds_subI {i : Nat} {x : Str} {e : Expr} {t : DTE} {pos pos' : Pos} (hN : X.N.Nodup) (he : DE X e t) (hi : X.N[i]? = some x := by rfl) (hx : L2.Loc X.env.scope x := by first | exact Or.inl rfl | exact Or.inr rfl)
    (hf : X.fn x = true ∨ X.env.scope.names.lookup x = some .local := by first | exact .inl rfl | exact .inr rfl | assumption) : DS X (.AugAssign (.Name x pos') .Sub e pos) (dAugI (fun i j => i - j) i t) := by
  obtain ⟨te, a1, a2⟩ := he
  exact ⟨_, ps_aug hN hi hx a1 ip_sub hf, snd_aug a2⟩
@[simp] def dDrop (t : DTE) : DTS := fun Δ ρ cs => t ρ cs fun _ cs1 => Δ.nx ρ cs1
theorem ds_expr {e : Expr} {t : DTE} {pos : Pos} (he : DE X e t) (hs : swapsWith e none pos.line X.env = pure false := by rfl) : DS X (.Expr e pos) (dDrop t) := by
  obtain ⟨te, a1, a2⟩ := he
  exact ⟨_, ps_expr a1 hs, fun S E Δ D p q => a2 S E p fun v F1 H1 as1 r cs1 g1 S1 l1 p1 => q.1 _ _ _ _ _ _ g1 S1 (E.mono g1) p1⟩
@[simp] def dRet (t : DTE) : DTS := fun Δ ρ cs => t ρ cs Δ.rt
theorem ds_ret {e : Expr} {t : DTE} {pos : Pos} (he : DE X e t) : DS X (.Return (some e) pos) (dRet t) := by
  obtain ⟨te, a1, a2⟩ := he
  exact ⟨_, ps_ret a1, fun S E Δ D p q => a2 S E p q.2.1⟩
@[simp] def dIf (c : DTT) (t u : DTS) : DTS := fun Δ ρ cs => c ρ cs fun b cs1 => if b = true then t Δ ρ cs1 else u Δ ρ cs1
theorem ds_if {c : Expr} {a b : List Stmt} {t : DTT} {u w : DTS} {pos : Pos} (hc : DT X c t) (ha : DSs X a u) (hb : DSs X b w) : DS X (.If c a b pos) (dIf t u w) := by
  obtain ⟨tc, c1, c2⟩ := hc
  obtain ⟨tu, a1, a2⟩ := ha
  obtain ⟨tw, b1, b2⟩ := hb
  refine ⟨_, ps_if c1 a1 b1, fun S E Δ D p q => c2 S E p fun b F1 H1 as1 cs1 g1 S1 p1 => ?_⟩
  cases b with
  | true => exact a2 S1 (E.mono g1) p1 (q.mono g1)
  | false => exact b2 S1 (E.mono g1) p1 (q.mono g1)
@[simp] def dNever : DTS := fun _ _ _ => False
theorem ds_never {st : Stmt} : DS X st dNever := ⟨_, ps_never, fun _ _ _ _ p _ => p.elim⟩
@[simp] def dBreak : DTS := fun Δ ρ cs => Δ.bk ρ cs
@[simp] def dCont : DTS := fun Δ ρ cs => Δ.ct ρ cs
theorem ds_pass {pos : Pos} : DS X (.Pass pos) dNext := ⟨_, ps_pass, fun S E Δ D p q => q.1 _ _ _ _ _ _ Le.refl S E p⟩
theorem ds_break {pos : Pos} : DS X (.Break pos) dBreak := ⟨_, ps_break, fun S E Δ D p q => q.2.2.1 _ _ _ _ _ _ Le.refl S E p⟩
theorem ds_continue {pos : Pos} : DS X (.Continue pos) dCont := ⟨_, ps_continue, fun S E Δ D p q => q.2.2.2 _ _ _ _ _ _ Le.refl S E p⟩

/-! ### loops -/
/-- a state is forgotten in part: names, the last cells -/
def Weak (m : Nat) (P : Env → Cells → Prop) (ρ : Env) (cs : Cells) : Prop := ∃ ρ' n, m ≤ n ∧ n ≤ cs.length ∧ Env.le ρ' ρ ∧ (∀ i j : Nat, ρ'[i]? = some (some (DL.Loc.c j)) → j < n) ∧ P ρ' (cs.take n)
theorem env_cut {n : Nat} {σ : L2.St} {ρ : Env} (h : EnvOk K F as σ ρ) (b : ∀ i j : Nat, ρ[i]? = some (some (DL.Loc.c j)) → j < n) : EnvOk K F (as.take n) σ ρ := by
  induction h with
  | nil => exact .nil
  | skip _ ih => exact .skip (ih fun i j e => b (i + 1) j (by simpa using e))
  | @cons v x σ ρ l _ ih =>
    refine .cons ?_ (ih fun i j e => b (i + 1) j (by simpa using e))
    cases x with
    | d x => exact l
    | s ns => exact l
    | c j =>
      obtain ⟨a, e, rfl⟩ := l
      exact ⟨a, by rw [List.getElem?_take_of_lt (b 0 j rfl)]; exact e, rfl⟩
theorem Weak.go {P : Env → Cells → Prop} {F0 : Hp} {as0 : List Addr} (g0 : Le F0 as0 F as) (S : Stt K fr F H as cs) (E : EnvOk K F as σ ρ) (w : Weak as0.length P ρ cs) : ∃ ρ' as' cs', Le F0 as0 F as' ∧ Stt K fr F H as' cs' ∧ EnvOk K F as' σ ρ' ∧ P ρ' cs' := by
  obtain ⟨ρ', n, hm, hn, le, b, p⟩ := w
  refine ⟨ρ', as.take n, cs.take n, ⟨g0.ext, ?_⟩, S.take n, env_cut (E.weak le) b, p⟩
  obtain ⟨t, rfl⟩ := g0.pre
  exact ⟨t.take (n - as0.length), by rw [List.take_append, List.take_of_length_le hm]⟩
def dFor (di : DTI) (g : DTG) (tb : DTS) : DTS := fun Δ ρ cs => di ρ cs fun J cs1 => ∃ P : Nat → Env → Cells → Prop, Weak cs1.length (P 0) ρ cs1 ∧ (∀ i ρ cs, P i ρ cs → J.ok cs) ∧
  (∀ i ρ cs, i < J.n → P i ρ cs → g (.d (J.it i)) ρ cs fun ρ2 cs2 => tb { Δ with nx := Weak cs1.length (P (i + 1)), ct := Weak cs1.length (P (i + 1)), bk := Δ.nx } ρ2 cs2) ∧ (∀ ρ cs, P J.n ρ cs → Δ.nx ρ cs)
theorem snd_for {wi : TI} {g : TG} {tb : TS} {di : DTI} {dg : DTG} {db : DTS} (hi : SndI K wi di) (hg : SndG K g dg) (hb : SndS K tb db) : SndS K (tFor wi g tb) (dFor di dg db) := fun {fr _ _ _ _ _ _} S E Δ D p q => by
  refine hi S E p fun J F1 H1 as1 dJ cs1 g1 S1 ok p1 => ?_
  obtain ⟨P, h0, hok, hs, hd⟩ := p1
  have lc : as1.length = cs1.length := Paired.length S1.own
  rw [← lc] at h0
  obtain ⟨ρ1, as2, cs2, g2, S2, E2, p2⟩ := h0.go Le.refl S1 (E.mono g1)
  refine ⟨fun i m σ H => ∃ F as ρ cs, m = dJ.n - i ∧ i ≤ dJ.n ∧ Le F1 as1 F as ∧ Stt K fr F H as cs ∧ EnvOk K F as σ ρ ∧ P i ρ cs, ⟨dJ.n, F1, as2, ρ1, cs2, by simp, Nat.zero_le _, g2, S2, E2, p2⟩, ?_⟩
  rintro i m σ' H' ⟨F, as, ρ, cs, rfl, hi, gg, SS, EE, pp⟩
  have okk := hok i ρ cs pp
  by_cases hlt : i < dJ.n
  · refine .inr ⟨ok.goes _ F H' as cs gg SS okk i hlt, fun σ2 H2 => ∃ F as ρ cs, Le F1 as1 F as ∧ Stt K fr F H2 as cs ∧ EnvOk K F as σ2 ρ ∧ P (i + 1) ρ cs, fun σ2 H2 h2 => ?_, fun x H2 y => ?_⟩
    · obtain ⟨F, as, ρ, cs, a1, a2, a3, a4⟩ := h2
      exact ⟨dJ.n - (i + 1), by omega, F, as, ρ, cs, rfl, hlt, a1, a2, a3, a4⟩
    · obtain ⟨F2, gx, Sx, rx⟩ := ok.yields _ F H' as cs gg SS okk i x H2 hlt y
      have next : ∀ {F2' : Hp} {as2' : List Addr}, Le F1 as1 F2' as2' → PostN K fr F2' as2' (Weak cs1.length (P (i + 1))) fun σ2 H2 => ∃ F as ρ cs, Le F1 as1 F as ∧ Stt K fr F H2 as cs ∧ EnvOk K F as σ2 ρ ∧ P (i + 1) ρ cs := fun {F2' as2'} gm => by
        intro σ4 F4 H4 as4 ρ4 cs4 g4 S4 E4 p4
        rw [← lc] at p4
        obtain ⟨ρ5, as5, cs5, g5, S5, E5, p5⟩ := p4.go (gm.trans g4) S4 E4
        exact ⟨F4, as5, ρ5, cs5, g5, S5, E5, p5⟩
      refine hg Sx (EE.mono gx) (show LocOk K F2 as x (.d (dJ.it i)) from rx) (hs i ρ cs hlt pp) fun σ3 F3 H3 as3 ρ3 cs3 g3 S3 E3 p3 => ?_
      have gm := gg.trans (gx.trans g3)
      exact hb S3 E3 p3 ⟨next gm, q.2.1.mono (g1.trans gm), q.1.mono (g1.trans gm), next gm⟩
  · have e : i = dJ.n := by omega
    subst e
    exact .inl ⟨ok.stops _ F H' as cs gg SS okk, q.1 _ _ _ _ _ _ (g1.trans gg) SS EE (hd ρ cs pp)⟩
theorem ds_for {tg iter : Expr} {body : List Stmt} {di : DTI} {g : DTG} {tb : DTS} {pos : Pos} (hp : PassesOwn (model X.prog X.w) X.A X.env X.xe) (hc : X.calm = true) (hi : DI X tg iter di) (hg : DG X tg g) (hb : DSs X body tb)
    (hs : ∀ x, foldedSetIterable iter X.env x = pure x := by intro _; rfl) : DS X (.For tg iter body [] pos) (dFor di g tb) := by
  obtain ⟨wi, a1, a2⟩ := hi
  obtain ⟨tg', b1, b2⟩ := hg
  obtain ⟨tb', c1, c2⟩ := hb
  exact ⟨_, ps_for hp hc a1 b1 c1 hs, snd_for a2 b2 c2⟩
end
end DL

/-! DL7: while, list comprehensions, stores, methods of lists at the data level. -/
namespace DL
open PySem L2 PyProof.Rows
section
variable {X : Cx} {K : PySem.W.Frag} {fr : List (Addr × HO)} {F F' H H' : Hp} {as as' : List Addr} {cs : Cells} {σ : L2.St} {ρ : Env}
def dWhile (c : DTT) (tb : DTS) : DTS := fun Δ ρ cs => ∃ P : Nat → Env → Cells → Prop, (∃ m, Weak cs.length (P m) ρ cs) ∧ ∀ m ρ' cs', P m ρ' cs' → c ρ' cs' fun b cs1 =>
  if b = true then tb { Δ with nx := Weak cs.length fun ρ2 cs2 => ∃ m', m' < m ∧ P m' ρ2 cs2, ct := Weak cs.length fun ρ2 cs2 => ∃ m', m' < m ∧ P m' ρ2 cs2, bk := Δ.nx } ρ' cs1 else Δ.nx ρ' cs1
theorem snd_while {c : TT} {tb : TS} {dc : DTT} {db : DTS} (hc : SndT K c dc) (hb : SndS K tb db) : SndS K (tWhile c tb) (dWhile dc db) := fun {fr _ F0 _ as _ cs} S E Δ D p q => by
  obtain ⟨P, ⟨m0, w0⟩, hs⟩ := p
  have lc : as.length = cs.length := Paired.length S.own
  rw [← lc] at w0
  obtain ⟨ρ1, as2, cs2, g2, S2, E2, p2⟩ := w0.go Le.refl S E
  refine ⟨fun m σ H => ∃ F as2 ρ cs, Le F0 as F as2 ∧ Stt K fr F H as2 cs ∧ EnvOk K F as2 σ ρ ∧ P m ρ cs, ⟨m0, _, as2, ρ1, cs2, g2, S2, E2, p2⟩, ?_⟩
  rintro m σ' H' ⟨F, as3, ρ, cs3, gg, SS, EE, pp⟩
  refine hc SS EE (hs m ρ cs3 pp) fun b F4 H4 as4 cs4 g4 S4 p4 => ?_
  cases b with
  | false => exact q.1 _ _ _ _ _ _ (gg.trans g4) S4 (EE.mono g4) p4
  | true =>
    have next : PostN K fr F4 as4 (Weak cs.length fun ρ2 cs2 => ∃ m', m' < m ∧ P m' ρ2 cs2) fun σ2 H2 => ∃ m', m' < m ∧ ∃ F as2 ρ cs, Le F0 as F as2 ∧ Stt K fr F H2 as2 cs ∧ EnvOk K F as2 σ2 ρ ∧ P m' ρ cs := by
      intro σ5 F5 H5 as5 ρ5 cs5 g5 S5 E5 p5
      rw [← lc] at p5
      obtain ⟨ρ6, as6, cs6, g6, S6, E6, m', hm, p6⟩ := p5.go (gg.trans (g4.trans g5)) S5 E5
      exact ⟨m', hm, F5, as6, ρ6, cs6, g6, S6, E6, p6⟩
    have gm := gg.trans g4
    exact ⟨_, fun _ _ n => n, hb S4 (EE.mono g4) p4 ⟨next, q.2.1.mono gm, q.1.mono gm, next⟩⟩
theorem ds_while {c : Expr} {body : List Stmt} {dc : DTT} {db : DTS} {pos : Pos} (hp : PassesOwn (model X.prog X.w) X.A X.env X.xe) (hc : DT X c dc) (hb : DSs X body db) : DS X (.While c body [] pos) (dWhile dc db) := by
  obtain ⟨tc, a1, a2⟩ := hc
  obtain ⟨tb, b1, b2⟩ := hb
  exact ⟨_, ps_while hp a1 b1, snd_while a2 b2⟩

/-! ### a family of contexts -/
theorem eqK {α : Type} {a b : α} {R : α → Prop} (e : a = b) (h : R a) : R b := e ▸ h
theorem de_all {ι : Type} {Y : ι → Cx} {e : Expr} {de : DTE} (hK : ∀ i, (Y i).K = K) (h : ∀ i, DE (Y i) e de) : ∃ te, (∀ i, PE (Y i) e te) ∧ ((i : ι) → SndE K te de) := by
  refine ⟨fun σ H Q => ∀ i, (h i).ex.choose σ H Q, fun i => ⟨fun pins s σ H Q I p => (h i).ex.choose_spec.1.run pins s σ H Q I (p i)⟩, fun _ => ?_⟩
  intro fr σ F H as ρ cs S E Φ Q p q i
  have z : SndE (Y i).K (h i).ex.choose de := (h i).ex.choose_spec.2
  exact (eqK (R := fun K => SndE K (h i).ex.choose de) (hK i) z) S E p q
/-- a target that stores into these slots alone -/
def SndGw (K : PySem.W.Frag) (vs : List Nat) (tg : TG) (dg : DTG) : Prop := ∀ {fr σ F H as ρ cs v r}, Stt K fr F H as cs → EnvOk K F as σ ρ → LocOk K F as v r → ∀ {Φ : Env → Cells → Prop} {Q : L2.St → Hp → Prop}, dg r ρ cs Φ →
  (∀ σ' F' H' as' ρ' cs', Le F as F' as' → Stt K fr F' H' as' cs' → EnvOk K F' as' σ' ρ' → wipe σ' vs = wipe σ vs → Φ ρ' cs' → Q σ' H') → tg v σ H Q
def SndGws (K : PySem.W.Frag) (vs : List Nat) (tg : TGs) (dg : DTGs) : Prop := ∀ {fr σ F H as ρ cs us rs}, Stt K fr F H as cs → EnvOk K F as σ ρ → Paired (LocOk K F as) us rs → ∀ {Φ : Env → Cells → Prop} {Q : L2.St → Hp → Prop}, dg rs ρ cs Φ →
  (∀ σ' F' H' as' ρ' cs', Le F as F' as' → Stt K fr F' H' as' cs' → EnvOk K F' as' σ' ρ' → wipe σ' vs = wipe σ vs → Φ ρ' cs' → Q σ' H') → tg us σ H Q
structure DGw (X : Cx) (vs : List Nat) (e : Expr) (dg : DTG) : Prop where
  ex : ∃ tg, PG X e tg ∧ SndGw X.K vs tg dg
structure DGws (X : Cx) (vs : List Nat) (es : List Expr) (dg : DTGs) : Prop where
  ex : ∃ tg, PGs X es tg ∧ SndGws X.K vs tg dg
theorem wipe_set {i : Nat} {x : Option V} : ∀ {vs : List Nat} {σ : L2.St}, i ∈ vs → wipe (σ.set i x) vs = wipe σ vs
  | v :: vs, σ, h => by
    unfold wipe
    by_cases e : v = i
    · subst e
      have : ∀ vs : List Nat, (wipe (σ.set v x) vs).set v none = (wipe σ vs).set v none := by
        intro vs
        induction vs with
        | nil => exact List.set_set ..
        | cons u r ih =>
          unfold wipe
          by_cases eu : u = v
          · subst eu
            rw [List.set_set, List.set_set, ih]
          · rw [List.set_comm _ _ eu, ih, List.set_comm _ _ (Ne.symm eu)]
      exact this vs
    · have hm : i ∈ vs := by
        rcases List.mem_cons.mp h with z | z
        · exact absurd z.symm e
        · exact z
      rw [wipe_set hm]
theorem wipe_wipe {σ : L2.St} {vs : List Nat} : ∀ {us : List Nat}, (∀ i ∈ us, i ∈ vs) → wipe (wipe σ us) vs = wipe σ vs
  | [], _ => rfl
  | v :: us, h => (wipe_set (h v List.mem_cons_self)).trans (wipe_wipe fun i hi => h i (List.mem_cons_of_mem _ hi))
theorem dgw_name {i : Nat} {vs : List Nat} {x : Str} {pos : Pos} (hN : X.N.Nodup) (hi : X.N[i]? = some x := by rfl) (hm : i ∈ vs := by decide) (hx : L2.Loc X.env.scope x := by first | exact Or.inl rfl | exact Or.inr rfl) (hf : X.fn x = true ∨ X.env.scope.names.lookup x = some .local := by first | exact .inl rfl | exact .inr rfl | assumption) : DGw X vs (.Name x pos) (dName i) :=
  ⟨_, pg_name hN hi hx hf, fun S E l Φ Q p q => q _ _ _ _ _ _ Le.refl S (E.set l i) (wipe_set hm) p⟩
theorem dgws_nil {vs : List Nat} : DGws X vs [] dGNil := ⟨_, pgs_nil, fun S E l Φ Q p q => by
  cases l with
  | nil => exact ⟨rfl, q _ _ _ _ _ _ Le.refl S E rfl p⟩
  | cons _ _ => exact p.elim⟩
theorem dgws_cons {vs : List Nat} {e : Expr} {es : List Expr} {g : DTG} {u : DTGs} (h1 : DGw X vs e g) (h2 : DGws X vs es u) (hs : (assignEach (e :: es) X.env).map (·.2) = assign e X.env :: (assignEach es X.env).map (·.2) := by rfl) : DGws X vs (e :: es) (dGCons g u) := by
  obtain ⟨tg, a1, a2⟩ := h1
  obtain ⟨tu, b1, b2⟩ := h2
  refine ⟨_, pgs_cons a1 b1 hs, fun S E l Φ Q p q => ?_⟩
  cases l with
  | nil => exact p.elim
  | @cons v r us rs lv lr => exact ⟨v, us, rfl, a2 S E lv p fun σ1 F1 H1 as1 ρ1 cs1 g1 S1 E1 w1 p1 => b2 S1 E1 (Paired.mono (fun _ _ z => LocOk.mono g1 z) lr) p1 fun σ2 F2 H2 as2 ρ2 cs2 g2 S2 E2 w2 p2 => q _ _ _ _ _ _ (g1.trans g2) S2 E2 (w2.trans w1) p2⟩
theorem dgw_tup {vs : List Nat} {es : List Expr} {k : Nat} {g : DTGs} {n : Nat} {pos : Pos} (hc : X.calm = true) (h : DGws X vs es g) (hn : (assignEach es X.env).length = n := by rfl) (hst : (assignEach es X.env).findIdx? (·.1) = none := by rfl) : DGw X vs (.Tuple es k pos) (dGTup n g) := by
  obtain ⟨tg, a1, a2⟩ := h
  refine ⟨_, pg_tup hc a1 hn hst, fun S E l Φ Q p q => ?_⟩
  unfold dGTup at p
  split at p
  · rename_i ds
    obtain ⟨hl, p⟩ := p
    cases l with
    | tup b1 b2 => exact ⟨_, _, rfl, SqT.of (S.ext.exact b1 rfl), b2.length.trans hl, a2 S E (paired_d b2) p q⟩
  · exact p.elim
theorem dgw_all {ι : Type} {Y : ι → Cx} {vs : List Nat} {e : Expr} {dg : DTG} (hK : ∀ i, (Y i).K = K) (h : ∀ i, DGw (Y i) vs e dg) : ∃ tg, (∀ i, PG (Y i) e tg) ∧ ((i : ι) → SndGw K vs tg dg) := by
  refine ⟨fun v σ H Q => ∀ i, (h i).ex.choose v σ H Q, fun i => ⟨fun pins s σ H v u Q I r p => (h i).ex.choose_spec.1.run pins s σ H v u Q I r (p i)⟩, fun _ => ?_⟩
  intro fr σ F H as ρ cs v r S E l Φ Q p q i
  have z : SndGw (Y i).K vs (h i).ex.choose dg := (h i).ex.choose_spec.2
  exact (eqK (R := fun K => SndGw K vs (h i).ex.choose dg) (hK i) z) S E l p q
/-- a clause's tests -/
structure DTs (X : Cx) (ifs : List Expr) (dt : DTT) : Prop where
  ex : ∃ tt, PTs X ifs tt ∧ SndT X.K tt dt
@[simp] def dYes : DTT := fun _ cs Φ => Φ true cs
theorem dts_nil : DTs X [] dYes := ⟨_, pts_nil, fun S E Φ Q p q => q _ _ _ _ _ Le.refl S p⟩
theorem dts_one {c : Expr} {t : DTT} (h : DT X c t) : DTs X [c] t := by
  obtain ⟨tt, a, b⟩ := h
  exact ⟨_, pts_one a, b⟩
theorem dts_all {ι : Type} {Y : ι → Cx} {ifs : List Expr} {dt : DTT} (hK : ∀ i, (Y i).K = K) (h : ∀ i, DTs (Y i) ifs dt) : ∃ tt, (∀ i, PTs (Y i) ifs tt) ∧ ((i : ι) → SndT K tt dt) := by
  refine ⟨fun σ H Q => ∀ i, (h i).ex.choose σ H Q, fun i => ⟨fun pins s σ H Q I p => (h i).ex.choose_spec.1.run pins s σ H Q I (p i)⟩, fun _ => ?_⟩
  intro fr σ F H as ρ cs S E Φ Q p q i
  have z : SndT (Y i).K (h i).ex.choose dt := (h i).ex.choose_spec.2
  exact (eqK (R := fun K => SndT K (h i).ex.choose dt) (hK i) z) S E p q

/-! ### list comprehensions -/
@[simp] def dwipe (ρ : Env) : List Nat → Env
  | [] => ρ
  | v :: vs => (dwipe ρ vs).set v none
theorem env_wipe (h : EnvOk K F as σ ρ) : ∀ vs : List Nat, EnvOk K F as (wipe σ vs) (dwipe ρ vs)
  | [] => h
  | v :: vs => (env_wipe h vs).unset none v
def dLc (b : Bool) (di : DTI) (g : DTG) (tt : DTT) (te : DTE) (vs : List Nat) : DTE := fun ρ cs Φ => di ρ cs fun J cs1 => J.n < sizeLine ∧ ∃ P : Nat → List PyData → Cells → Prop, P 0 [] cs1 ∧ (∀ i acc cs, P i acc cs → J.ok cs) ∧
  (∀ i acc cs, i < J.n → P i acc cs → g (.d (J.it i)) (dwipe ρ vs) cs fun ρ2 cs2 => tt ρ2 cs2 fun b cs3 => if b = true then te ρ2 cs3 fun y cs4 => (match y with
    | .d d => P (i + 1) (acc ++ [d]) cs4
    | _ => False) else P (i + 1) acc cs3) ∧ (∀ acc cs, P J.n acc cs → newL b acc cs Φ)
theorem Stt.hide (S : Stt K fr F H as cs) {p : Addr} (h : H p = none) (o : HO) : Stt K ((p, o) :: fr) F (upd H p o) as cs where
  ext := S.ext.mut (S.ext.non h)
  nd := by
    have nd := S.nd
    have h1 := S.noAs h
    have h2 := S.noFr h
    rw [List.nodup_append] at nd ⊢
    obtain ⟨n1, n2, n3⟩ := nd
    refine ⟨n1, by rw [List.map_cons, List.nodup_cons]; exact ⟨h2, n2⟩, fun a ha b hb => ?_⟩
    rw [List.map_cons, List.mem_cons] at hb
    rcases hb with rfl | hb
    · exact fun e => h1 (e ▸ ha)
    · exact n3 a ha b hb
  own := own_keep S.own (Ext.refl F) (fun _ _ n => n) fun l hl => upd_ne (show l ≠ p from fun e => S.noAs h (e ▸ hl))
  frm := fun q hq => by
    rcases List.mem_cons.mp hq with rfl | hq
    · exact ⟨upd_same, S.ext.non h⟩
    · have : q.1 ≠ p := fun e => S.noFr h (e ▸ List.mem_map_of_mem hq)
      rw [upd_ne this]
      exact S.frm q hq
theorem Stt.frNe {p : Addr} {o : HO} (S : Stt K ((p, o) :: fr) F H as cs) : p ∉ as ∧ p ∉ fr.map Prod.fst := by
  have nd := S.nd
  rw [List.nodup_append] at nd
  obtain ⟨n1, n2, n3⟩ := nd
  rw [List.map_cons, List.nodup_cons] at n2
  exact ⟨fun h => n3 p h p List.mem_cons_self rfl, n2.1⟩
theorem Stt.frPut {p : Addr} {o : HO} (S : Stt K ((p, o) :: fr) F H as cs) (o' : HO) : Stt K ((p, o') :: fr) F (upd H p o') as cs where
  ext := S.ext.mut (S.frm _ List.mem_cons_self).2
  nd := S.nd
  own := own_keep S.own (Ext.refl F) (fun _ _ n => n) fun l hl => upd_ne (show l ≠ p from fun e => S.frNe.1 (e ▸ hl))
  frm := fun q hq => by
    rcases List.mem_cons.mp hq with rfl | hq
    · exact ⟨upd_same, (S.frm _ List.mem_cons_self).2⟩
    · have : q.1 ≠ p := fun e => S.frNe.2 (e ▸ List.mem_map_of_mem hq)
      rw [upd_ne this]
      exact S.frm q (List.mem_cons_of_mem _ hq)
theorem Stt.frNew {b : Bool} {p : Addr} {vs : List V} {ds : List PyData} {Φ : EK} {Q : VK} (S : Stt K ((p, .lst vs) :: fr) F H as cs) (r : RpAll K F vs ds) (h : newL b ds cs Φ) (q : PostE K fr F as Φ Q) : Q (.ref p) H := by
  have hp := S.frm _ List.mem_cons_self
  have S0 : Stt K fr F H as cs := ⟨S.ext, by
    have nd := S.nd
    rw [List.nodup_append] at nd ⊢
    exact ⟨nd.1, (List.nodup_cons.mp nd.2.1).2, fun a ha b hb => nd.2.2 a ha b (List.mem_cons_of_mem _ hb)⟩, S.own, fun q hq => S.frm q (List.mem_cons_of_mem _ hq)⟩
  cases b with
  | false =>
    have e : Ext F (upd F p (.lst vs)) := Ext.new hp.2
    refine q _ (upd F p (.lst vs)) H as (.d (.list ds)) cs ⟨e, [], by simp⟩ ⟨fun a x ha => ?_, S0.nd, own_keep S.own e (fun l hl n => ?_) fun _ _ => rfl, fun z hz => ?_⟩ (.lst upd_same (r.mono e)) h
    · by_cases ea : a = p
      · subst ea
        rw [upd_same] at ha
        cases ha
        exact ⟨_, hp.1, .inl rfl⟩
      · rw [upd_ne ea] at ha
        exact S.ext a x ha
    · rw [upd_ne (show l ≠ p from fun e => S.frNe.1 (e ▸ hl))]
      exact n
    · have : z.1 ≠ p := fun e => S.frNe.2 (e ▸ List.mem_map_of_mem hz)
      rw [upd_ne this]
      exact S0.frm z hz
  | true =>
    have hl : as.length = cs.length := Paired.length S.own
    refine q _ F H (as ++ [p]) (DL.Loc.c cs.length) (cs ++ [Cell.lst ds]) le_snoc ⟨S.ext, ?_, S.own.snoc (b := Cell.lst ds) ⟨hp.2, vs, hp.1, r⟩, S0.frm⟩ ⟨p, ?_, rfl⟩ h
    · have nd := S.nd
      rw [List.append_assoc]
      exact nd
    · rw [← hl, List.getElem?_append_right (Nat.le_refl _), Nat.sub_self]
      rfl
theorem Stt.unfr {x : Addr × HO} (S : Stt K (x :: fr) F H as cs) : Stt K fr F H as cs := ⟨S.ext, by
    have nd := S.nd
    rw [List.nodup_append] at nd ⊢
    exact ⟨nd.1, (List.nodup_cons.mp nd.2.1).2, fun a ha b hb => nd.2.2 a ha b (List.mem_cons_of_mem _ hb)⟩, S.own, fun q hq => S.frm q (List.mem_cons_of_mem _ hq)⟩
theorem snd_lc {b : Bool} {wi : TI} {g : TG} {tt : TT} {te : TE} {di : DTI} {dg : DTG} {dt : DTT} {de : DTE} {vs : List Nat} (hi : SndI K wi di) (hg : SndGw K vs g dg) (ht : SndT K tt dt) (he : SndE K te de) : SndE K (tLc wi g tt te vs) (dLc b di dg dt de vs) := fun {fr _ _ _ _ ρ _} S E Φ Q p q => by
  refine hi S E p fun J F1 H1 as1 dJ cs1 g1 S1 ok p1 => ?_
  obtain ⟨hn, P, h0, hok, hs, hd⟩ := p1
  intro D hD
  refine ⟨fun i m H => ∃ F as ws acc cs, m = dJ.n - i ∧ i ≤ dJ.n ∧ acc.length ≤ i ∧ Le F1 as1 F as ∧ Stt K ((D, .lst ws) :: fr) F H as cs ∧ RpAll K F ws acc ∧ P i acc cs, ⟨dJ.n, F1, as1, [], [], cs1, by simp, Nat.zero_le _, Nat.le_refl _, Le.refl, S1.hide hD _, .nil, h0⟩, ?_⟩
  rintro i m H' ⟨F, as, ws, acc, cs, rfl, hi, hl, gg, SS, rr, pp⟩
  have okk := hok i acc cs pp
  by_cases hlt : i < dJ.n
  · refine .inr ⟨ok.goes _ F H' as cs gg SS okk i hlt, fun H2 => ∃ F as ws acc cs, acc.length ≤ i + 1 ∧ Le F1 as1 F as ∧ Stt K ((D, .lst ws) :: fr) F H2 as cs ∧ RpAll K F ws acc ∧ P (i + 1) acc cs, fun H2 h2 => ?_, fun x H2 y => ?_⟩
    · obtain ⟨F, as, ws, acc, cs, a1, a2, a3, a4, a5⟩ := h2
      exact ⟨dJ.n - (i + 1), by omega, F, as, ws, acc, cs, rfl, hlt, a1, a2, a3, a4, a5⟩
    · obtain ⟨F2, gx, Sx, rx⟩ := ok.yields _ F H' as cs gg SS okk i x H2 hlt y
      refine hg Sx (env_wipe (E.mono (g1.trans (gg.trans gx))) vs) (show LocOk K F2 as x (.d (dJ.it i)) from rx) (hs i acc cs hlt pp) fun σ3 F3 H3 as3 ρ3 cs3 g3 S3 E3 w3 p3 => ?_
      refine ⟨w3.trans (wipe_wipe fun _ z => z), ht S3 E3 p3 fun c F4 H4 as4 cs4 g4 S4 p4 => ?_⟩
      have gm := gg.trans (gx.trans (g3.trans g4))
      have rm := rr.mono (gx.trans (g3.trans g4)).ext
      cases c with
      | false => exact ⟨F4, as4, ws, acc, cs4, by omega, gm, S4, rm, p4⟩
      | true =>
        refine he S4 (E3.mono g4) p4 fun v F5 H5 as5 r cs5 g5 S5 l5 p5 => ?_
        cases r with
        | d d =>
          have l5 : Rp K F5 v d := l5
          have rl := rm.length
          refine ⟨ws, (S5.frm _ List.mem_cons_self).1, by rw [rl]; omega, F5, as5, ws ++ [v], acc ++ [d], cs5, by rw [List.length_append]; simpa using hl, gm.trans g5, S5.frPut _, (rm.mono g5.ext).append (.cons l5 .nil), p5⟩
        | c j => exact p5.elim
        | s ns => exact p5.elim
  · have e : i = dJ.n := by omega
    subst e
    exact .inl ⟨ok.stops _ F H' as cs gg SS okk, SS.frNew rr (hd acc cs pp) (q.mono (g1.trans gg))⟩
/-- the contexts of a comprehension's block -/
abbrev BlkI := Shared × Hp × Addr × List (Str × Addr) × List Addr
abbrev blkX (X : Cx) (scope : Scope) (i : BlkI) : Cx := X.blk i.1 i.2.1 scope (compEnvC scope i.2.2.2.1 i.2.2.1 X.env) i.2.2.2.2
theorem lc_parts {elt tg : Expr} {ifs : List Expr} {scope : Scope} {vs : List Nat} {dg : DTG} {dt : DTT} {de : DTE} (hg : ∀ i : BlkI, DGw (blkX X scope i) vs tg dg) (ht : ∀ i : BlkI, DTs (blkX X scope i) ifs dt) (he : ∀ i : BlkI, DE (blkX X scope i) elt de) :
    ∃ g tt te, ((∀ i : BlkI, PG (blkX X scope i) tg g) ∧ (∀ i : BlkI, PTs (blkX X scope i) ifs tt) ∧ ∀ i : BlkI, PE (blkX X scope i) elt te) ∧ SndGw X.K vs g dg ∧ SndT X.K tt dt ∧ SndE X.K te de := by
  obtain ⟨g, a1, a2⟩ := dgw_all (K := X.K) (Y := blkX X scope) (fun _ => rfl) hg
  obtain ⟨tt, b1, b2⟩ := dts_all (K := X.K) (Y := blkX X scope) (fun _ => rfl) ht
  obtain ⟨te, c1, c2⟩ := de_all (K := X.K) (Y := blkX X scope) (fun _ => rfl) he
  have i0 : BlkI := ⟨X.s_0, X.H_0, 0, [], []⟩
  exact ⟨g, tt, te, ⟨a1, b1, c1⟩, a2 i0, b2 i0, c2 i0⟩
theorem de_lc (b : Bool) {elt tg iter : Expr} {ifs : List Expr} {scope : Scope} (own : List (Str × Nat)) {pos : Pos} {di : DTI} {dg : DTG} {dt : DTT} {de : DTE} (hc : X.calm = true) (hN : X.N.Nodup) (hi : DI X tg iter di) (ok : blkC X.N X.env.scope scope own = true)
    (hg : ∀ i : BlkI, DGw (blkX X scope i) (own.map (·.2)) tg dg) (ht : ∀ i : BlkI, DTs (blkX X scope i) ifs dt) (he : ∀ i : BlkI, DE (blkX X scope i) elt de) (hs : ∀ x, foldedSetIterable iter X.env x = pure x := by intro _; rfl) :
    DE X (.ListComp elt [⟨tg, iter, ifs, 0⟩] scope pos) (dLc b di dg dt de (own.map (·.2))) := by
  obtain ⟨wi, a1, a2⟩ := hi
  obtain ⟨g, tt, te, ⟨b1, b2, b3⟩, s1, s2, s3⟩ := lc_parts hg ht he
  exact ⟨_, pe_lc hc hN a1 (blkOk_by ok) (fun s H C cl fp => b1 ⟨s, H, C, cl, fp⟩) (fun s H C cl fp => b2 ⟨s, H, C, cl, fp⟩) (fun s H C cl fp => b3 ⟨s, H, C, cl, fp⟩) hs, snd_lc a2 s1 s2 s3⟩
theorem ds_setLc (b : Bool) {i : Nat} {y : Str} {py : Pos} {elt tg iter : Expr} {ifs : List Expr} {scope : Scope} (own : List (Str × Nat)) {pos spos : Pos} {di : DTI} {dg : DTG} {dt : DTT} {de : DTE} (hc : X.calm = true) (hN : X.N.Nodup) (hi : DI X tg iter di) (ok : blkC X.N X.env.scope scope own = true)
    (hg : ∀ i : BlkI, DGw (blkX X scope i) (own.map (·.2)) tg dg) (ht : ∀ i : BlkI, DTs (blkX X scope i) ifs dt) (he : ∀ i : BlkI, DE (blkX X scope i) elt de) (hk : X.env.scope.kind = .function := by rfl) (hy : X.N[i]? = some y := by rfl) (hyl : X.env.scope.names.lookup y = some .local := by rfl)
    (hl : (py.line == pos.line) = true := by rfl) (ha : (scope.names.any fun (n, k) => n == y && (k == .local || k == .cell)) = false := by decide +kernel) (hs : ∀ x, foldedSetIterable iter X.env x = pure x := by intro _; rfl) :
    DS X (.Assign [.Name y py] (.ListComp elt [⟨tg, iter, ifs, 0⟩] scope pos) spos) (dSet i (dLc b di dg dt de (own.map (·.2)))) := by
  obtain ⟨wi, a1, a2⟩ := hi
  obtain ⟨g, tt, te, ⟨b1, b2, b3⟩, s1, s2, s3⟩ := lc_parts hg ht he
  have snd : SndE X.K (tLc wi g tt te (own.map (·.2))) (dLc b di dg dt de (own.map (·.2))) := snd_lc a2 s1 s2 s3
  exact ⟨_, ps_setLc hc hN hy hyl (sw_true hk hyl hl ha) a1 (blkOk_by ok) (fun s H C cl fp => b1 ⟨s, H, C, cl, fp⟩) (fun s H C cl fp => b2 ⟨s, H, C, cl, fp⟩) (fun s H C cl fp => b3 ⟨s, H, C, cl, fp⟩) hs, fun S E Δ D p q => snd S E p fun v F1 H1 as1 r cs1 g1 S1 l1 p1 => q.1 _ _ _ _ _ _ g1 S1 ((E.mono g1).set l1 i) p1⟩
end
end DL

/-! DL8: stores, methods, calls of defs, defs, repr. -/
namespace DL
open PySem L2 PyProof.Rows
section
variable {X : Cx} {K : PySem.W.Frag} {fr : List (Addr × HO)} {F F' H H' : Hp} {as as' : List Addr} {cs : Cells} {σ : L2.St} {ρ : Env}

/-! ### stores -/
theorem putG_put {κ : Type} [DecidableEq κ] {kvs : List (κ × V)} {es : List (κ × PyData)} (h : Paired (fun p q => p.1 = q.1 ∧ Rp K F p.2 q.2) kvs es) (k : κ) {v : V} {d : PyData} (r : Rp K F v d) : Paired (fun p q => p.1 = q.1 ∧ Rp K F p.2 q.2) (putK kvs k v) (putG es k d) := by
  have anyE : ∀ {kvs : List (κ × V)} {es : List (κ × PyData)}, Paired (fun p q => p.1 = q.1 ∧ Rp K F p.2 q.2) kvs es → (kvs.any fun p => decide (p.1 = k)) = (es.any fun p => decide (p.1 = k)) := by
    intro kvs es h
    induction h with
    | nil => rfl
    | cons a _ ih => rw [List.any_cons, List.any_cons, ih, a.1]
  have rep : ∀ {kvs : List (κ × V)} {es : List (κ × PyData)}, Paired (fun p q => p.1 = q.1 ∧ Rp K F p.2 q.2) kvs es → Paired (fun p q => p.1 = q.1 ∧ Rp K F p.2 q.2) (kvs.map fun kv => if kv.1 = k then (kv.1, v) else kv) (es.map fun kv => if kv.1 = k then (kv.1, d) else kv) := by
    intro kvs es h
    induction h with
    | nil => exact .nil
    | @cons p q l₁ l₂ a _ ih =>
      rw [List.map_cons, List.map_cons]
      refine .cons ?_ ih
      by_cases e : p.1 = k
      · rw [if_pos e, if_pos (a.1.symm.trans e)]
        exact ⟨a.1, r⟩
      · rw [if_neg e, if_neg (fun z => e (a.1.trans z))]
        exact a
  unfold putK putG
  rw [anyE h]
  split
  · exact rep h
  · exact h.snoc ⟨rfl, r⟩
abbrev DSet := DL.Loc → DL.Loc → DL.Loc → Cells → (Cells → Prop) → Prop
@[simp] def oSet : DSet := fun o i v cs Φ => match o, i, v with
  | .c j, .d i, .d y => (match cs[j]? with
    | some (.lst ds) => (match i with
      | .int k => ∃ n, ixN ds.length k = some n ∧ Φ (cs.set j (.lst (ds.set n y)))
      | _ => False)
    | some (.dk kvs) => (match keyOf i with
      | some k => kvs.length < sizeLine ∧ Φ (cs.set j (.dk (putG kvs k y)))
      | none => False)
    | some (.dt kvs) => (match i with
      | .tuple es => (match keysOf es with
        | some ks => kvs.length < sizeLine ∧ Φ (cs.set j (.dt (putG kvs ks y)))
        | none => False)
      | _ => False)
    | _ => False)
  | _, _, _ => False
def rSetU : TSet := fun o i v H Q => rSetL o i v H Q ∨ ∃ a H', o = .ref a ∧ DPut H a i v H' ∧ Q H'
theorem set_dic (hu : X.A.units + 1 < cLine) : PSet X (fun o i v H Q => ∃ a H', o = .ref a ∧ DPut H a i v H' ∧ Q H') := by
  intro pins s σ H o i v ov iv u Q I ro ri rv h
  obtain ⟨a, H', rfl, g, q⟩ := h
  cases ro
  exact d_setItem hu I g ri rv fun s' I' => ⟨H', I', q⟩
theorem pset_or {t u : TSet} (h1 : PSet X t) (h2 : PSet X u) : PSet X (fun o i v H Q => t o i v H Q ∨ u o i v H Q) := by
  intro pins s σ H o i v ov iv w Q I ro ri rv h
  rcases h with h | h
  · exact h1 pins s σ H o i v ov iv w Q I ro ri rv h
  · exact h2 pins s σ H o i v ov iv w Q I ro ri rv h
theorem Paired.len {α β : Type} {R : α → β → Prop} {l₁ : List α} {l₂ : List β} (h : Paired R l₁ l₂) : l₁.length = l₂.length := Paired.length h
theorem dg_sub (hu : X.A.units + 1 < cLine) {o i : Expr} {t u : DTE} {pos : Pos} (ho : DE X o t) (hi : DE X i u)
    (ha : ∀ v, assign (.Subscript o i pos) X.env v = (do
      let ov ← holding [v] (eval o X.env)
      let iv ← holding [v, ov] (eval i X.env)
      standAt pos
      holding [v, ov, iv] (setItem ov iv v)
      release [v, ov, iv] []) := by intro _; rfl) : DG X (.Subscript o i pos) (fun r ρ cs k => t ρ cs fun x cs1 => u ρ cs1 fun y cs2 => oSet x y r cs2 fun cs3 => k ρ cs3) := by
  obtain ⟨te, a1, a2⟩ := ho
  obtain ⟨ue, b1, b2⟩ := hi
  refine ⟨_, pg_sub a1 b1 (pset_or set_list (set_dic hu)) ha, fun S E l Φ Q p q => a2 S E p fun v1 F1 H1 as1 x cs1 g1 S1 l1 p1 => b2 S1 (E.mono g1) p1 fun v2 F2 H2 as2 y cs2 g2 S2 l2 p2 => ?_⟩
  have gm := g1.trans g2
  have l3 := l.mono gm
  replace l1 := l1.mono g2
  unfold oSet at p2
  split at p2
  · rename_i j i y
    obtain ⟨a, ea, rfl⟩ := l1
    have l2 : Rp X.K F2 v2 i := l2
    have l3 : Rp X.K F2 _ y := l3
    split at p2
    · rename_i ds e
      obtain ⟨b, eb, ok⟩ := S2.at e
      rw [ea] at eb
      cases eb
      obtain ⟨nF, ws, hw, rr⟩ := ok
      split at p2
      · rename_i k
        obtain ⟨n, hn, p2⟩ := p2
        cases l2
        refine .inl ⟨a, ws, _, n, rfl, rfl, hw, by rw [rr.length]; exact hn, ?_⟩
        exact q _ _ _ _ _ _ gm (S2.put (c := .lst (ds.set n y)) ea nF ⟨nF, _, upd_same, rr.set l3 n⟩) (E.mono gm) p2
      · exact p2.elim
    · rename_i kvs e
      obtain ⟨b, eb, ok⟩ := S2.at e
      rw [ea] at eb
      cases eb
      obtain ⟨nF, ws, hw, rr⟩ := ok
      split at p2
      · rename_i k ek
        obtain ⟨hl, p2⟩ := p2
        have ek := keyOf_ok ek
        subst ek
        rw [rp_key l2]
        refine .inr ⟨a, _, rfl, .inl ⟨ws, k, hw, rfl, by rw [Paired.len rr]; exact hl, rfl⟩, ?_⟩
        exact q _ _ _ _ _ _ gm (S2.put (c := .dk (putG kvs k y)) ea nF ⟨nF, _, upd_same, putG_put rr k l3⟩) (E.mono gm) p2
      · exact p2.elim
    · rename_i kvs e
      obtain ⟨b, eb, ok⟩ := S2.at e
      rw [ea] at eb
      cases eb
      obtain ⟨nF, ws, hw, rr⟩ := ok
      split at p2
      · rename_i es
        split at p2
        · rename_i ks ek
          obtain ⟨hl, p2⟩ := p2
          have ek := keysOf_ok ek
          subst ek
          cases l2 with
          | tup b1 b2 =>
            rw [rp_keys b2] at b1
            refine .inr ⟨a, _, rfl, .inr ⟨ws, ks, _, hw, rfl, S2.ext.exact b1 rfl, by rw [Paired.len rr]; exact hl, rfl⟩, ?_⟩
            exact q _ _ _ _ _ _ gm (S2.put (c := .dt (putG kvs ks y)) ea nF ⟨nF, _, upd_same, putG_put rr ks l3⟩) (E.mono gm) p2
        · exact p2.elim
      · exact p2.elim
    · exact p2.elim
  · exact p2.elim

/-! ### methods of lists -/
abbrev DRM := DL.Loc → List DL.Loc → Cells → EK → Prop
def SndM (K : PySem.W.Frag) (r : V → List V → Hp → VK → Prop) (o : DRM) : Prop := ∀ {fr F H as cs v vs x rs}, Stt K fr F H as cs → LocOk K F as v x → Paired (LocOk K F as) vs rs → ∀ {Φ : EK} {Q : VK}, o x rs cs Φ → PostE K fr F as Φ Q → r v vs H Q
@[simp] def dBM (o : DRM) (to : DTE) (t : DTA) : DTE := fun ρ cs Φ => to ρ cs fun x cs1 => (lstOf x cs1).isSome = true ∧ t ρ cs1 fun rs cs2 => o x rs cs2 Φ
@[simp] def dBM0 (o : DRM) (to : DTE) : DTE := fun ρ cs Φ => to ρ cs fun x cs1 => (lstOf x cs1).isSome = true ∧ o x [] cs1 Φ
theorem lst_ty {x : DL.Loc} {v : V} (S : Stt K fr F H as cs) (l : LocOk K F as v x) (h : (lstOf x cs).isSome = true) : tyV K "list" v H := by
  obtain ⟨ds, e⟩ := Option.isSome_iff_exists.mp h
  obtain ⟨a, vs, rfl, ha, r⟩ := lstOf_ok S l e
  exact .inl ⟨rfl, vs, SqL.of ha⟩
theorem de_bm {o : DRM} {id : String} {r : V → List V → Hp → VK → Prop} {name : Str} {e0 e : Expr} {es : List Expr} {apos cpos : Pos} {to : DTE} {t : DTA} (slot : Slot "list" name id) (hty : typeOf (.builtin id) = pure (.type "method_descriptor")) (hm : MtM X id r) (hs : SndM X.K r o) (ho : DE X e0 to) (ha : DA X (e :: es) t)
    (hbase : attributeBase e0 name X.env (eval e0 X.env) = eval e0 X.env := by rfl)
    (hfew : ((backTo cpos (starEach (e :: es) X.env)).all (fun x => !x.1) && (backToKw cpos (keywordEach [] X.env)).all (fun x => x.1.isSome)
      && decide ((e :: es).length + ([] : List Keyword).length + (if ([] : List Keyword).isEmpty then 0 else 1) < 30)) = true := by rfl)
    (hline : (apos.endLine == cpos.line) = true := by rfl) (hs1 : starEach (e :: es) X.env = (false, eval e X.env) :: starEach es X.env := by rfl) (hplain : (backTo cpos (starEach es X.env)).any (·.1) = false := by rfl) :
    DE X (.Call (.Attribute e0 name apos) (e :: es) [] cpos) (dBM o to t) := by
  obtain ⟨te, a1, a2⟩ := ho
  obtain ⟨ta, b1, b2⟩ := ha
  exact ⟨_, pe_bm PySem.F.plainAttrs_list slot hty hm a1 b1 hbase hfew hline hs1 hplain, fun S E Φ Q p q => a2 S E p fun v F1 H1 as1 x cs1 g1 S1 l1 p1 => ⟨lst_ty S1 l1 p1.1, b2 S1 (E.mono g1) p1.2 fun vs F2 H2 as2 rs cs2 hlen g2 S2 l2 p2 => hs S2 (l1.mono g2) l2 p2 (q.mono (g1.trans g2))⟩⟩
theorem de_bm0 {o : DRM} {id : String} {r : V → List V → Hp → VK → Prop} {name : Str} {e0 : Expr} {apos cpos : Pos} {to : DTE} (slot : Slot "list" name id) (hty : typeOf (.builtin id) = pure (.type "method_descriptor")) (hm : MtM X id r) (hs : SndM X.K r o) (ho : DE X e0 to)
    (hbase : attributeBase e0 name X.env (eval e0 X.env) = eval e0 X.env := by rfl) (hline : (apos.endLine == cpos.line) = true := by rfl) : DE X (.Call (.Attribute e0 name apos) [] [] cpos) (dBM0 o to) := by
  obtain ⟨te, a1, a2⟩ := ho
  exact ⟨_, pe_bm0 PySem.F.plainAttrs_list slot hty hm a1 hbase hline, fun S E Φ Q p q => a2 S E p fun v F1 H1 as1 x cs1 g1 S1 l1 p1 => ⟨lst_ty S1 l1 p1.1, hs S1 l1 .nil p1.2 (q.mono g1)⟩⟩
theorem cell_lst {j : Nat} {v : V} {ds : List PyData} (S : Stt K fr F H as cs) (l : LocOk K F as v (.c j)) (e : cs[j]? = some (.lst ds)) : ∃ a ws, as[j]? = some a ∧ v = .ref a ∧ F a = none ∧ H a = some (.lst ws) ∧ RpAll K F ws ds := by
  obtain ⟨a, ea, rfl⟩ := l
  obtain ⟨b, eb, ok⟩ := S.at e
  rw [ea] at eb
  cases eb
  obtain ⟨nF, ws, hw, rr⟩ := ok
  exact ⟨a, ws, ea, rfl, nF, hw, rr⟩
@[simp] def oAppend : DRM := fun x rs cs Φ => match x, rs with
  | .c j, [.d y] => (match cs[j]? with
    | some (.lst ds) => ds.length < sizeLine ∧ Φ (.d .none) (cs.set j (.lst (ds ++ [y])))
    | _ => False)
  | _, _ => False
theorem snd_append : SndM K rAppend oAppend := fun S l lr Φ Q h q => by
  unfold oAppend at h
  split at h
  · rename_i j y
    obtain ⟨u, rfl, l2⟩ := pair1 lr
    split at h
    · rename_i ds e
      obtain ⟨a, ws, ea, rfl, nF, hw, rr⟩ := cell_lst S l e
      refine ⟨a, ws, u, rfl, rfl, hw, by rw [rr.length]; exact h.1, ?_⟩
      exact q _ _ _ _ (.d .none) _ Le.refl (S.put (c := .lst (ds ++ [y])) ea nF ⟨nF, _, upd_same, rr.append (.cons l2 .nil)⟩) .non h.2
    · exact h.elim
  · exact h.elim
theorem de_append {e0 e : Expr} {apos cpos : Pos} {to t : DTE} (ho : DE X e0 to) (ha : DE X e t)
    (hbase : attributeBase e0 "append" X.env (eval e0 X.env) = eval e0 X.env := by rfl)
    (hfew : ((backTo cpos (starEach [e] X.env)).all (fun x => !x.1) && (backToKw cpos (keywordEach [] X.env)).all (fun x => x.1.isSome)
      && decide ([e].length + ([] : List Keyword).length + (if ([] : List Keyword).isEmpty then 0 else 1) < 30)) = true := by rfl)
    (hline : (apos.endLine == cpos.line) = true := by rfl) (hs1 : starEach [e] X.env = (false, eval e X.env) :: starEach [] X.env := by rfl) (hplain : (backTo cpos (starEach [] X.env)).any (·.1) = false := by rfl) :
    DE X (.Call (.Attribute e0 "append" apos) [e] [] cpos) (dBM oAppend to (dCons t dNil)) :=
  de_bm PySem.F.slot_list_append PySem.F.type_list_append mt_append snd_append ho (da_cons ha da_nil hs1) hbase hfew hline hs1 hplain
/-- xs.pop(i), i from 0 on -/
@[simp] def oPopAt : DRM := fun x rs cs Φ => match x, rs with
  | .c j, [.d (.int k)] => (match cs[j]? with
    | some (.lst ds) => 0 ≤ k ∧ k < 2 ^ 62 ∧ ∃ d, ds[k.toNat]? = some d ∧ Φ (.d d) (cs.set j (.lst (ds.eraseIdx k.toNat)))
    | _ => False)
  | _, _ => False
theorem snd_popAt : SndM K rPopAt oPopAt := fun S l lr Φ Q h q => by
  unfold oPopAt at h
  split at h
  · rename_i j k
    obtain ⟨u, rfl, l2⟩ := pair1 lr
    cases l2
    split at h
    · rename_i ds e
      obtain ⟨h0, h1, d, hd, h⟩ := h
      obtain ⟨a, ws, ea, rfl, nF, hw, rr⟩ := cell_lst S l e
      obtain ⟨w, hw2, rw2⟩ := rr.get hd
      have hlt : k.toNat < ws.length := (List.getElem?_eq_some_iff.mp hw2).1
      refine ⟨a, ws, k, k.toNat, w, rfl, rfl, hw, by omega, by omega, seqIndex_of h0 (by omega), hw2, ?_⟩
      exact q _ _ _ _ (.d d) _ Le.refl (S.put (c := .lst (ds.eraseIdx k.toNat)) ea nF ⟨nF, _, upd_same, rr.eraseIdx _⟩) rw2 h
    · exact h.elim
  · exact h.elim
theorem de_popAt {e0 e : Expr} {apos cpos : Pos} {to t : DTE} (ho : DE X e0 to) (ha : DE X e t)
    (hbase : attributeBase e0 "pop" X.env (eval e0 X.env) = eval e0 X.env := by rfl)
    (hfew : ((backTo cpos (starEach [e] X.env)).all (fun x => !x.1) && (backToKw cpos (keywordEach [] X.env)).all (fun x => x.1.isSome)
      && decide ([e].length + ([] : List Keyword).length + (if ([] : List Keyword).isEmpty then 0 else 1) < 30)) = true := by rfl)
    (hline : (apos.endLine == cpos.line) = true := by rfl) (hs1 : starEach [e] X.env = (false, eval e X.env) :: starEach [] X.env := by rfl) (hplain : (backTo cpos (starEach [] X.env)).any (·.1) = false := by rfl) :
    DE X (.Call (.Attribute e0 "pop" apos) [e] [] cpos) (dBM oPopAt to (dCons t dNil)) :=
  de_bm PySem.F.slot_list_pop PySem.F.type_list_pop mt_popAt snd_popAt ho (da_cons ha da_nil hs1) hbase hfew hline hs1 hplain
/-- xs.pop() -/
@[simp] def oPop : DRM := fun x rs cs Φ => match x, rs with
  | .c j, [] => (match cs[j]? with
    | some (.lst ds) => ∃ d, ds[ds.length - 1]? = some d ∧ Φ (.d d) (cs.set j (.lst ds.dropLast))
    | _ => False)
  | _, _ => False
theorem snd_pop : SndM K rPop oPop := fun S l lr Φ Q h q => by
  unfold oPop at h
  split at h
  · rename_i j
    cases lr
    split at h
    · rename_i ds e
      obtain ⟨d, hd, h⟩ := h
      obtain ⟨a, ws, ea, rfl, nF, hw, rr⟩ := cell_lst S l e
      obtain ⟨w, hw2, rw2⟩ := rr.get hd
      refine ⟨a, ws, w, rfl, rfl, hw, by rw [rr.length]; exact hw2, ?_⟩
      exact q _ _ _ _ (.d d) _ Le.refl (S.put (c := .lst ds.dropLast) ea nF ⟨nF, _, upd_same, rr.dropLast⟩) rw2 h
    · exact h.elim
  · exact h.elim
theorem de_pop {e0 : Expr} {apos cpos : Pos} {to : DTE} (ho : DE X e0 to) (hbase : attributeBase e0 "pop" X.env (eval e0 X.env) = eval e0 X.env := by rfl) (hline : (apos.endLine == cpos.line) = true := by rfl) :
    DE X (.Call (.Attribute e0 "pop" apos) [] [] cpos) (dBM0 oPop to) := de_bm0 PySem.F.slot_list_pop PySem.F.type_list_pop mt_pop snd_pop ho hbase hline
/-- xs.extend(ys), two lists -/
@[simp] def oExtend : DRM := fun x rs cs Φ => match x, rs with
  | .c j, [y] => (match cs[j]?, lstOf y cs with
    | some (.lst ds), some es => ds.length + es.length ≤ sizeLine ∧ Φ (.d .none) (cs.set j (.lst (ds ++ es)))
    | _, _ => False)
  | _, _ => False
theorem snd_extend : SndM K rExtend oExtend := fun S l lr Φ Q h q => by
  unfold oExtend at h
  split at h
  · rename_i j y
    obtain ⟨u, rfl, l2⟩ := pair1 lr
    split at h
    · rename_i ds es e e2
      obtain ⟨a, ws, ea, rfl, nF, hw, rr⟩ := cell_lst S l e
      obtain ⟨b, us, rfl, hb, r2⟩ := lstOf_ok S l2 e2
      refine ⟨a, b, ws, us, rfl, rfl, hw, hb, by rw [rr.length, r2.length]; exact h.1, ?_⟩
      exact q _ _ _ _ (.d .none) _ Le.refl (S.put (c := .lst (ds ++ es)) ea nF ⟨nF, _, upd_same, rr.append r2⟩) .non h.2
    · exact h.elim
  · exact h.elim
theorem de_extend {e0 e : Expr} {apos cpos : Pos} {to t : DTE} (ho : DE X e0 to) (ha : DE X e t)
    (hbase : attributeBase e0 "extend" X.env (eval e0 X.env) = eval e0 X.env := by rfl)
    (hfew : ((backTo cpos (starEach [e] X.env)).all (fun x => !x.1) && (backToKw cpos (keywordEach [] X.env)).all (fun x => x.1.isSome)
      && decide ([e].length + ([] : List Keyword).length + (if ([] : List Keyword).isEmpty then 0 else 1) < 30)) = true := by rfl)
    (hline : (apos.endLine == cpos.line) = true := by rfl) (hs1 : starEach [e] X.env = (false, eval e X.env) :: starEach [] X.env := by rfl) (hplain : (backTo cpos (starEach [] X.env)).any (·.1) = false := by rfl) :
    DE X (.Call (.Attribute e0 "extend" apos) [e] [] cpos) (dBM oExtend to (dCons t dNil)) :=
  de_bm PySem.F.slot_list_extend PySem.F.type_list_extend mt_extend snd_extend ho (da_cons ha da_nil hs1) hbase hfew hline hs1 hplain
/-- xs.remove(k), ints, k in it -/
def oRemove : DRM := fun x rs cs Φ => match x, rs with
  | .c j, [.d (.int k)] => ∃ ns : List Int, cs[j]? = some (.lst (ns.map .int)) ∧ k ∈ ns ∧ Φ (.d .none) (cs.set j (.lst ((ns.erase k).map .int)))
  | _, _ => False
theorem snd_remove : SndM K rRemI oRemove := fun S l lr Φ Q h q => by
  unfold oRemove at h
  split at h
  · rename_i j k
    obtain ⟨u, rfl, l2⟩ := pair1 lr
    cases l2
    obtain ⟨ns, e, hk, h⟩ := h
    obtain ⟨a, ws, ea, rfl, nF, hw, rr⟩ := cell_lst S l e
    rw [rr.ints] at hw
    obtain ⟨i, hi, h1, h2, h3⟩ := L2.first_at hk
    refine ⟨a, ns, k, i, rfl, rfl, hw, h1, h2, ?_⟩
    rw [h3]
    exact q _ _ _ _ (.d .none) _ Le.refl (S.put (c := .lst ((ns.erase k).map .int)) ea nF ⟨nF, _, upd_same, RpAll.of_ints _⟩) .non h
  · exact h.elim
theorem de_remove {e0 e : Expr} {apos cpos : Pos} {to t : DTE} (ho : DE X e0 to) (ha : DE X e t)
    (hbase : attributeBase e0 "remove" X.env (eval e0 X.env) = eval e0 X.env := by rfl)
    (hfew : ((backTo cpos (starEach [e] X.env)).all (fun x => !x.1) && (backToKw cpos (keywordEach [] X.env)).all (fun x => x.1.isSome)
      && decide ([e].length + ([] : List Keyword).length + (if ([] : List Keyword).isEmpty then 0 else 1) < 30)) = true := by rfl)
    (hline : (apos.endLine == cpos.line) = true := by rfl) (hs1 : starEach [e] X.env = (false, eval e X.env) :: starEach [] X.env := by rfl) (hplain : (backTo cpos (starEach [] X.env)).any (·.1) = false := by rfl) :
    DE X (.Call (.Attribute e0 "remove" apos) [e] [] cpos) (dBM oRemove to (dCons t dNil)) :=
  de_bm PySem.F.slot_list_remove PySem.F.type_list_remove mt_remove snd_remove ho (da_cons ha da_nil hs1) hbase hfew hline hs1 hplain
end
end DL

/-! DL9: calls of defs and defs themselves, where no guard is laid; repr. -/
namespace DL
open PySem L2 PyProof.Rows
section
variable {K : PySem.W.Frag} {fr : List (Addr × HO)} {F F' H H' : Hp} {as as' : List Addr} {cs : Cells} {σ : L2.St} {ρ : Env}
/-- all of them data, owned lists as they stand -/
@[simp] def allB (cs : Cells) : List DL.Loc → Option (List PyData)
  | [] => some []
  | .d x :: r => match allB cs r with
    | some ds => some (x :: ds)
    | none => none
  | .c i :: r => match cs[i]?, allB cs r with
    | some (.lst es), some ds => some (.list es :: ds)
    | _, _ => none
  | .s _ :: _ => none
@[simp] def atomD : PyData → Bool
  | .none => true
  | .bool _ => true
  | .int _ => true
  | .str _ => true
  | _ => false
theorem atom_rp {v : V} {d : PyData} (h : Rp K F v d) (a : atomD d = true) (F' : Hp) : Rp K F' v d := by
  cases h <;> first | exact .non | exact .bl _ | exact .int _ | exact .str _ | cases a
def lent (as : List Addr) : List DL.Loc → List Addr
  | [] => []
  | .c i :: r => match as[i]? with
    | some l => l :: lent as r
    | none => lent as r
  | _ :: r => lent as r
theorem lent_as {l : Addr} : ∀ {rs : List DL.Loc}, l ∈ lent as rs → ∃ i, DL.Loc.c i ∈ rs ∧ as[i]? = some l
  | [], h => nomatch h
  | .d _ :: r, h => by
    obtain ⟨i, a, b⟩ := lent_as (rs := r) h
    exact ⟨i, List.mem_cons_of_mem _ a, b⟩
  | .s _ :: r, h => by
    obtain ⟨i, a, b⟩ := lent_as (rs := r) h
    exact ⟨i, List.mem_cons_of_mem _ a, b⟩
  | .c j :: r, h => by
    have h : l ∈ (match as[j]? with | some l => l :: lent as r | none => lent as r) := h
    cases e : as[j]? with
    | none =>
      rw [e] at h
      obtain ⟨i, a, b⟩ := lent_as (rs := r) h
      exact ⟨i, List.mem_cons_of_mem _ a, b⟩
    | some m =>
      rw [e] at h
      rcases List.mem_cons.mp h with rfl | h
      · exact ⟨j, List.mem_cons_self, e⟩
      · obtain ⟨i, a, b⟩ := lent_as (rs := r) h
        exact ⟨i, List.mem_cons_of_mem _ a, b⟩
theorem allB_cell {i : Nat} : ∀ {rs : List DL.Loc} {ds : List PyData}, allB cs rs = some ds → DL.Loc.c i ∈ rs → ∃ es, cs[i]? = some (.lst es)
  | [], _, _, h => nomatch h
  | .d x :: r, ds, e, h => by
    have e : (match allB cs r with | some ds => some (x :: ds) | none => none) = some ds := e
    split at e
    · rename_i q
      rcases List.mem_cons.mp h with z | z
      · cases z
      · exact allB_cell q z
    · cases e
  | .s _ :: r, ds, e, h => by cases e
  | .c j :: r, ds, e, h => by
    have e : (match cs[j]?, allB cs r with | some (.lst es), some ds => some (PyData.list es :: ds) | _, _ => none) = some ds := e
    split at e
    · rename_i q1 q2
      rcases List.mem_cons.mp h with z | z
      · cases z
        exact ⟨_, q1⟩
      · exact allB_cell q2 z
    · cases e
theorem allB_rp {G : Hp} (S : Stt K fr F H as cs) (eG : Ext F G) : ∀ {rs : List DL.Loc} {vs : List V} {ds : List PyData}, Paired (LocOk K F as) vs rs → allB cs rs = some ds → (∀ l ∈ lent as rs, G l = H l) → RpAll K G vs ds
  | _, _, _, .nil, e, _ => by
    cases e
    exact .nil
  | .d x :: r, _, ds, .cons h t, e, hl => by
    have e : (match allB cs r with | some ds => some (x :: ds) | none => none) = some ds := e
    split at e
    · rename_i q
      cases e
      exact .cons (Rp.mono eG h) (allB_rp S eG t q hl)
    · cases e
  | .s _ :: _, _, _, .cons h t, e, _ => by cases e
  | .c i :: r, _, ds, .cons h t, e, hl => by
    have e : (match cs[i]?, allB cs r with | some (.lst es), some ds => some (PyData.list es :: ds) | _, _ => none) = some ds := e
    split at e
    · rename_i es ds' q1 q2
      cases e
      obtain ⟨a, ws, ea, rfl, nF, hw, rr⟩ := cell_lst S h q1
      have hm : lent as (.c i :: r) = a :: lent as r := by
        show (match as[i]? with | some l => l :: lent as r | none => lent as r) = _
        rw [ea]
      rw [hm] at hl
      exact .cons (.lst ((hl a List.mem_cons_self).trans hw) (rr.mono eG)) (allB_rp S eG t q2 fun l z => hl l (List.mem_cons_of_mem _ z))
    · cases e
theorem lent_allD {rs : List DL.Loc} {ds : List PyData} (h : allD rs = some ds) : lent as rs = [] := by
  induction rs generalizing ds with
  | nil => rfl
  | cons r rs ih =>
    cases r with
    | d x =>
      have h : (match allD rs with | some ds => some (x :: ds) | none => none) = some ds := h
      split at h
      · rename_i q
        exact ih q
      · cases h
    | c i => cases h
    | s ns => cases h
/-- the caller's cells that are hidden from the callee -/
def hid (F H : Hp) (B : List Addr) : List Addr → List (Addr × HO)
  | [] => []
  | l :: as => match F l, H l with
    | none, some o => if l ∈ B then hid F H B as else (l, o) :: hid F H B as
    | _, _ => hid F H B as
theorem hid_mem {B : List Addr} {p : Addr × HO} : ∀ {as : List Addr}, p ∈ hid F H B as → p.1 ∈ as ∧ F p.1 = none ∧ H p.1 = some p.2 ∧ p.1 ∉ B
  | [], h => nomatch h
  | l :: as, h => by
    have h : p ∈ (match F l, H l with | none, some o => if l ∈ B then hid F H B as else (l, o) :: hid F H B as | _, _ => hid F H B as) := h
    split at h
    · rename_i o e1 e2
      split at h
      · obtain ⟨a, b⟩ := hid_mem h
        exact ⟨List.mem_cons_of_mem _ a, b⟩
      · rename_i nb
        rcases List.mem_cons.mp h with rfl | h
        · exact ⟨List.mem_cons_self, e1, e2, nb⟩
        · obtain ⟨a, b⟩ := hid_mem h
          exact ⟨List.mem_cons_of_mem _ a, b⟩
    · obtain ⟨a, b⟩ := hid_mem h
      exact ⟨List.mem_cons_of_mem _ a, b⟩
theorem mem_hid {B : List Addr} {l : Addr} {o : HO} (h1 : F l = none) (h2 : H l = some o) (h3 : l ∉ B) : ∀ {as : List Addr}, l ∈ as → (l, o) ∈ hid F H B as
  | [], h => nomatch h
  | m :: as, h => by
    show (l, o) ∈ (match F m, H m with | none, some o => if m ∈ B then hid F H B as else (m, o) :: hid F H B as | _, _ => hid F H B as)
    rcases List.mem_cons.mp h with rfl | h
    · rw [h1, h2]
      simp only [if_neg h3]
      exact List.mem_cons_self
    · have := mem_hid h1 h2 h3 h
      split
      · split
        · exact this
        · exact List.mem_cons_of_mem _ this
      · exact this
theorem hid_sub {B : List Addr} : ∀ as : List Addr, List.Sublist ((hid F H B as).map Prod.fst) as
  | [] => .slnil
  | l :: as => by
    show List.Sublist (List.map Prod.fst (match F l, H l with | none, some o => if l ∈ B then hid F H B as else (l, o) :: hid F H B as | _, _ => hid F H B as)) (l :: as)
    split
    · split
      · exact (hid_sub as).cons _
      · exact (hid_sub as).cons_cons _
    · exact (hid_sub as).cons _
theorem call_core {vs : List V} {rs : List DL.Loc} {ds : List PyData} (S : Stt K fr F H as cs) (l : Paired (LocOk K F as) vs rs) (h : allB cs rs = some ds) : ∃ G fr2, Stt K fr2 G H [] [] ∧ RpAll K G vs ds ∧
    ∀ F' H', Ext G F' → Stt K fr2 F' H' [] [] → ∃ F'', Ext F F'' ∧ Stt K fr F'' H' as cs ∧ (∀ v d, Rp K F' v d → (atomD d = true ∨ (allD rs).isSome = true) → Rp K F'' v d) := by
  have inB : ∀ l ∈ lent as rs, ∃ ws, F l = none ∧ H l = some (.lst ws) := fun l hl => by
    obtain ⟨i, a, b⟩ := lent_as hl
    obtain ⟨es, e⟩ := allB_cell h a
    obtain ⟨m, em, ok⟩ := S.at e
    rw [b] at em
    cases em
    obtain ⟨nF, ws, hw, _⟩ := ok
    exact ⟨ws, nF, hw⟩
  have nd := S.nd
  rw [List.nodup_append] at nd
  have eG : Ext F (fun a => if a ∈ lent as rs then H a else F a) := fun a x e => ⟨x, by
    have : a ∉ lent as rs := fun z => by
      obtain ⟨ws, n, _⟩ := inB a z
      rw [n] at e
      cases e
    simp only [if_neg this]
    exact e, .inl rfl⟩
  refine ⟨fun a => if a ∈ lent as rs then H a else F a, hid F H (lent as rs) as ++ fr, ⟨fun a x e => ?_, ?_, .nil, fun p hp => ?_⟩, allB_rp S eG l h (fun l hl => if_pos hl), fun F' H' e' S' => ?_⟩
  · by_cases ha : a ∈ lent as rs
    · simp only [if_pos ha] at e
      exact ⟨x, e, .inl rfl⟩
    · simp only [if_neg ha] at e
      exact S.ext a x e
  · rw [List.nil_append, List.map_append, List.nodup_append]
    exact ⟨nd.1.sublist (hid_sub as), nd.2.1, fun a ha b hb => nd.2.2 a ((hid_sub as).subset ha) b hb⟩
  · rcases List.mem_append.mp hp with hp | hp
    · obtain ⟨a, b, c, d⟩ := hid_mem hp
      exact ⟨c, (if_neg d).trans b⟩
    · have hn : p.1 ∉ lent as rs := fun z => by
        obtain ⟨i, _, q⟩ := lent_as z
        exact nd.2.2 p.1 (List.mem_of_getElem? q) p.1 (List.mem_map_of_mem hp) rfl
      exact ⟨(S.frm p hp).1, (if_neg hn).trans (S.frm p hp).2⟩
  · have e2 : Ext F (fun a => if a ∈ lent as rs then none else F' a) := fun a x e => by
      have hn : a ∉ lent as rs := fun z => by
        obtain ⟨ws, n, _⟩ := inB a z
        rw [n] at e
        cases e
      obtain ⟨y, hy, q⟩ := e' a x ((if_neg hn).trans e)
      exact ⟨y, (if_neg hn).trans hy, q⟩
    refine ⟨_, e2, ⟨fun a x e => ?_, S.nd, ?_, fun p hp => ?_⟩, fun v d r q => ?_⟩
    · by_cases ha : a ∈ lent as rs
      · simp only [if_pos ha] at e
        cases e
      · simp only [if_neg ha] at e
        exact S'.ext a x e
    · have go : ∀ {as2 : List Addr} {cs2 : Cells}, Paired (CellOk K F H) as2 cs2 → (∀ l ∈ as2, l ∈ as) → Paired (CellOk K (fun a => if a ∈ lent as rs then none else F' a) H') as2 cs2 := by
        intro as2 cs2 hp
        induction hp with
        | nil => intro _; exact .nil
        | @cons m c l₁ l₂ hc _ ih =>
          intro hs
          refine .cons ?_ (ih fun l hl => hs l (List.mem_cons_of_mem _ hl))
          by_cases hm : m ∈ lent as rs
          · obtain ⟨ws, n, hw⟩ := inB m hm
            have g1 : F' m = some (.lst ws) := e'.exact ((if_pos hm).trans hw) rfl
            have g2 : H' m = some (.lst ws) := S'.ext.exact g1 rfl
            exact hc.keep e2 (fun _ => if_pos hm) (g2.trans hw.symm)
          · cases hF : F m with
            | some o =>
              cases c with
              | dead =>
                obtain ⟨y, hy, _⟩ := e2 m o hF
                exact ⟨y, hy⟩
              | lst ds => exact absurd (hF.symm.trans hc.1) (fun z => nomatch z)
              | dk ds => exact absurd (hF.symm.trans hc.1) (fun z => nomatch z)
              | dt ds => exact absurd (hF.symm.trans hc.1) (fun z => nomatch z)
              | hand => exact absurd (hF.symm.trans hc.1) (fun z => nomatch z)
            | none =>
              obtain ⟨o, ho⟩ := hc.live S.ext
              obtain ⟨g1, g2⟩ := S'.frm (m, o) (List.mem_append_left _ (mem_hid hF ho hm (hs m List.mem_cons_self)))
              exact hc.keep e2 (fun _ => (if_neg hm).trans g2) (g1.trans ho.symm)
      exact go S.own fun _ z => z
    · obtain ⟨g1, g2⟩ := S'.frm p (List.mem_append_right _ hp)
      refine ⟨g1, ?_⟩
      by_cases ha : p.1 ∈ lent as rs
      · exact if_pos ha
      · exact (if_neg ha).trans g2
    · rcases q with q | q
      · exact atom_rp r q _
      · obtain ⟨ds', e⟩ := Option.isSome_iff_exists.mp q
        have : (fun a => if a ∈ lent as rs then none else F' a) = F' := by
          funext a
          rw [lent_allD e]
          exact if_neg (fun z => nomatch z)
        rw [this]
        exact r
end

/-! ### defs where no guard is laid -/
structure FnG (P : Program) (w : World) (K : PySem.W.Frag) (mg : Str → Option Value) (base : Heap) (k : Nat) (f : Addr) (fd : FuncData) (ps : List Str) (sp : List V → Hp → VK → Prop) : Prop where
  len : ∀ vs H Q, sp vs H Q → vs.length = ps.length
  run : ∀ (A : Around) (outer : List PySem.Env) (s : Shared) (H : Hp) (args : Args) (us : List Value) (vs : List V) (Q : VK), A.guards = some [] → Room k A → Env0 P w K mg base A outer s H → BindsTo s fd args (ps.zip us) → Vals vs us → sp vs H Q →
    codeAny (model P w) A (.call (.ref f) args) (CR CX0 outer P w H s Q E0) s
theorem FnG.mono {P : Program} {w : World} {K : PySem.W.Frag} {mg : Str → Option Value} {base : Heap} {j k : Nat} {f : Addr} {fd : FuncData} {ps : List Str} {sp : List V → Hp → VK → Prop} (G : FnG P w K mg base j f fd ps sp) (h : j ≤ k) : FnG P w K mg base k f fd ps sp :=
  ⟨G.len, fun A outer s H args us vs Q hg hr => G.run A outer s H args us vs Q hg (hr.mono h)⟩
/-- a def by its body -/
theorem fnG_of {P : Program} {w : World} {K : PySem.W.Frag} {mg : Str → Option Value} {base : Heap} {k : Nat} {x qual : Str} {st : Stmt} {f : Addr} {fd : FuncData} {N ps : List Str} {sp : List V → Hp → VK → Prop} (D : Fun K x qual st f fd) (S : FnScope N ps (defScope st)) (len : ∀ vs H Q, sp vs H Q → vs.length = ps.length)
    (body : ∀ (cdv : Value) (A : Around) (outer : List PySem.Env) (s : Shared) (H : Hp) (vs : List V) (Q : VK), A.guards = some [] → Room k (A.deeper (envOfC qual (defScope st) s.heap.objs.size f cdv)) → sp vs H Q →
      ∃ t, PSs (cxOf CX0 P w K mg base N qual (defScope st) f cdv A outer s H E0).nox (defBody st) t ∧ t { nx := fun _ H' => Q .non H', rt := Q } (start N vs) H) : FnG P w K mg base (k + 1) f fd ps sp := by
  obtain ⟨oc, od, kV, doc, pm, an, cdv, ct, osl, rfl, lk, hcd⟩ := D.ex
  refine ⟨len, fun A outer s H args us vs Q hg hr e0 hb r hsp => ?_⟩
  have nl := len _ _ _ hsp
  have KX : K.In s.heap := e0.mod.kin.keeps fun b o e => (e0.bs b o e).1
  have lim : s.heap.NoLimit := e0.mod.nolimit.keeps fun b o e => (e0.bs b o e).1
  have kinds : ∀ y ∈ ps.zip us, (defScope st).names.lookup y.1 = some .local ∨ ((defScope st).names.lookup y.1 = some .cell ∧ ((cellsFrom (s.heap.objs.size + 1) (defScope st).names []).lookup y.1).isSome = true) := fun ⟨n, v⟩ hy => by
    rcases S.par n (List.of_mem_zip hy).1 with q | q
    · exact .inl q
    · exact .inr ⟨q, PySem.W.cellsFrom_some _ _ _ (.inl q)⟩
  refine codeAny_call_function hr.depth (KX _ _ lk) rfl S.co S.gen rfl (PySem.W.codeRec_of KX hcd) (hb _ _ _ _ ?_)
  refine wpAny_newFunctionEnv_cells S.kind kinds fun env he s1 x => ?_
  subst he
  refine ⟨lim.keeps x.toInCall.keep, codeAny_func ?_⟩
  obtain ⟨t, ht, hq⟩ := body cdv A outer s H vs Q hg (hr.deeper _) hsp
  have I : Inv (cxOf CX0 P w K mg base N qual (defScope st) f cdv A outer s H E0) [] (start N vs) H s1 := inv_start S hr.hd e0 nl r x
  refine wpAny_mono (ht.nox.run [] s1 (start N vs) H _ I hq) (fun fl s' hs => ?_) fun e s' hs => hs
  have fin : ∀ {σ' : L2.St} {H' : Hp} {v : V} {u : Value}, Inv (cxOf CX0 P w K mg base N qual (defScope st) f cdv A outer s H E0) [] σ' H' s' → RelV v u → Q v H' → CE outer P w H s Q u s' :=
    fun {σ' H' v u} J rv q => ⟨v, H', J.os, J.bare, J.base, J.hok, rv, q⟩
  cases fl with
  | ret u =>
    obtain ⟨v, σ', H', J, rv, q⟩ := hs
    exact fin J rv q
  | next =>
    obtain ⟨σ', H', J, q⟩ := hs
    exact fin (v := V.non) (u := Value.none) J rfl q
  | brk =>
    obtain ⟨_, _, _, q⟩ := hs
    exact q.elim
  | cont =>
    obtain ⟨_, _, _, q⟩ := hs
    exact q.elim
/-- a def as its callers know it -/
structure Cal (P : Program) (w : World) (K : PySem.W.Frag) (mg : Str → Option Value) (base : Heap) (k : Nat) (x : Str) (ps : List Str) (sp : List V → Hp → VK → Prop) : Prop where
  ex : ∃ f fd, FnG P w K mg base k f fd ps sp ∧ mg x = some (.ref f) ∧ PySem.W.keepIn K (.ref f) = true ∧ Binds K fd ps []
section
variable {X : Cx} {k : Nat} {x : Str} {ps : List Str} {sp : List V → Hp → VK → Prop}
theorem run_cal {pins : List (Addr × Obj)} {σ : L2.St} {H : Hp} {s : Shared} {Q : VK} {us : List Value} {vs : List V} {f : Addr} {fd : FuncData} (G : FnG X.prog X.w X.K X.mg X.base k f fd ps sp) (hg : X.A.guards = some []) (hr : Room k X.A) (hb : Binds X.K fd ps [])
    (I : Inv X pins σ H s) (r : Vals vs us) (h : sp vs H Q) : wpAny (model X.prog X.w) X.A (call (.ref f) us) (EP X pins σ Q) X.xe s := by
  have nl : (us ++ ([] : List Value)).length = ps.length := by
    rw [List.append_nil, ← r.length]
    exact G.len _ _ _ h
  have bs := hb s us I.kIn nl
  rw [List.append_nil] at bs
  refine wpAny_call (codeAny_mono (G.run X.A X.stack s H ⟨us, []⟩ us vs Q hg hr I.env0 bs r h) fun r s' hq => ?_)
  cases r with
  | error e => exact hq.elim
  | ok fl =>
    cases fl with
    | ret u => exact I.after hq
    | next => exact False.elim hq
    | brk => exact False.elim hq
    | cont => exact False.elim hq
def tCal (sp : List V → Hp → VK → Prop) (t : TA) : TE := fun σ H Q => t σ H fun vs H1 => sp vs H1 Q
theorem pe_cal {e : Expr} {es : List Expr} {t : TA} {p pos : Pos} (C : Cal X.prog X.w X.K X.mg X.base k x ps sp) (hg : X.A.guards = some []) (hr : Room k X.A) (gl : Gl X x) (ha : PA X (e :: es) t) (hdb : (x == ("__debug__" : Str)) = false := by decide)
    (he : starEach (e :: es) X.env = (false, eval e X.env) :: starEach es X.env := by rfl) (hpl : (backTo pos (starEach es X.env)).any (·.1) = false := by rfl) : PE X (.Call (.Name x p) (e :: es) [] pos) (tCal sp t) := by
  obtain ⟨f, fd, G, hm, hk, hb⟩ := C
  refine ⟨fun pins s σ H Q I h => ?_⟩
  refine wpAny_Call_Name_kw (ld_glob I gl hm ?_ hdb)
  refine PySem.W.callWith_K (h₀ := X.base) I.ok.mod.kin hk (thn (ha.run pos pins s σ H _ I h) fun us s1 ⟨vs, H1, I1, r, q⟩ => ⟨I1.kIn, ?_⟩) he hpl
  exact run_cal G hg hr hb I1 r q
end

/-! ### promises over data -/
abbrev PSp := List PyData → (PyData → Prop) → Prop
def liftP (K : PySem.W.Frag) (psp : PSp) : List V → Hp → VK → Prop := fun vs H Q => ∃ (fr : List (Addr × HO)) (F : Hp) (ds : List PyData) (Φ : PyData → Prop), Stt K fr F H [] [] ∧ RpAll K F vs ds ∧ psp ds Φ ∧ ∀ v F' H' d, Ext F F' → Stt K fr F' H' [] [] → Rp K F' v d → Φ d → Q v H'
@[simp] def dCallP (psp : PSp) (t : DTA) : DTE := fun ρ cs Φ => t ρ cs fun rs cs1 => match allD rs with
  | some ds => psp ds fun d => Φ (.d d) cs1
  | none => match allB cs1 rs with
    | some ds => psp ds fun d => atomD d = true ∧ Φ (.d d) cs1
    | none => False
theorem allD_B {cs : Cells} : ∀ {rs : List DL.Loc} {ds : List PyData}, allD rs = some ds → allB cs rs = some ds
  | [], _, h => h
  | .d x :: r, ds, h => by
    have h : (match allD r with | some ds => some (x :: ds) | none => none) = some ds := h
    split at h
    · rename_i q
      cases h
      show (match allB cs r with | some ds => some (x :: ds) | none => none) = _
      rw [allD_B q]
    · cases h
  | .c _ :: _, _, h => by cases h
  | .s _ :: _, _, h => by cases h
theorem de_call {X : Cx} {k : Nat} {x : Str} {ps : List Str} {psp : PSp} {e : Expr} {es : List Expr} {t : DTA} {p pos : Pos} (C : Cal X.prog X.w X.K X.mg X.base k x ps (liftP X.K psp)) (hg : X.A.guards = some []) (hr : Room k X.A) (ha : DA X (e :: es) t) (gl : Gl X x := by rfl) (hdb : (x == ("__debug__" : Str)) = false := by decide)
    (he : starEach (e :: es) X.env = (false, eval e X.env) :: starEach es X.env := by rfl) (hpl : (backTo pos (starEach es X.env)).any (·.1) = false := by rfl) : DE X (.Call (.Name x p) (e :: es) [] pos) (dCallP psp t) := by
  obtain ⟨ta, a1, a2⟩ := ha
  refine ⟨_, pe_cal C hg hr gl a1 hdb he hpl, fun S E Φ Q p q => a2 S E p fun vs F1 H1 as1 rs cs1 hlen g1 S1 l1 p1 => ?_⟩
  split at p1
  · rename_i ds e
    obtain ⟨G, fr2, S2, r2, back⟩ := call_core S1 l1 (allD_B (cs := cs1) e)
    refine ⟨fr2, G, ds, _, S2, r2, p1, fun v F' H' d e' S' r' p' => ?_⟩
    obtain ⟨F2, e3, S3, r3⟩ := back F' H' e' S'
    exact q v F2 H' as1 (.d d) cs1 (g1.trans ⟨e3, [], by simp⟩) S3 (r3 v d r' (.inr (by rw [e]; rfl))) p'
  · split at p1
    · rename_i ds e
      obtain ⟨G, fr2, S2, r2, back⟩ := call_core S1 l1 e
      refine ⟨fr2, G, ds, _, S2, r2, p1, fun v F' H' d e' S' r' p' => ?_⟩
      obtain ⟨F2, e3, S3, r3⟩ := back F' H' e' S'
      exact q v F2 H' as1 (.d d) cs1 (g1.trans ⟨e3, [], by simp⟩) S3 (r3 v d r' (.inl p'.1)) p'.2
    · exact p1.elim
/-- what a def hands back, as data: an owned list or dict is frozen -/
@[simp] def retD (Φ : PyData → Prop) : EK := fun r cs => match r with
  | .d x => Φ x
  | .c j => (match cs[j]? with
    | some (.lst ds) => Φ (.list ds)
    | some (.dk kvs) => Φ (.dict (kvs.map fun p => (keyD p.1, p.2)))
    | some (.dt kvs) => Φ (.dict ((.none, .none) :: kvs.map fun p => (.tuple (p.1.map keyD), p.2)))
    | _ => False)
  | .s _ => False
theorem rpkv_of {K : PySem.W.Frag} {F : Hp} {vs : List (Key × V)} {kvs : List (Key × PyData)} (h : Paired (fun p q => p.1 = q.1 ∧ Rp K F p.2 q.2) vs kvs) : RpKV K F vs (kvs.map fun p => (keyD p.1, p.2)) := by
  induction h with
  | nil => exact .nil
  | @cons p q l₁ l₂ a _ ih =>
    obtain ⟨k, v⟩ := p
    obtain ⟨k2, d⟩ := q
    obtain ⟨e, a⟩ := a
    cases e
    exact .cons a ih
theorem rptv_of {K : PySem.W.Frag} {F : Hp} {vs : List (List Key × V)} {kvs : List (List Key × PyData)} (h : Paired (fun p q => p.1 = q.1 ∧ Rp K F p.2 q.2) vs kvs) : RpTV K F vs (kvs.map fun p => (.tuple (p.1.map keyD), p.2)) := by
  induction h with
  | nil => exact .nil
  | @cons p q l₁ l₂ a _ ih =>
    obtain ⟨k, v⟩ := p
    obtain ⟨k2, d⟩ := q
    obtain ⟨e, a⟩ := a
    cases e
    exact .cons a ih
theorem Stt.toNil {K : PySem.W.Frag} {fr : List (Addr × HO)} {F H : Hp} {as : List Addr} {cs : Cells} (S : Stt K fr F H as cs) : Stt K fr F H [] [] := S.take 0
theorem env_start {K : PySem.W.Frag} {F : Hp} {as : List Addr} : ∀ {vs : List V} {ds : List PyData} (n : Nat), RpAll K F vs ds → EnvOk K F as (vs.map some ++ List.replicate n none) (ds.map (fun d => some (DL.Loc.d d)) ++ List.replicate n none)
  | _, _, 0, .nil => .nil
  | _, _, n + 1, .nil => by
    rw [List.map_nil, List.map_nil, List.nil_append, List.nil_append, List.replicate_succ, List.replicate_succ]
    exact .skip (env_start n .nil)
  | _, _, n, .cons a r => .cons a (env_start n r)
/-- the context of a def's body -/
structure Body (X : Cx) (P : Program) (w : World) (K : PySem.W.Frag) (mg : Str → Option Value) (base : Heap) (k : Nat) : Prop where
  calls : ∀ {j : Nat} {x : Str} {ps : List Str} {sp : List V → Hp → VK → Prop}, Cal P w K mg base j x ps sp → j ≤ k → Cal X.prog X.w X.K X.mg X.base j x ps sp
  room : ∀ j, j ≤ k → Room j X.A
  gd : X.A.guards = some []
  hu : X.A.units + 1 < cLine
  h64 : X.A.units + 64 < cLine
theorem fn_pure {P : Program} {w : World} {K : PySem.W.Frag} {mg : Str → Option Value} {base : Heap} {k : Nat} {x qual : Str} {st : Stmt} {f : Addr} {fd : FuncData} {N ps : List Str} {psp : PSp} (D : Fun K x qual st f fd) (S : FnScope N ps (defScope st)) (hm : mg x = some (.ref f)) (hb : Binds K fd ps [])
    (len : ∀ ds Φ, psp ds Φ → ds.length = ps.length)
    (body : ∀ (cdv : Value) (A : Around) (outer : List PySem.Env) (s : Shared) (H : Hp) (ds : List PyData) (Φ : PyData → Prop), (A.deeper (envOfC qual (defScope st) s.heap.objs.size f cdv)).guards = some [] → Room k (A.deeper (envOfC qual (defScope st) s.heap.objs.size f cdv)) → psp ds Φ →
      ∃ t, DSs (cxOf CX0 P w K mg base N qual (defScope st) f cdv A outer s H E0).nox (defBody st) t ∧ t { nx := fun _ _ => Φ .none, rt := retD Φ } (ds.map (fun d => some (DL.Loc.d d)) ++ List.replicate (N.length - ds.length) none) []) :
    Cal P w K mg base (k + 1) x ps (liftP K psp) := by
  refine ⟨f, fd, fnG_of D S (fun vs H Q h => ?_) (fun cdv A outer s H vs Q hg hr h => ?_), hm, D.kp, hb⟩
  · obtain ⟨fr, F, ds, Φ, S, r, p, q⟩ := h
    rw [r.length]
    exact len ds Φ p
  · obtain ⟨fr, F, ds, Φ, S0, r, p, q⟩ := h
    obtain ⟨t, ⟨ts, h1, h2⟩, ht⟩ := body cdv A outer s H ds Φ hg hr p
    refine ⟨ts, h1, h2 S0 ?_ ht ⟨?_, ?_, PostN.no, PostN.no⟩⟩
    · unfold L2.start
      rw [r.length]
      exact env_start _ r
    · intro σ' F' H' as' ρ' cs' g S' E' p'
      exact q .non F' H' .none g.ext S'.toNil .non p'
    · intro v F' H' as' r' cs' g S' l' p'
      have p' : retD Φ r' cs' := p'
      unfold retD at p'
      split at p'
      · exact q v F' H' _ g.ext S'.toNil l' p'
      · rename_i j
        obtain ⟨a, ea, rfl⟩ := l'
        split at p'
        · rename_i ds' e
          obtain ⟨b, eb, ok⟩ := S'.at e
          rw [ea] at eb
          cases eb
          obtain ⟨nF, ws, hw, rr⟩ := ok
          have S2 := S'.freeze ea nF hw
          have e2 : Ext F' (upd F' a (.lst ws)) := Ext.new nF
          exact q _ _ H' _ (g.ext.trans e2) S2.toNil (.lst upd_same (rr.mono e2)) p'
        · rename_i kvs e
          obtain ⟨b, eb, ok⟩ := S'.at e
          rw [ea] at eb
          cases eb
          obtain ⟨nF, ws, hw, rr⟩ := ok
          have S2 := S'.freeze ea nF hw
          have e2 : Ext F' (upd F' a (.dK ws)) := Ext.new nF
          exact q _ _ H' _ (g.ext.trans e2) S2.toNil (.dk (.inl upd_same) (RpKV.mono e2 (rpkv_of rr))) p'
        · rename_i kvs e
          obtain ⟨b, eb, ok⟩ := S'.at e
          rw [ea] at eb
          cases eb
          obtain ⟨nF, ws, hw, rr⟩ := ok
          have S2 := S'.freeze ea nF hw
          have e2 : Ext F' (upd F' a (.dT ws)) := Ext.new nF
          exact q _ _ H' _ (g.ext.trans e2) S2.toNil (.dt (.inl upd_same) (RpTV.mono e2 (rptv_of rr))) p'
        · exact p'.elim
      · exact p'.elim
end DL

/-! DL10: repr; least, greatest, sorted of data; new dicts. -/
namespace DL
open PySem L2 PyProof.Rows
open PySem.W (alike alikeAll AlikeAll minD maxD argBest_fold readsAll_len iter_listW moved_old cmpIn_lt cmpIn_gt dataLt dataLe AllAlike Sortable EachIs)
open PySem.P (repr_of_none repr_of_bool repr_of_int repr_of_str)
section
variable {X : Cx} {K : PySem.W.Frag} {fr : List (Addr × HO)} {F F' H H' : Hp} {as as' : List Addr} {cs : Cells} {σ : L2.St} {ρ : Env}

/-! ### repr -/
def Shows (d : PyData) : Prop := noDic d = true ∧ d.showable = true ∧ d.depth ≤ 60 ∧ d.shown.length ≤ sizeLine
mutual
theorem noDic_has : ∀ d : PyData, noDic d = true → d.hasDict = false
  | .none, _ => by simp [PyData.hasDict]
  | .bool _, _ => by simp [PyData.hasDict]
  | .int _, _ => by simp [PyData.hasDict]
  | .str _, _ => by simp [PyData.hasDict]
  | .list ds, h => by
    simp only [PyData.hasDict]
    exact noDics_has ds (by simpa [noDic] using h)
  | .tuple ds, h => by
    simp only [PyData.hasDict]
    exact noDics_has ds (by simpa [noDic] using h)
  | .dict _, h => by cases h
theorem noDics_has : ∀ ds : List PyData, noDics ds = true → PyData.hasDictAll ds = false
  | [], _ => by simp [PyData.hasDictAll]
  | d :: ds, h => by
    simp only [noDics, Bool.and_eq_true] at h
    simp only [PyData.hasDictAll, noDic_has d h.1, noDics_has ds h.2, Bool.or_self]
end
def oRepr : DRC := fun rs cs Φ => match rs with
  | [.d x] => Shows x ∧ Φ (.d (.str x.shown)) cs
  | _ => False
theorem cr_repr (hg : X.A.guards = some []) (hu : X.A.units + 64 < cLine) : CallR X (.builtin "repr") (fun vs H Q => ∃ v d, vs = [v] ∧ Dp X.K H v d ∧ Shows d ∧ Q (.str d.shown) H) := by
  intro pins s σ H xs us Q I r h
  obtain ⟨v, d, rfl, hd, ⟨nd, sh, dp, sz⟩, q⟩ := h
  obtain ⟨u, rfl, ru⟩ := vals1 r
  obtain ⟨as, rd⟩ := Dp.reads I d v u hd ru
  have ob : ∀ a, u = .ref a → wpAny (model X.prog X.w) X.A (call (.builtin "repr") [u]) (EP X pins σ Q) X.xe s := fun a e => by
    subst e
    exact repr_of_reads' rd sh (PyData.noDict_hsm (noDic_has d nd)) hg (by omega) (fun _ _ z => z) (fun h' w2 tk k => ⟨.str d.shown, H, I.kept k, ⟨_, rfl⟩, q⟩) sz
  cases d with
  | none =>
    cases rd
    exact repr_of_none ⟨.str _, H, I.tok _, ⟨_, rfl⟩, by simpa only [PyData.shown] using q⟩
  | bool b =>
    cases rd
    exact repr_of_bool ⟨.str _, H, I.tok _, ⟨_, rfl⟩, by simpa only [PyData.shown] using q⟩
  | int i =>
    cases rd
    exact repr_of_int (by simpa [PyData.showable] using sh) ⟨.str _, H, I.tok _, ⟨_, rfl⟩, by simpa only [PyData.shown] using q⟩
  | str x =>
    cases rd
    exact repr_of_str ⟨.str _, H, I.tok _, ⟨_, rfl⟩, by simpa only [PyData.shown] using q⟩ (by simpa only [PyData.shown] using sz)
  | list ds =>
    cases hd
    exact ob _ ru
  | tuple ds =>
    cases hd
    exact ob _ ru
  | dict ds => cases nd
theorem do_repr (hg : X.A.guards = some []) (hu : X.A.units + 64 < cLine) : CallD X (.builtin "repr") oRepr := ⟨_, cr_repr hg hu, fun S l Φ Q h q => by
  unfold oRepr at h
  split at h
  · rename_i x
    obtain ⟨v, rfl, l1⟩ := pair1 l
    have l1 : Rp X.K _ v x := l1
    exact ⟨v, x, rfl, (l1.mono S.ext).dp h.1.1, h.1, q.here S (.str _) h.2⟩
  · exact h.elim⟩

/-! ### least, greatest, sorted -/
mutual
theorem noDic_alike : ∀ d : PyData, alike d d = true → noDic d = true
  | .none, _ => rfl
  | .bool _, _ => rfl
  | .int _, _ => rfl
  | .str _, _ => rfl
  | .list ds, h => by
    show noDics ds = true
    exact noDics_alike ds (by simpa [alike] using h)
  | .tuple ds, h => by
    show noDics ds = true
    exact noDics_alike ds (by simpa [alike] using h)
  | .dict _, h => by simp [alike] at h
theorem noDics_alike : ∀ ds : List PyData, alikeAll ds ds = true → noDics ds = true
  | [], _ => rfl
  | d :: ds, h => by
    obtain ⟨a, b⟩ := PySem.W.alike_all_cons h
    show (noDic d && noDics ds) = true
    rw [noDic_alike d a, noDics_alike ds b]
    rfl
end
theorem noDics_mem : ∀ {ds : List PyData}, (∀ d ∈ ds, noDic d = true) → noDics ds = true
  | [], _ => rfl
  | d :: ds, h => by
    show (noDic d && noDics ds) = true
    rw [h d List.mem_cons_self, noDics_mem fun e he => h e (List.mem_cons_of_mem _ he)]
    rfl
end
section
variable {prog : Program} {w : World} {A : Around} {E : Value → Shared → Prop} {s : Shared} {l : Addr} {vs : Array Value} {x : PyData} {xs : List PyData} {as : List Addr} {Q : Value → Shared → Prop}
theorem fold_ix (f : PyData → PyData → Bool) (n : Nat) (hn : n - 1 = xs.length) : (x :: xs)[argBest (fun i j => f ((x :: xs).getD i .none) ((x :: xs).getD j .none)) (n - 1)]? = some (xs.foldl (fun a y => if f y a then y else a) x) := by
  obtain ⟨h1, h2⟩ := argBest_fold f PyData.none x xs xs.length (Nat.le_refl _)
  rw [List.take_length] at h2
  rw [hn]
  rw [List.getD_eq_getElem?_getD] at h2
  have : argBest (fun i j => f ((x :: xs).getD i .none) ((x :: xs).getD j .none)) xs.length < (x :: xs).length := by rw [List.length_cons]; omega
  rw [List.getElem?_eq_getElem this] at h2 ⊢
  exact congrArg some h2
theorem min_at (hd : A.handled = none) (hl : s.heap.IsList l vs) (hr : ReadsAll s.heap vs.toList (x :: xs) as) (ha : AlikeAll (x :: xs)) (hu : A.units + 1 + PyData.depthAll (x :: xs) < cLine)
    (fin : ∀ (i : Nat) v h' tk, vs[i]? = some v → (x :: xs)[i]? = some (minD x xs) → (∀ b o, s.heap.get? b = some o → h'.get? b = some o) → Q v { s with heap := h', toks := tk }) : wpAny (model prog w) A (call (.builtin "min") [.ref l]) Q E s := by
  have len : vs.size = xs.length + 1 := readsAll_len hr
  refine call_min_walkH (iter_listW (A := A.in1) hd hl fun s2 e W st fp hw k => ?_)
  refine ⟨_, _, _, _, _, _, _, s.heap, _, rfl, W, st, fp, by omega, hw, k, cmpIn_lt (A := A.in1) hr ha hu, fun v t hv m => ?_⟩
  obtain ⟨h', tk, e2, k2⟩ := moved_old e rfl m
  rw [e2]
  exact fin _ v h' tk hv (fold_ix dataLt vs.size (by omega)) k2
theorem max_at (hd : A.handled = none) (hl : s.heap.IsList l vs) (hr : ReadsAll s.heap vs.toList (x :: xs) as) (ha : AlikeAll (x :: xs)) (hu : A.units + 1 + PyData.depthAll (x :: xs) < cLine)
    (fin : ∀ (i : Nat) v h' tk, vs[i]? = some v → (x :: xs)[i]? = some (maxD x xs) → (∀ b o, s.heap.get? b = some o → h'.get? b = some o) → Q v { s with heap := h', toks := tk }) : wpAny (model prog w) A (call (.builtin "max") [.ref l]) Q E s := by
  have len : vs.size = xs.length + 1 := readsAll_len hr
  refine call_max_walkH (iter_listW (A := A.in1) hd hl fun s2 e W st fp hw k => ?_)
  refine ⟨_, _, _, _, _, _, _, s.heap, _, rfl, W, st, fp, by omega, hw, k, cmpIn_gt (A := A.in1) hr ha hu, fun v t hv m => ?_⟩
  obtain ⟨h', tk, e2, k2⟩ := moved_old e rfl m
  rw [e2]
  exact fin _ v h' tk hv (fold_ix (fun a b => dataLt b a) vs.size (by omega)) k2
end
section
variable {X : Cx} {K : PySem.W.Frag} {fr : List (Addr × HO)} {F F' H H' : Hp} {as as' : List Addr} {cs : Cells} {σ : L2.St} {ρ : Env}
def rBestD (K : PySem.W.Frag) (best : PyData → List PyData → PyData) : List V → Hp → VK → Prop := fun vs H Q => ∃ a xs x ds, vs = [.ref a] ∧ SqL K H a xs ∧ DpAll K H xs (x :: ds) ∧ AlikeAll (x :: ds) ∧ PyData.depthAll (x :: ds) ≤ 60 ∧
  ∀ (i : Nat) v, xs[i]? = some v → (x :: ds)[i]? = some (best x ds) → Q v H
theorem cr_minD (hc : X.calm = true) (hu : X.A.units + 64 < cLine) : CallR X (.builtin "min") (rBestD X.K minD) := by
  intro pins s σ H vs us Q I r h
  obtain ⟨a, xs, x, ds, rfl, hs, hd, ha, h60, q⟩ := h
  obtain ⟨its, rv, hl, _⟩ := I.list hs
  rw [Vals.ref1 r]
  obtain ⟨as, rd⟩ := Dp.readsAll I (x :: ds) xs its hd rv
  refine min_at (I.ok.hd hc) hl.isList rd ha (by omega) fun i v h' tk hv e k => ?_
  obtain ⟨v', e1, r1⟩ := Paired.get1 rv (show its[i]? = some v by simpa using hv)
  exact ⟨v', H, I.kept k, r1, q i v' e1 e⟩
theorem cr_maxD (hc : X.calm = true) (hu : X.A.units + 64 < cLine) : CallR X (.builtin "max") (rBestD X.K maxD) := by
  intro pins s σ H vs us Q I r h
  obtain ⟨a, xs, x, ds, rfl, hs, hd, ha, h60, q⟩ := h
  obtain ⟨its, rv, hl, _⟩ := I.list hs
  rw [Vals.ref1 r]
  obtain ⟨as, rd⟩ := Dp.readsAll I (x :: ds) xs its hd rv
  refine max_at (I.ok.hd hc) hl.isList rd ha (by omega) fun i v h' tk hv e k => ?_
  obtain ⟨v', e1, r1⟩ := Paired.get1 rv (show its[i]? = some v by simpa using hv)
  exact ⟨v', H, I.kept k, r1, q i v' e1 e⟩
def oBestD (best : PyData → List PyData → PyData) : DRC := fun rs cs Φ => match rs with
  | [y] => ∃ x ds, lstOf y cs = some (x :: ds) ∧ AlikeAll (x :: ds) ∧ PyData.depthAll (x :: ds) ≤ 60 ∧ Φ (.d (best x ds)) cs
  | _ => False
theorem snd_bestD {best : PyData → List PyData → PyData} : SndC K (rBestD K best) (oBestD best) := fun S l Φ Q h q => by
  unfold oBestD at h
  split at h
  · obtain ⟨v, rfl, l1⟩ := pair1 l
    obtain ⟨x, ds, e, ha, h60, h⟩ := h
    obtain ⟨a, vs, rfl, hl, r⟩ := lstOf_ok S l1 e
    refine ⟨a, vs, x, ds, rfl, SqL.of hl, (r.mono S.ext).dps (noDics_mem fun d hd => noDic_alike d (ha.1 d hd d hd)), ha, h60, fun i v hv hx => ?_⟩
    obtain ⟨d, e1, e2⟩ := r.get' hv
    rw [hx] at e1
    cases e1
    exact q.here S e2 h
  · exact h.elim
theorem do_minD (hc : X.calm = true) (hu : X.A.units + 64 < cLine) : CallD X (.builtin "min") (oBestD minD) := ⟨_, cr_minD hc hu, snd_bestD⟩
theorem do_maxD (hc : X.calm = true) (hu : X.A.units + 64 < cLine) : CallD X (.builtin "max") (oBestD maxD) := ⟨_, cr_maxD hc hu, snd_bestD⟩
/-- sorted of alike data -/
def sortD (ds : List PyData) : List PyData := ds.mergeSort (PySem.W.dataLe false id)
def rSortD (K : PySem.W.Frag) : List V → Hp → VK → Prop := fun vs H Q => ∃ a xs ds, vs = [.ref a] ∧ SqL K H a xs ∧ DpAll K H xs ds ∧ PySem.W.AllAlike ds ∧ PySem.W.Sortable ds ∧ (∀ d ∈ ds, d.depth ≤ 60) ∧
  ∀ (ys : List (V × PyData)) p, ys.Perm (xs.zip ds) → ys.map Prod.snd = sortD ds → H p = none → Q (.ref p) (upd H p (.lst (ys.map Prod.fst)))
theorem each_zip {pins : List (Addr × Obj)} {s : Shared} (I : Inv X pins σ H s) : ∀ {xs : List V} {its : List Value} {ds : List PyData}, Vals xs its → DpAll X.K H xs ds → PySem.W.EachIs (fun v (b : V × PyData) => RelV b.1 v) its (xs.zip ds) ∧ PySem.W.EachIs (fun v (b : V × PyData) => ∃ as, Reads s.heap v b.2 as) its (xs.zip ds) ∧ (xs.zip ds).map Prod.snd = ds
  | _, _, _, .nil, .nil => ⟨.nil, .nil, rfl⟩
  | _, _, _, .cons a r, .cons b t => by
    obtain ⟨h1, h2, h3⟩ := each_zip I r t
    exact ⟨.cons a h1, .cons (Dp.reads I _ _ _ b a) h2, by rw [List.zip_cons_cons, List.map_cons, h3]⟩
theorem each_vals : ∀ {out : List Value} {ys : List (V × PyData)}, PySem.W.EachIs (fun v (b : V × PyData) => RelV b.1 v) out ys → Vals (ys.map Prod.fst) out
  | _, _, .nil => .nil
  | _, _, .cons a r => .cons a (each_vals r)
theorem cr_sortD (hu : X.A.units + 64 < cLine) : CallR X (.builtin "sorted") (rSortD X.K) := by
  intro pins s σ H vs us Q I r h
  obtain ⟨a, xs, ds, rfl, hs, hd, ha, hk, h60, q⟩ := h
  obtain ⟨its, rv, hl, hz⟩ := I.list hs
  rw [Vals.ref1 r]
  obtain ⟨e1, e2, e3⟩ := each_zip I rv hd
  have el : its.length = (xs.zip ds).length := e1.length
  have el2 : its.length = xs.length := (Paired.length rv).symm
  refine PySem.W.sorted_data (enc := Prod.snd) hl.isList e1 e2 (by rw [e3]; exact ha) (by rw [e3]; exact hk) (by rw [← el, el2]; exact hz) (fun b hb => ?_) fun out ho eo => ?_
  · have := h60 b.2 (by rw [← e3]; exact List.mem_map_of_mem hb)
    omega
  · obtain ⟨c, hc⟩ := sortedAll_at s.heap its out.toArray
    have vo := each_vals eo
    have eq : ((xs.zip ds).mergeSort (PySem.W.dataLe false Prod.snd)).map Prod.snd = sortD ds := by
      unfold sortD
      rw [List.map_mergeSort (r := PySem.W.dataLe false Prod.snd) (s := PySem.W.dataLe false id) (f := Prod.snd) (fun a _ b _ => rfl), e3]
    refine ⟨.ref _, upd H (s.heap.objs.size + 1) (.lst (((xs.zip ds).mergeSort (PySem.W.dataLe false Prod.snd)).map Prod.fst)), I.laid (t' := s.toks) (fun _ _ => sortedAll_old) (Nat.le_succ _) ⟨?_, out, c, vo, hc⟩, rfl, q _ _ (List.mergeSort_perm _ _) eq (I.hok.fresh (Nat.le_succ _))⟩
    rw [List.length_map, List.length_mergeSort, ← el, el2]
    exact hz
theorem perm_rp {F : Hp} {vs : List V} {ds : List PyData} (r : RpAll K F vs ds) {ys : List (V × PyData)} (p : ys.Perm (vs.zip ds)) : RpAll K F (ys.map Prod.fst) (ys.map Prod.snd) := by
  have all : ∀ y ∈ ys, Rp K F y.1 y.2 := fun y hy => by
    have hm := p.mem_iff.mp hy
    obtain ⟨i, hi⟩ := List.getElem?_of_mem hm
    rw [List.getElem?_zip_eq_some] at hi
    obtain ⟨d, e1, e2⟩ := r.get' hi.1
    rw [hi.2] at e1
    cases e1
    exact e2
  clear p
  induction ys with
  | nil => exact .nil
  | cons y ys ih => exact .cons (all y List.mem_cons_self) (ih fun z hz => all z (List.mem_cons_of_mem _ hz))
def oSortD (b : Bool) : DRC := fun rs cs Φ => match rs with
  | [y] => ∃ ds, lstOf y cs = some ds ∧ PySem.W.AllAlike ds ∧ PySem.W.Sortable ds ∧ (∀ d ∈ ds, d.depth ≤ 60) ∧ newL b (sortD ds) cs Φ
  | _ => False
theorem do_sortD (b : Bool) (hu : X.A.units + 64 < cLine) : CallD X (.builtin "sorted") (oSortD b) := ⟨_, cr_sortD hu, fun S l Φ Q h q => by
  unfold oSortD at h
  split at h
  · obtain ⟨v, rfl, l1⟩ := pair1 l
    obtain ⟨ds, e, ha, hk, h60, h⟩ := h
    obtain ⟨a, vs, rfl, hl, r⟩ := lstOf_ok S l1 e
    refine ⟨a, vs, ds, rfl, SqL.of hl, (r.mono S.ext).dps (noDics_mem fun d hd => noDic_alike d (ha d hd d hd)), ha, hk, h60, fun ys p hp eq hn => ?_⟩
    have z := perm_rp r hp
    rw [eq] at z
    exact newL_snd S z h q p hn
  · exact h.elim⟩

/-! ### new dicts, owned -/
@[simp] def dNewK : DTE := fun _ cs Φ => Φ (.c cs.length) (cs ++ [.dk []])
@[simp] def dNewT : DTE := fun _ cs Φ => Φ (.c cs.length) (cs ++ [.dt []])
theorem de_newK {pos : Pos} : DE X (.Dict [] [] pos) dNewK := ⟨_, pe_dnewK, fun {fr σ F H as ρ cs} S E Φ Q h q p hp => by
  have hl : as.length = cs.length := Paired.length S.own
  refine q _ _ _ _ (.c cs.length) _ le_snoc (S.newC (c := .dk []) hp ⟨S.ext.non hp, [], upd_same, .nil⟩) ⟨p, ?_, rfl⟩ h
  rw [← hl, List.getElem?_append_right (Nat.le_refl _), Nat.sub_self]
  rfl⟩
theorem de_newT {pos : Pos} : DE X (.Dict [] [] pos) dNewT := ⟨_, pe_dnewT, fun {fr σ F H as ρ cs} S E Φ Q h q p hp => by
  have hl : as.length = cs.length := Paired.length S.own
  refine q _ _ _ _ (.c cs.length) _ le_snoc (S.newC (c := .dt []) hp ⟨S.ext.non hp, [], upd_same, .nil⟩) ⟨p, ?_, rfl⟩ h
  rw [← hl, List.getElem?_append_right (Nat.le_refl _), Nat.sub_self]
  rfl⟩
end
end DL

/-! DL11: defs by facts; the drawing hand; the top. -/
namespace DL
open PySem L2 PyProof.Rows
abbrev FnP (K : PySem.W.Frag) (x : Str) (st : Stmt) (f : Addr) (fd : FuncData) : Prop := FunD K x x (defArgs st) (defBody st) (defScope st) [] [] f fd
theorem FnP.toFun {K : PySem.W.Frag} {x : Str} {st : Stmt} {f : Addr} {fd : FuncData} (F : FnP K x st f fd) : Fun K x x st f fd := by
  obtain ⟨oc, od, dV, kV, doc, pm, an, cdv, ct, osl, e, lk, hcd, hd, _⟩ := F.ex
  have : dV = .none := by
    rcases hd with ⟨_, e⟩ | ⟨e, _⟩
    · exact e
    · exact absurd rfl e
  subst this
  exact ⟨⟨oc, od, kV, doc, pm, an, cdv, ct, osl, e, lk, hcd⟩, F.kp⟩
abbrev bodyX (P : Program) (w : World) (K : PySem.W.Frag) (mg : Str → Option Value) (base : Heap) (x : Str) (st : Stmt) (N : List Str) (f : Addr) (cdv : Value) (A : Around) (outer : List PySem.Env) (s : Shared) (H : Hp) : Cx :=
  (cxOf CX0 P w K mg base N x (defScope st) f cdv A outer s H E0).nox
/-- a def's body read as t -/
def DOk (P : Program) (w : World) (K : PySem.W.Frag) (mg : Str → Option Value) (base : Heap) (k : Nat) (x : Str) (st : Stmt) (N : List Str) (t : DTS) : Prop :=
  ∀ (f : Addr) (cdv : Value) (A : Around) (outer : List PySem.Env) (s : Shared) (H : Hp), (A.deeper (envOfC x (defScope st) s.heap.objs.size f cdv)).guards = some [] → Room k (A.deeper (envOfC x (defScope st) s.heap.objs.size f cdv)) →
    DSs (bodyX P w K mg base x st N f cdv A outer s H) (defBody st) t
theorem u1 {k : Nat} {A : Around} (r : Room k A) : A.units + 1 < cLine := by have := r.un; omega
@[simp] def env0 (N : List Str) (rs : List DL.Loc) : Env := rs.map some ++ List.replicate (N.length - rs.length) none
section
variable {P : Program} {w : World} {K : PySem.W.Frag} {mg : Str → Option Value} {base : Heap} {k : Nat} {x : Str} {st : Stmt} {f : Addr} {fd : FuncData} {N ps : List Str} {t : DTS}
theorem cal_pure {psp : PSp} (F : FnP K x st f fd) (S : FnScope N ps (defScope st)) (hm : mg x = some (.ref f)) (hb : Binds K fd ps []) (D : DOk P w K mg base k x st N t) (len : ∀ ds Φ, psp ds Φ → ds.length = ps.length)
    (v : ∀ ds Φ, psp ds Φ → t { nx := fun _ _ => Φ .none, rt := retD Φ } (env0 N (ds.map .d)) []) : Cal P w K mg base (k + 1) x ps (liftP K psp) :=
  fn_pure F.toFun S hm hb len fun cdv A outer s H ds Φ hg hr h => ⟨t, D f cdv A outer s H hg hr, by
    have z := v ds Φ h
    unfold env0 at z
    rw [List.map_map, List.length_map] at z
    exact z⟩

/-! ### the hand -/
def liftH (K : PySem.W.Frag) (psp : PSp) : List V → Hp → VK → Prop := fun vs H Q => ∃ (fr : List (Addr × HO)) (F : Hp) (l : Addr) (us : List V) (ds : List PyData) (Φ : PyData → Prop), vs = .ref l :: us ∧ Stt K fr F H [l] [.hand] ∧ RpAll K F us ds ∧ psp ds Φ ∧
  ∀ v F' H' d, Ext F F' → Stt K fr F' H' [l] [.hand] → Rp K F' v d → Φ d → Q v H'
@[simp] def dCallH (psp : PSp) (t : DTA) : DTE := fun ρ cs Φ => t ρ cs fun rs cs1 => match rs with
  | .c i :: r => cs1[i]? = some .hand ∧ (match allD r with
    | some ds => psp ds fun d => Φ (.d d) cs1
    | none => False)
  | _ => False
theorem call_coreH {fr : List (Addr × HO)} {F H : Hp} {as : List Addr} {cs : Cells} {i : Nat} {l : Addr} (S : Stt K fr F H as cs) (hi : as[i]? = some l) (hc : cs[i]? = some .hand) : ∃ fr2, Stt K fr2 F H [l] [.hand] ∧ ∀ F' H', Ext F F' → Stt K fr2 F' H' [l] [.hand] → Stt K fr F' H' as cs := by
  have nd := S.nd
  rw [List.nodup_append] at nd
  have hl : l ∈ as := List.mem_of_getElem? hi
  obtain ⟨l', el, okl⟩ := S.at hc
  rw [hi] at el
  cases el
  refine ⟨hid F H [l] as ++ fr, ⟨S.ext, ?_, .cons okl .nil, fun p hp => ?_⟩, fun F' H' e' S' => ⟨S'.ext, S.nd, ?_, fun p hp => ?_⟩⟩
  · rw [List.map_append, List.singleton_append, List.nodup_cons]
    refine ⟨fun h => ?_, ?_⟩
    · rcases List.mem_append.mp h with h | h
      · obtain ⟨q, hq, e⟩ := List.mem_map.mp h
        obtain ⟨_, _, _, n⟩ := hid_mem hq
        exact n (by rw [e]; exact List.mem_cons_self)
      · exact nd.2.2 l hl l h rfl
    · rw [List.nodup_append]
      exact ⟨nd.1.sublist (hid_sub as), nd.2.1, fun a ha b hb => nd.2.2 a ((hid_sub as).subset ha) b hb⟩
  · rcases List.mem_append.mp hp with hp | hp
    · obtain ⟨a, b, c, d⟩ := hid_mem hp
      exact ⟨c, b⟩
    · exact ⟨(S.frm p hp).1, (S.frm p hp).2⟩
  · have go : ∀ {as2 : List Addr} {cs2 : Cells} (n : Nat), Paired (CellOk K F H) as2 cs2 → (∀ j a, as2[j]? = some a → as[n + j]? = some a) → (∀ j c, cs2[j]? = some c → cs[n + j]? = some c) → Paired (CellOk K F' H') as2 cs2 := by
      intro as2 cs2 n hp
      induction hp generalizing n with
      | nil => intro _ _; exact .nil
      | @cons m c l₁ l₂ hm _ ih =>
        intro h1 h2
        refine .cons ?_ (ih (n + 1) (fun j a e => by rw [show n + 1 + j = n + (j + 1) by omega]; exact h1 (j + 1) a e) fun j a e => by rw [show n + 1 + j = n + (j + 1) by omega]; exact h2 (j + 1) a e)
        have a1 := h1 0 m rfl
        have a2 := h2 0 c rfl
        rw [Nat.add_zero] at a1 a2
        by_cases e : m = l
        · subst e
          have en : n = i := by
            have l1 : n < as.length := (List.getElem?_eq_some_iff.mp a1).1
            exact (List.getElem?_inj l1 nd.1).mp (a1.trans hi.symm)
          subst en
          rw [hc] at a2
          cases a2
          cases S'.own with
          | cons z _ => exact z
        · have hm' : m ∈ as := List.mem_of_getElem? a1
          cases hF : F m with
          | some o =>
            cases c with
            | dead =>
              obtain ⟨y, hy, _⟩ := e' m o hF
              exact ⟨y, hy⟩
            | lst ds => exact absurd (hF.symm.trans hm.1) (fun z => nomatch z)
            | dk ds => exact absurd (hF.symm.trans hm.1) (fun z => nomatch z)
            | dt ds => exact absurd (hF.symm.trans hm.1) (fun z => nomatch z)
            | hand => exact absurd (hF.symm.trans hm.1) (fun z => nomatch z)
          | none =>
            obtain ⟨o, ho⟩ := hm.live S.ext
            obtain ⟨g1, g2⟩ := S'.frm (m, o) (List.mem_append_left _ (mem_hid hF ho (fun z => e (List.mem_singleton.mp z)) hm'))
            exact hm.keep e' (fun _ => g2) (g1.trans ho.symm)
    exact go 0 S.own (fun j a e => by rw [Nat.zero_add]; exact e) fun j a e => by rw [Nat.zero_add]; exact e
  · exact S'.frm p (List.mem_append_right _ hp)
theorem de_callH {X : Cx} {k : Nat} {x : Str} {ps : List Str} {psp : PSp} {e : Expr} {es : List Expr} {t : DTA} {p pos : Pos} (C : Cal X.prog X.w X.K X.mg X.base k x ps (liftH X.K psp)) (hg : X.A.guards = some []) (hr : Room k X.A) (ha : DA X (e :: es) t) (gl : Gl X x := by rfl) (hdb : (x == ("__debug__" : Str)) = false := by decide)
    (he : starEach (e :: es) X.env = (false, eval e X.env) :: starEach es X.env := by rfl) (hpl : (backTo pos (starEach es X.env)).any (·.1) = false := by rfl) : DE X (.Call (.Name x p) (e :: es) [] pos) (dCallH psp t) := by
  obtain ⟨ta, a1, a2⟩ := ha
  refine ⟨_, pe_cal C hg hr gl a1 hdb he hpl, fun S E Φ Q p q => a2 S E p fun vs F1 H1 as1 rs cs1 hlen g1 S1 l1 p1 => ?_⟩
  split at p1
  · rename_i i r
    obtain ⟨hc, p1⟩ := p1
    split at p1
    · rename_i ds e
      cases l1 with
      | @cons v _ us _ lv lr =>
        obtain ⟨l, hi, rfl⟩ := lv
        obtain ⟨fr2, S2, back⟩ := call_coreH S1 hi hc
        refine ⟨fr2, F1, l, us, ds, _, rfl, S2, allD_ok lr e, p1, fun v F' H' d e' S' r' p' => ?_⟩
        exact q v F' H' as1 (.d d) cs1 (g1.trans ⟨e', [], by simp⟩) (back F' H' e' S') r' p'
    · exact p1.elim
  · exact p1.elim
@[simp] def retH (Φ : PyData → Prop) : EK := fun r cs => cs[0]? = some .hand ∧ retD Φ r cs
/-- the hand opened: a drawing -/
def retO (Φ : PyData → Prop) : EK := fun r cs => ∃ hd y, cs[0]? = some (.lst hd) ∧ HandL hd ∧ r = .d y ∧ Φ y
theorem le_one {F F' : Hp} {l : Addr} {as' : List Addr} (g : Le F [l] F' as') : as'.take 1 = [l] := by
  obtain ⟨t, rfl⟩ := g.pre
  rfl
theorem take_hand {cs : Cells} {c : Cell} (h : cs[0]? = some c) : cs.take 1 = [c] := by
  cases cs with
  | nil => cases h
  | cons a r =>
    cases h
    rfl
theorem one_hand {fr : List (Addr × HO)} {F F' H' : Hp} {l : Addr} {as' : List Addr} {cs' : Cells} {c : Cell} (g : Le F [l] F' as') (S : Stt K fr F' H' as' cs') (h : cs'[0]? = some c) : Stt K fr F' H' [l] [c] := by
  have z := S.take 1
  rw [le_one g, take_hand h] at z
  exact z
theorem env_hand {F : Hp} {l : Addr} {vs : List V} {ds : List PyData} (n : Nat) (r : RpAll K F vs ds) : EnvOk K F [l] ((V.ref l :: vs).map some ++ List.replicate n none) ((DL.Loc.c 0 :: ds.map DL.Loc.d).map some ++ List.replicate n none) := by
  have z := env_start (as := [l]) n r
  rw [List.map_cons, List.map_cons, List.cons_append, List.cons_append, List.map_map]
  exact .cons ⟨l, rfl, rfl⟩ z
theorem cal_hand {psp : PSp} (F : FnP K x st f fd) (S : FnScope N ps (defScope st)) (hm : mg x = some (.ref f)) (hb : Binds K fd ps []) (D : DOk P w K mg base k x st N t) (len : ∀ ds Φ, psp ds Φ → ds.length + 1 = ps.length)
    (v : ∀ ds Φ, psp ds Φ → t { nx := fun _ cs => cs[0]? = some .hand ∧ Φ .none, rt := retH Φ } (env0 N (.c 0 :: ds.map .d)) [.hand]) : Cal P w K mg base (k + 1) x ps (liftH K psp) := by
  refine ⟨f, fd, fnG_of F.toFun S (fun vs H Q h => ?_) (fun cdv A outer s H vs Q hg hr h => ?_), hm, F.kp, hb⟩
  · obtain ⟨fr, F, l, us, ds, Φ, rfl, S, r, p, q⟩ := h
    rw [List.length_cons, r.length]
    exact len ds Φ p
  · obtain ⟨fr, F, l, us, ds, Φ, rfl, S0, r, p, q⟩ := h
    obtain ⟨ts, h1, h2⟩ := D f cdv A outer s H hg hr
    refine ⟨ts, h1, h2 S0 ?_ (v ds Φ p) ⟨?_, ?_, PostN.no, PostN.no⟩⟩
    · unfold L2.start
      have := env_hand (N.length - (us.length + 1)) (l := l) r
      unfold env0
      rw [List.length_cons, List.length_cons, List.length_map, ← r.length]
      exact this
    · intro σ' F' H' as' ρ' cs' g S' E' p'
      exact q .non F' H' .none g.ext (one_hand g S' p'.1) .non p'.2
    · intro v F' H' as' r' cs' g S' l' p'
      have pp : retH Φ r' cs' := p'
      clear p'
      obtain ⟨hh, p'⟩ := pp
      unfold retD at p'
      split at p'
      · exact q v F' H' _ g.ext (one_hand g S' hh) l' p'
      · rename_i j
        obtain ⟨a, ea, rfl⟩ := l'
        have keep : ∀ c : Cell, cs'[j]? = some c → c ≠ .hand → (cs'.set j .dead)[0]? = some .hand := fun c e n => by
          cases j with
          | zero =>
            rw [e] at hh
            cases hh
            exact absurd rfl n
          | succ j =>
            rw [List.getElem?_set_ne (by omega)]
            exact hh
        split at p'
        · rename_i ds' e
          obtain ⟨b, eb, ok⟩ := S'.at e
          rw [ea] at eb
          cases eb
          obtain ⟨nF, ws, hw, rr⟩ := ok
          have e2 : Ext F' (upd F' a (.lst ws)) := Ext.new nF
          have S2 := S'.freeze ea nF hw
          exact q _ _ H' _ (g.ext.trans e2) (one_hand (g.trans ⟨e2, [], by simp⟩) S2 (keep _ e (fun z => nomatch z))) (.lst upd_same (rr.mono e2)) p'
        · rename_i kvs e
          obtain ⟨b, eb, ok⟩ := S'.at e
          rw [ea] at eb
          cases eb
          obtain ⟨nF, ws, hw, rr⟩ := ok
          have e2 : Ext F' (upd F' a (.dK ws)) := Ext.new nF
          have S2 := S'.freeze ea nF hw
          exact q _ _ H' _ (g.ext.trans e2) (one_hand (g.trans ⟨e2, [], by simp⟩) S2 (keep _ e (fun z => nomatch z))) (.dk (.inl upd_same) (RpKV.mono e2 (rpkv_of rr))) p'
        · rename_i kvs e
          obtain ⟨b, eb, ok⟩ := S'.at e
          rw [ea] at eb
          cases eb
          obtain ⟨nF, ws, hw, rr⟩ := ok
          have e2 : Ext F' (upd F' a (.dT ws)) := Ext.new nF
          have S2 := S'.freeze ea nF hw
          exact q _ _ H' _ (g.ext.trans e2) (one_hand (g.trans ⟨e2, [], by simp⟩) S2 (keep _ e (fun z => nomatch z))) (.dt (.inl upd_same) (RpTV.mono e2 (rptv_of rr))) p'
        · exact p'.elim
      · exact p'.elim
theorem cal_draw {psp : PSp} (F : FnP K x st f fd) (S : FnScope N ps (defScope st)) (hm : mg x = some (.ref f)) (hb : Binds K fd ps []) (D : DOk P w K mg base k x st N t) (len : ∀ ds Φ, psp ds Φ → ds.length + 1 = ps.length)
    (v : ∀ hd ds Φ, HandL hd → psp ds Φ → t { nx := fun _ _ => False, rt := retO Φ } (env0 N (.c 0 :: ds.map .d)) [.lst hd]) : Cal P w K mg base (k + 1) x ps (liftH K psp) := by
  refine ⟨f, fd, fnG_of F.toFun S (fun vs H Q h => ?_) (fun cdv A outer s H vs Q hg hr h => ?_), hm, F.kp, hb⟩
  · obtain ⟨fr, F, l, us, ds, Φ, rfl, S, r, p, q⟩ := h
    rw [List.length_cons, r.length]
    exact len ds Φ p
  · obtain ⟨fr, F, l, us, ds, Φ, rfl, S0, r, p, q⟩ := h
    obtain ⟨ts, h1, h2⟩ := D f cdv A outer s H hg hr
    have S1 : ∃ hd, HandL hd ∧ Stt K fr F H [l] [.lst hd] := by
      have own := S0.own
      cases own with
      | cons z _ =>
        obtain ⟨nF, hd, ws, hl, hw, rr⟩ := z
        exact ⟨hd, hl, S0.ext, S0.nd, .cons ⟨nF, ws, hw, rr⟩ .nil, S0.frm⟩
    obtain ⟨hd, hl, S1⟩ := S1
    refine ⟨ts, h1, h2 S1 ?_ (v hd ds Φ hl p) ⟨PostN.no, ?_, PostN.no, PostN.no⟩⟩
    · unfold L2.start
      have := env_hand (N.length - (us.length + 1)) (l := l) r
      unfold env0
      rw [List.length_cons, List.length_cons, List.length_map, ← r.length]
      exact this
    · intro v F' H' as' r' cs' g S' l' p'
      have pp : retO Φ r' cs' := p'
      clear p'
      obtain ⟨hd', y, hh, hl', rfl, p'⟩ := pp
      have S2 := one_hand g S' hh
      refine q v F' H' _ g.ext ⟨S2.ext, S2.nd, ?_, S2.frm⟩ l' p'
      have own := S2.own
      cases own with
      | cons z _ =>
        obtain ⟨nF, ws, hw, rr⟩ := z
        exact .cons ⟨nF, hd', ws, hl', hw, rr⟩ .nil
/-- a new hand, of the script -/
def liftN (K : PySem.W.Frag) (n : Nat) : List V → Hp → VK → Prop := fun vs H Q => ∃ (fr : List (Addr × HO)) (F : Hp) (a : Addr) (ns : List Int), vs = [.ref a] ∧ Stt K fr F H [] [] ∧ SqL K F a (ns.map V.int) ∧ ns.length ≤ n ∧
  ∀ l F' H', Ext F F' → Stt K fr F' H' [l] [.hand] → Q (.ref l) H'
@[simp] def dCallN (n : Nat) (t : DTA) : DTE := fun ρ cs Φ => t ρ cs fun rs cs1 => match rs with
  | [.s ns] => cs1 = [] ∧ ns.length ≤ n ∧ Φ (.c 0) [.hand]
  | _ => False
theorem de_callN {X : Cx} {k n : Nat} {x : Str} {ps : List Str} {e : Expr} {es : List Expr} {t : DTA} {p pos : Pos} (C : Cal X.prog X.w X.K X.mg X.base k x ps (liftN X.K n)) (hg : X.A.guards = some []) (hr : Room k X.A) (ha : DA X (e :: es) t) (gl : Gl X x := by rfl) (hdb : (x == ("__debug__" : Str)) = false := by decide)
    (he : starEach (e :: es) X.env = (false, eval e X.env) :: starEach es X.env := by rfl) (hpl : (backTo pos (starEach es X.env)).any (·.1) = false := by rfl) : DE X (.Call (.Name x p) (e :: es) [] pos) (dCallN n t) := by
  obtain ⟨ta, a1, a2⟩ := ha
  refine ⟨_, pe_cal C hg hr gl a1 hdb he hpl, fun S E Φ Q p q => a2 S E p fun vs F1 H1 as1 rs cs1 hlen g1 S1 l1 p1 => ?_⟩
  split at p1
  · rename_i ns
    obtain ⟨e, hn, p1⟩ := p1
    subst e
    have e2 : as1 = [] := List.eq_nil_of_length_eq_zero (Paired.length S1.own)
    subst e2
    obtain ⟨v, rfl, a, rfl, hs⟩ := pair1 l1
    refine ⟨_, F1, a, ns, rfl, S1, hs, hn, fun l F' H' e' S' => ?_⟩
    exact q (.ref l) F' H' [l] (.c 0) [.hand] (g1.trans ⟨e', [l], rfl⟩) S' ⟨l, rfl, rfl⟩ p1
  · exact p1.elim
theorem env_script {F : Hp} {a : Addr} {ns : List Int} (m : Nat) (h : SqL K F a (ns.map V.int)) : EnvOk K F [] ([V.ref a].map some ++ List.replicate m none) ([DL.Loc.s ns].map some ++ List.replicate m none) := by
  show EnvOk K F [] (some (V.ref a) :: List.replicate m none) (some (DL.Loc.s ns) :: List.replicate m none)
  refine .cons ⟨a, rfl, h⟩ ?_
  induction m with
  | zero => exact .nil
  | succ m ih => exact .skip ih
theorem cal_new {n : Nat} {p : Str} (F : FnP K x st f fd) (S : FnScope N [p] (defScope st)) (hm : mg x = some (.ref f)) (hb : Binds K fd [p] []) (D : DOk P w K mg base k x st N t)
    (v : ∀ ns : List Int, ns.length ≤ n → t { nx := fun _ _ => False, rt := fun r cs => ∃ j hd, r = .c j ∧ cs[j]? = some (.lst hd) ∧ HandL hd } (env0 N [.s ns]) []) : Cal P w K mg base (k + 1) x [p] (liftN K n) := by
  refine ⟨f, fd, fnG_of F.toFun S (fun vs H Q h => ?_) (fun cdv A outer s H vs Q hg hr h => ?_), hm, F.kp, hb⟩
  · obtain ⟨fr, F, a, ns, rfl, _⟩ := h
    rfl
  · obtain ⟨fr, F, a, ns, rfl, S0, hs, hn, q⟩ := h
    obtain ⟨ts, h1, h2⟩ := D f cdv A outer s H hg hr
    refine ⟨ts, h1, h2 S0 ?_ (v ns hn) ⟨PostN.no, ?_, PostN.no, PostN.no⟩⟩
    · unfold L2.start env0
      exact env_script _ hs
    · intro v F' H' as' r' cs' g S' l' p'
      obtain ⟨j, hd, rfl, hh, hl⟩ := p'
      obtain ⟨l, ea, rfl⟩ := l'
      obtain ⟨b, eb, ok⟩ := S'.at hh
      rw [ea] at eb
      cases eb
      obtain ⟨nF, ws, hw, rr⟩ := ok
      refine q l F' H' g.ext ⟨S'.ext, ?_, .cons ⟨nF, hd, ws, hl, hw, rr⟩ .nil, S'.frm⟩
      have nd := S'.nd
      rw [List.nodup_append] at nd
      rw [List.singleton_append, List.nodup_cons]
      exact ⟨fun h => nd.2.2 l (List.mem_of_getElem? ea) l h rfl, nd.2.1⟩

/-! ### the law -/
def spTop (K : PySem.W.Frag) (n : Nat) : List V → Hp → VK → Prop := fun vs H Q => ∃ (a : Addr) (ns : List Int), vs = [.ref a] ∧ ns.length ≤ n ∧ SqL K H a (ns.map V.int) ∧ ∀ H', Q (.bl true) H'
theorem fn_law {n : Nat} {p : Str} (F : FnP K x st f fd) (S : FnScope N [p] (defScope st)) (D : DOk P w K mg base k x st N t)
    (v : ∀ ns : List Int, ns.length ≤ n → t { nx := fun _ _ => False, rt := fun r _ => r = .d (.bool true) } (env0 N [.s ns]) []) : FnG P w K mg base (k + 1) f fd [p] (spTop K n) := by
  refine fnG_of F.toFun S (fun vs H Q h => ?_) (fun cdv A outer s H vs Q hg hr h => ?_)
  · obtain ⟨a, ns, rfl, _⟩ := h
    rfl
  · obtain ⟨a, ns, rfl, hn, hs, q⟩ := h
    obtain ⟨ts, h1, h2⟩ := D f cdv A outer s H hg hr
    refine ⟨ts, h1, h2 (fr := []) (F := H) (as := []) (cs := []) ⟨Ext.refl H, List.nodup_nil, .nil, fun _ h => nomatch h⟩ ?_ (v ns hn) ⟨PostN.no, ?_, PostN.no, PostN.no⟩⟩
    · unfold L2.start env0
      exact env_script _ hs
    · intro v F' H' as' r' cs' g S' l' p'
      have e : r' = .d (.bool true) := p'
      subst e
      cases l'
      exact q H'
end
/-- the call of the law's def, over the heap behind the top -/
theorem top_call {P : Program} {w : World} {K : PySem.W.Frag} {mg mb : Str → Option Value} {k n : Nat} {fa a : Addr} {fd : FuncData} {x : Str} {s₁ : Shared} {vs : List Value} {ns : List Int}
    (KX : K.In s₁.heap) (hns : s₁.heap.Ns mainGlobals mg) (hb : s₁.heap.Ns builtinsNs mb) (hbb : ∀ x : Str, x ≠ "__name__" → mb x = bootBuiltins x) (lim : s₁.heap.NoLimit) (gn : s₁.gens = #[])
    (ob : s₁.heap.get? a = some { cls := .type "list", data := .seq vs.toArray }) (hi : IntsAre vs ns) (hl : ns.length ≤ n) (hn : n ≤ sizeLine) (hr : Room k callerA)
    (F : ∀ base : Heap, K.In base → base.Ns mainGlobals mg → FnG P w K mg base k fa fd [x] (spTop K n)) (bind : ∀ (s : Shared) (u : Value), BindsTo s fd ⟨[u], []⟩ [(x, u)]) :
    codeAny (model P w) callerA (.call (.ref fa) ⟨[.ref a], []⟩) (fun r s' => r = .ok (.ret (.bool true)) ∧ OldK s₁.heap s'.heap ∧ s'.os = s₁.os ∧ AllBare s'.gens) s₁ := by
  have rel : Vals (ns.map V.int) vs := vals_ints hi
  have nv := hi.length
  have lv : (ns.map V.int).length ≤ sizeLine := by
    rw [List.length_map]
    omega
  have main : ∀ H : Hp, (∀ b, H b = none ∨ (b = a ∧ K.lookup a = none ∧ H b = some (.frz { cls := .type "list", data := .seq vs.toArray } (.lst (ns.map V.int))))) → SqL K H a (ns.map V.int) →
      codeAny (model P w) callerA (.call (.ref fa) ⟨[.ref a], []⟩) (fun r s' => r = .ok (.ret (.bool true)) ∧ OldK s₁.heap s'.heap ∧ s'.os = s₁.os ∧ AllBare s'.gens) s₁ := by
    intro H only hs
    have hok : HOk P w H s₁.heap := fun b u e => by
      rcases only b with z | ⟨rfl, _, z⟩
      · rw [z] at e
        cases e
      · rw [z] at e
        cases e
        exact ⟨ob, lv, vs, _, rel, ob⟩
    have off : ∀ {b : Addr} {o : Obj}, s₁.heap.get? b = some o → (∀ m, o.data ≠ .seq vs.toArray m) → H b = none := fun {b o} e d => by
      rcases only b with z | ⟨rfl, _, _⟩
      · exact z
      · rw [ob] at e
        cases e
        exact absurd rfl (d _)
    have ns2 : ∀ {b : Addr} {m : Str → Option Value}, s₁.heap.Ns b m → (hidT s₁.heap H).Ns b m := fun {b m} ⟨o, es, ep, e, d, r⟩ => ⟨o, es, ep, hidT_get e (off e fun m z => by rw [d] at z; cases z), d, r⟩
    have kb : K.In (hidT s₁.heap H) := fun b o e => hidT_get (KX b o e) (by
      rcases only b with z | ⟨rfl, k, _⟩
      · exact z
      · rw [k] at e
        cases e)
    have md : Mod K mg (hidT s₁.heap H) := ⟨kb, ns2 hns, ⟨mb, ns2 hb, hbb⟩, lim.elim fun mc h => ⟨mc, ns2 h.1, h.2⟩⟩
    have e0 : Env0 P w K mg (hidT s₁.heap H) callerA [] s₁ H := ⟨rfl, md, fun b o e => of_hidT e, Nat.le_of_eq (hidT_size _ _), trivial, fun b hb => (nomatch hb), hok, .of_eq gn⟩
    have run := (F _ kb (ns2 hns)).run callerA [] s₁ H ⟨[.ref a], []⟩ [.ref a] [.ref a] (fun v _ => v = .bl true) rfl hr e0 (bind s₁ (.ref a)) (.cons rfl .nil) ⟨a, ns, rfl, hl, hs, fun _ => rfl⟩
    refine codeAny_mono run fun r s2 z => ?_
    match r, z with
    | .error e, z => exact False.elim z
    | .ok .next, z => exact False.elim z
    | .ok .brk, z => exact False.elim z
    | .ok .cont, z => exact False.elim z
    | .ok (.ret u), z =>
      obtain ⟨v, H2, os, bare, un, hok2, rv, q⟩ := z
      have q : v = .bl true := q
      subst q
      have eu : u = Value.bool true := rv
      subst eu
      refine ⟨rfl, OldK.of_keep fun b o e => ?_, os, bare⟩
      rcases only b with y | ⟨rfl, _, y⟩
      · exact un.keep b o e y (fun h => nomatch h) (by simp)
      · have y2 := un.frzs b _ _ y
        rw [ob] at e
        cases e
        exact (hok2 b _ y2).1
  cases hk : K.lookup a with
  | some o =>
    have e := KX a o hk
    rw [ob] at e
    cases e
    exact main (fun _ => none) (fun _ => .inl rfl) (.inr ⟨_, vs.toArray, _, hk, rfl, rfl, rfl, by rw [List.size_toArray, nv]; omega, by simpa using rel⟩)
  | none =>
    refine main (fun b => if b = a then some (.frz { cls := .type "list", data := .seq vs.toArray } (.lst (ns.map V.int))) else none) (fun b => ?_) (.inl (.inr ⟨_, if_pos rfl⟩))
    by_cases e : b = a
    · exact .inr ⟨e, hk, if_pos e⟩
    · exact .inl (if_neg e)
/-- the law's end, over a head by facts -/
theorem walk_top {l : PySem.W.OpenLaw} {n k : Nat} {q : Program} {loose : List Str} {XP : (Str → Option Value) → Heap → Prop} {YP : World → Heap → Prop} {d : DefRec} {x : Str}
    (hn : l.most = some n) (hn2 : n ≤ sizeLine) (hdf : d.params.defaults = []) (hr : Room k callerA)
    (F : ∀ (w : World) (mg : Str → Option Value) (fa : Addr) (h : Heap), YP w h → h.Ns mainGlobals mg → mg d.name = some (.ref fa) →
      ∃ (K : PySem.W.Frag) (fd : FuncData), K.In h ∧ (∀ (s : Shared) (u : Value), BindsTo s fd ⟨[u], []⟩ [(x, u)]) ∧ ∀ base : Heap, K.In base → base.Ns mainGlobals mg → FnG l.prog w K mg base k fa fd [x] (spTop K n)) :
    PySem.W.WalkO q loose XP YP l.row.toRowW d [] (fun f vs => PySem.call f vs) := by
  refine Att.attach_call hn hdf fun w s₀ s₁ mg mb fa o pm cd doc a vs ns G Y _ _ _ mg1 ob hi hl gn => ?_
  obtain ⟨K, fd, KX, bind, hF⟩ := F w mg fa _ Y G.T.g mg1
  exact top_call KX G.T.g G.T.b G.T.builtins G.T.nolimit gn ob hi hl hn2 hr hF bind
end DL

/-! DL12: names of built-ins; tuple assignments of owned things; reading rules for loops and comprehensions. -/
namespace DL
open PySem L2 PyProof.Rows
theorem bt_len : bootBuiltins "len" = some (.builtin "len") := by decide +kernel
theorem bt_abs : bootBuiltins "abs" = some (.builtin "abs") := by decide +kernel
theorem bt_max : bootBuiltins "max" = some (.builtin "max") := by decide +kernel
theorem bt_min : bootBuiltins "min" = some (.builtin "min") := by decide +kernel
theorem bt_sum : bootBuiltins "sum" = some (.builtin "sum") := by decide +kernel
theorem bt_all : bootBuiltins "all" = some (.builtin "all") := by decide +kernel
theorem bt_any : bootBuiltins "any" = some (.builtin "any") := by decide +kernel
theorem bt_sorted : bootBuiltins "sorted" = some (.builtin "sorted") := by decide +kernel
theorem bt_repr : bootBuiltins "repr" = some (.builtin "repr") := by decide +kernel
theorem bt_int : bootBuiltins "int" = some (.type "int") := by decide +kernel
theorem bt_bool : bootBuiltins "bool" = some (.type "bool") := by decide +kernel
theorem bt_str : bootBuiltins "str" = some (.type "str") := by decide +kernel
theorem bt_list : bootBuiltins "list" = some (.type "list") := by decide +kernel
theorem bt_tuple : bootBuiltins "tuple" = some (.type "tuple") := by decide +kernel
section
variable {X : Cx} {K : PySem.W.Frag} {fr : List (Addr × HO)} {F F' H H' : Hp} {as as' : List Addr} {cs : Cells} {σ : L2.St} {ρ : Env}
/-- a, b, .. = x, y, ..: the tuple is made, then told apart -/
@[simp] def dTupAsg (n : Nat) (ta : DTA) (g : DTGs) : DTS := fun Δ ρ cs => ta ρ cs fun rs cs1 => rs.length = n ∧ g rs ρ cs1 Δ.nx
theorem ds_tup {es vs : List Expr} {n k k2 : Nat} {pt pt2 pos : Pos} {ta : DTA} {g : DTGs} (hc : X.calm = true) (ha : DA X vs ta) (hg : DGs X es g) (hv : vs.length ≤ 1000 := by decide) (hn : (assignEach es X.env).length = n := by rfl) (hst : (assignEach es X.env).findIdx? (·.1) = none := by rfl)
    (hs : swapsWithSole [.Tuple es k pt] (.Tuple vs k2 pt2) pos.line X.env = pure false := by rfl) (hw : swappedStores [.Tuple es k pt] (.Tuple vs k2 pt2) X.env = pure none := by rfl)
    (h1 : (assignEach [.Tuple es k pt] X.env).map (·.2) = [assign (.Tuple es k pt) X.env] := by rfl) : DS X (.Assign [.Tuple es k pt] (.Tuple vs k2 pt2) pos) (dTupAsg n ta g) := by
  obtain ⟨te, a1, a2⟩ := ha
  obtain ⟨tg, b1, b2⟩ := hg
  refine ⟨_, ps_asg (pe_tup a1) (pg_tup hc b1 hn hst) hs hw h1, fun S E Δ D p q => a2 S E p fun us F1 H1 as1 rs cs1 hl g1 S1 l1 p1 => ?_⟩
  have len := Paired.length l1
  refine ⟨Nat.le_trans (by omega) (show 1000 ≤ sizeLine by decide), fun pp hp => ?_⟩
  have g2 := S1.leD hp (.tup us)
  refine ⟨pp, us, rfl, SqT.of upd_same, by omega, b2 (S1.newD hp _) (E.mono (g1.trans g2)) (Paired.mono (fun _ _ z => LocOk.mono g2 z) l1) p1.2 (q.1.mono (g1.trans g2))⟩

/-! ### list(range(..)), tuple(range(..)) -/
def rgI (a b : Int) : List Int := (List.range (b - a).toNat).map fun i => a + (i : Nat)
theorem rg_rp (a b : Int) : RpAll K F (rgV a b) ((rgI a b).map .int) := by
  have e : rgV a b = (rgI a b).map V.int := by
    unfold rgV rgI
    rw [List.map_map]
    rfl
  rw [e]
  exact RpAll.of_ints _
@[simp] def dLRg1 (b : Bool) (t : DTE) : DTE := fun ρ cs Φ => t ρ cs fun x cs1 => match x with
  | .d (.int n) => (-(2 ^ 62) ≤ n ∧ n ≤ 16777216) ∧ newL b ((rgI 0 n).map .int) cs1 Φ
  | _ => False
@[simp] def dLRg2 (b : Bool) (t u : DTE) : DTE := fun ρ cs Φ => t ρ cs fun x cs1 => u ρ cs1 fun y cs2 => match x, y with
  | .d (.int m), .d (.int n) => RgOk m n ∧ newL b ((rgI m n).map .int) cs2 Φ
  | _, _ => False
@[simp] def dTRg1 (t : DTE) : DTE := fun ρ cs Φ => t ρ cs fun x cs1 => match x with
  | .d (.int n) => (-(2 ^ 62) ≤ n ∧ n ≤ 16777216) ∧ Φ (.d (.tuple ((rgI 0 n).map .int))) cs1
  | _ => False
@[simp] def dTRg2 (t u : DTE) : DTE := fun ρ cs Φ => t ρ cs fun x cs1 => u ρ cs1 fun y cs2 => match x, y with
  | .d (.int m), .d (.int n) => RgOk m n ∧ Φ (.d (.tuple ((rgI m n).map .int))) cs2
  | _, _ => False
theorem rgOk0 {n : Int} (h : -(2 ^ 62) ≤ n ∧ n ≤ 16777216) : RgOk 0 n := ⟨by omega, by omega, by omega, by omega, by omega⟩
theorem de_lrg1 (b : Bool) {a : Expr} {t : DTE} {p p2 pos pos2 : Pos} (hc : X.calm = true) (m1 : X.mg "list" = none) (m2 : X.mg "range" = none) (ha : DE X a t) (g1 : Gl X "list" := by rfl) (g2 : Gl X "range" := by rfl)
    (n1 : starEach [a] X.env = (false, eval a X.env) :: starEach [] X.env := by rfl) (n2 : starEach [Expr.Call (.Name "range" p2) [a] [] pos2] X.env = (false, eval (.Call (.Name "range" p2) [a] [] pos2) X.env) :: starEach [] X.env := by rfl) :
    DE X (.Call (.Name "list" p) [.Call (.Name "range" p2) [a] [] pos2] [] pos) (dLRg1 b t) := by
  obtain ⟨te, a1, a2⟩ := ha
  refine ⟨_, pe_listRg hc g1 m1 (prg_1 g2 m2 a1 n1) n2, fun S E Φ Q p q => a2 S E p fun v F1 H1 as1 x cs1 g1 S1 l1 p1 => ?_⟩
  split at p1
  · rename_i n
    cases l1
    exact ⟨n, rfl, rgOk0 p1.1, newL_snd S1 (rg_rp 0 n) p1.2 (q.mono g1)⟩
  · exact p1.elim
theorem de_lrg2 (b : Bool) {a c : Expr} {t u : DTE} {p p2 pos pos2 : Pos} (hc : X.calm = true) (m1 : X.mg "list" = none) (m2 : X.mg "range" = none) (ha : DE X a t) (hb : DE X c u) (g1 : Gl X "list" := by rfl) (g2 : Gl X "range" := by rfl)
    (n1 : starEach [a, c] X.env = (false, eval a X.env) :: starEach [c] X.env := by rfl) (n3 : starEach [c] X.env = (false, eval c X.env) :: starEach [] X.env := by rfl) (hpl : (backTo pos2 (starEach [c] X.env)).any (·.1) = false := by rfl)
    (n2 : starEach [Expr.Call (.Name "range" p2) [a, c] [] pos2] X.env = (false, eval (.Call (.Name "range" p2) [a, c] [] pos2) X.env) :: starEach [] X.env := by rfl) :
    DE X (.Call (.Name "list" p) [.Call (.Name "range" p2) [a, c] [] pos2] [] pos) (dLRg2 b t u) := by
  obtain ⟨te, a1, a2⟩ := ha
  obtain ⟨ue, b1, b2⟩ := hb
  refine ⟨_, pe_listRg hc g1 m1 (prg_2 g2 m2 a1 b1 n1 n3 hpl) n2, fun S E Φ Q p q => a2 S E p fun v F1 H1 as1 x cs1 g1 S1 l1 p1 => b2 S1 (E.mono g1) p1 fun w2 F2 H2 as2 y cs2 g2 S2 l2 p2 => ?_⟩
  split at p2
  · rename_i m n
    cases l1
    cases l2
    exact ⟨m, n, rfl, rfl, p2.1, newL_snd S2 (rg_rp m n) p2.2 (q.mono (g1.trans g2))⟩
  · exact p2.elim
theorem de_trg1 {a : Expr} {t : DTE} {p p2 pos pos2 : Pos} (hc : X.calm = true) (m1 : X.mg "tuple" = none) (m2 : X.mg "range" = none) (ha : DE X a t) (g1 : Gl X "tuple" := by rfl) (g2 : Gl X "range" := by rfl)
    (n1 : starEach [a] X.env = (false, eval a X.env) :: starEach [] X.env := by rfl) (n2 : starEach [Expr.Call (.Name "range" p2) [a] [] pos2] X.env = (false, eval (.Call (.Name "range" p2) [a] [] pos2) X.env) :: starEach [] X.env := by rfl) :
    DE X (.Call (.Name "tuple" p) [.Call (.Name "range" p2) [a] [] pos2] [] pos) (dTRg1 t) := by
  obtain ⟨te, a1, a2⟩ := ha
  refine ⟨_, pe_tupRg hc g1 m1 (prg_1 g2 m2 a1 n1) n2, fun S E Φ Q p q => a2 S E p fun v F1 H1 as1 x cs1 g1 S1 l1 p1 => ?_⟩
  split at p1
  · rename_i n
    cases l1
    exact ⟨n, rfl, rgOk0 p1.1, newT_snd S1 (rg_rp 0 n) p1.2 (q.mono g1)⟩
  · exact p1.elim
theorem de_trg2 {a c : Expr} {t u : DTE} {p p2 pos pos2 : Pos} (hc : X.calm = true) (m1 : X.mg "tuple" = none) (m2 : X.mg "range" = none) (ha : DE X a t) (hb : DE X c u) (g1 : Gl X "tuple" := by rfl) (g2 : Gl X "range" := by rfl)
    (n1 : starEach [a, c] X.env = (false, eval a X.env) :: starEach [c] X.env := by rfl) (n3 : starEach [c] X.env = (false, eval c X.env) :: starEach [] X.env := by rfl) (hpl : (backTo pos2 (starEach [c] X.env)).any (·.1) = false := by rfl)
    (n2 : starEach [Expr.Call (.Name "range" p2) [a, c] [] pos2] X.env = (false, eval (.Call (.Name "range" p2) [a, c] [] pos2) X.env) :: starEach [] X.env := by rfl) :
    DE X (.Call (.Name "tuple" p) [.Call (.Name "range" p2) [a, c] [] pos2] [] pos) (dTRg2 t u) := by
  obtain ⟨te, a1, a2⟩ := ha
  obtain ⟨ue, b1, b2⟩ := hb
  refine ⟨_, pe_tupRg hc g1 m1 (prg_2 g2 m2 a1 b1 n1 n3 hpl) n2, fun S E Φ Q p q => a2 S E p fun v F1 H1 as1 x cs1 g1 S1 l1 p1 => b2 S1 (E.mono g1) p1 fun w2 F2 H2 as2 y cs2 g2 S2 l2 p2 => ?_⟩
  split at p2
  · rename_i m n
    cases l1
    cases l2
    exact ⟨m, n, rfl, rfl, p2.1, newT_snd S2 (rg_rp m n) p2.2 (q.mono (g1.trans g2))⟩
  · exact p2.elim
end
abbrev dGSub (t u : DTE) : DTG := fun r ρ cs k => t ρ cs fun x cs1 => u ρ cs1 fun y cs2 => oSet x y r cs2 fun cs3 => k ρ cs3

/-! ### reading loops and comprehensions -/
def refsOk (n : Nat) : Env → Bool
  | [] => true
  | some (.c j) :: r => decide (j < n) && refsOk n r
  | _ :: r => refsOk n r
theorem refs_ok {n : Nat} : ∀ {ρ : Env}, refsOk n ρ = true → ∀ i j : Nat, ρ[i]? = some (some (DL.Loc.c j)) → j < n
  | [], _, i, j, e => by simp at e
  | none :: r, h, 0, j, e => by simp at e
  | none :: r, h, i + 1, j, e => refs_ok (ρ := r) h i j (by simpa using e)
  | some (.d x) :: r, h, 0, j, e => by simp at e
  | some (.d x) :: r, h, i + 1, j, e => refs_ok (ρ := r) h i j (by simpa using e)
  | some (.s x) :: r, h, 0, j, e => by simp at e
  | some (.s x) :: r, h, i + 1, j, e => refs_ok (ρ := r) h i j (by simpa using e)
  | some (.c k) :: r, h, i, j, e => by
    have h : (decide (k < n) && refsOk n r) = true := h
    rw [Bool.and_eq_true] at h
    cases i with
    | zero =>
      simp at e
      subst e
      exact of_decide_eq_true h.1
    | succ i => exact refs_ok (ρ := r) h.2 i j (by simpa using e)
theorem weak_mk {m : Nat} {P : Env → Cells → Prop} {ρ ρ' : Env} {cs : Cells} (le : Env.le ρ' ρ) (r : refsOk cs.length ρ' = true) (hm : m ≤ cs.length) (p : P ρ' cs) : Weak m P ρ cs :=
  ⟨ρ', cs.length, hm, Nat.le_refl _, le, refs_ok r, by rw [List.take_length]; exact p⟩
/-- the cells behind the first n are forgotten -/
theorem weak_cut {m n : Nat} {P : Env → Cells → Prop} {ρ ρ' : Env} {cs : Cells} (le : Env.le ρ' ρ) (r : refsOk n ρ' = true) (hm : m ≤ n) (hn : n ≤ cs.length) (p : P ρ' (cs.take n)) : Weak m P ρ cs :=
  ⟨ρ', n, hm, hn, le, refs_ok r, p⟩
section
variable {b : Bool} {di : DTI} {g : DTG} {tt : DTT} {te : DTE} {vs : List Nat} {ρ : Env} {cs : Cells} {Φ : EK} {J : DIt}
/-- a comprehension, by what stands after each turn -/
theorem lc_rel (R : Nat → List PyData → Prop) (hd : ∀ R : DIt → Cells → Prop, R J cs → di ρ cs R) (hn : J.n < sizeLine) (ok : J.ok cs) (h0 : R 0 [])
    (step : ∀ i acc, i < J.n → R i acc → g (.d (J.it i)) (dwipe ρ vs) cs fun ρ2 cs2 => tt ρ2 cs2 fun b cs3 => if b = true then te ρ2 cs3 fun y cs4 => (match y with
      | .d d => cs4 = cs ∧ R (i + 1) (acc ++ [d])
      | _ => False) else cs3 = cs ∧ R (i + 1) acc)
    (fin : ∀ acc, R J.n acc → newL b acc cs Φ) : dLc b di g tt te vs ρ cs Φ := hd _ ⟨hn, fun i acc c => c = cs ∧ R i acc, ⟨rfl, h0⟩, fun i acc c h => by rw [h.1]; exact ok, fun i acc c hi h => by
    obtain ⟨rfl, h⟩ := h
    exact step i acc hi h, fun acc c h => by
    obtain ⟨rfl, h⟩ := h
    exact fin acc h⟩
/-- each item gives what out says -/
theorem lc_out {α : Type} (xs : List α) (enc : α → PyData) (out : α → List PyData) (hd : ∀ R : DIt → Cells → Prop, R J cs → di ρ cs R) (jn : J.n = xs.length) (ji : ∀ (i : Nat) x, xs[i]? = some x → J.it i = enc x) (hn : xs.length < sizeLine) (ok : J.ok cs)
    (step : ∀ x, x ∈ xs → ∀ Z : List PyData → Prop, Z (out x) → g (.d (enc x)) (dwipe ρ vs) cs fun ρ2 cs2 => tt ρ2 cs2 fun b cs3 => if b = true then te ρ2 cs3 fun y cs4 => (match y with
      | .d d => cs4 = cs ∧ Z [d]
      | _ => False) else cs3 = cs ∧ Z [])
    (fin : newL b (xs.flatMap out) cs Φ) : dLc b di g tt te vs ρ cs Φ := by
  refine lc_rel (fun i acc => acc = (xs.take i).flatMap out) hd (by rw [jn]; exact hn) ok rfl (fun i acc hi h => ?_) fun acc h => ?_
  · rw [jn] at hi
    have e : xs[i]? = some xs[i] := List.getElem?_eq_getElem hi
    have t : xs.take (i + 1) = xs.take i ++ [xs[i]] := by rw [List.take_add_one, e]; rfl
    rw [ji i _ e]
    have z := step xs[i] (List.getElem_mem hi) (fun L => acc ++ L = (xs.take (i + 1)).flatMap out) (by rw [t, h, List.flatMap_append]; simp)
    simpa using z
  · rw [jn, List.take_length] at h
    rw [h]
    exact fin
theorem lc_map {α : Type} (xs : List α) (enc f : α → PyData) (hd : ∀ R : DIt → Cells → Prop, R J cs → di ρ cs R) (jn : J.n = xs.length) (ji : ∀ (i : Nat) x, xs[i]? = some x → J.it i = enc x) (hn : xs.length < sizeLine) (ok : J.ok cs)
    (step : ∀ x, x ∈ xs → ∀ Z : PyData → Prop, Z (f x) → g (.d (enc x)) (dwipe ρ vs) cs fun ρ2 cs2 => te ρ2 cs2 fun y cs4 => (match y with
      | .d d => cs4 = cs ∧ Z d
      | _ => False))
    (fin : newL b (xs.map f) cs Φ) : dLc b di g dYes te vs ρ cs Φ := by
  refine lc_out xs enc (fun x => [f x]) hd jn ji hn ok (fun x hx Z hz => ?_) (by rw [← List.map_eq_flatMap]; exact fin)
  exact step x hx (fun d => Z [d]) hz
/-- a walk with a state -/
theorem for_inv {S : Type} {tb : DTS} {Δ : DEnds} (env : S → Env) (cel : S → Cells) (I : Nat → S → Prop) (hd : ∀ R : DIt → Cells → Prop, R J cs → di ρ cs R) (h0 : Weak cs.length (fun ρ cs => ∃ s, I 0 s ∧ ρ = env s ∧ cs = cel s) ρ cs) (ok : ∀ i s, I i s → J.ok (cel s))
    (step : ∀ i s, i < J.n → I i s → g (.d (J.it i)) (env s) (cel s) fun ρ2 cs2 => tb { Δ with nx := Weak cs.length fun ρ cs => ∃ s, I (i + 1) s ∧ ρ = env s ∧ cs = cel s, ct := Weak cs.length fun ρ cs => ∃ s, I (i + 1) s ∧ ρ = env s ∧ cs = cel s, bk := Δ.nx } ρ2 cs2)
    (fin : ∀ s, I J.n s → Δ.nx (env s) (cel s)) : dFor di g tb Δ ρ cs := hd _ ⟨fun i ρ cs => ∃ s, I i s ∧ ρ = env s ∧ cs = cel s, h0, fun i ρ' cs' h => by
    obtain ⟨s, h, _, rfl⟩ := h
    exact ok i s h, fun i ρ' cs' hi h => by
    obtain ⟨s, h, rfl, rfl⟩ := h
    exact step i s hi h, fun ρ' cs' h => by
    obtain ⟨s, h, rfl, rfl⟩ := h
    exact fin s h⟩
theorem while_inv {S : Type} {c : DTT} {tb : DTS} {Δ : DEnds} (env : S → Env) (cel : S → Cells) (I : S → Prop) (μ : S → Nat) (h0 : Weak cs.length (fun ρ cs => ∃ s, I s ∧ ρ = env s ∧ cs = cel s) ρ cs)
    (step : ∀ s, I s → c (env s) (cel s) fun b cs1 => if b = true then tb { Δ with nx := Weak cs.length fun ρ cs => ∃ s', (I s' ∧ μ s' < μ s) ∧ ρ = env s' ∧ cs = cel s', ct := Weak cs.length fun ρ cs => ∃ s', (I s' ∧ μ s' < μ s) ∧ ρ = env s' ∧ cs = cel s', bk := Δ.nx } (env s) cs1 else Δ.nx (env s) cs1) : dWhile c tb Δ ρ cs := by
  have up : ∀ {P Q : Env → Cells → Prop} {m : Nat}, (∀ ρ cs, P ρ cs → Q ρ cs) → (Weak m P) = (Weak m P) := fun _ => rfl
  refine ⟨fun m ρ cs => ∃ s, (I s ∧ μ s = m) ∧ ρ = env s ∧ cs = cel s, ?_, fun m ρ' cs' h => ?_⟩
  · obtain ⟨ρ', n, a1, a2, a3, a4, s, h1, h2, h3⟩ := h0
    exact ⟨μ s, ρ', n, a1, a2, a3, a4, s, ⟨h1, rfl⟩, h2, h3⟩
  · obtain ⟨s, ⟨h, rfl⟩, rfl, rfl⟩ := h
    have e : (fun (ρ2 : Env) (cs2 : Cells) => ∃ m', m' < μ s ∧ ∃ s', (I s' ∧ μ s' = m') ∧ ρ2 = env s' ∧ cs2 = cel s') = fun ρ cs => ∃ s', (I s' ∧ μ s' < μ s) ∧ ρ = env s' ∧ cs = cel s' := by
      funext ρ2 cs2
      apply propext
      constructor
      · rintro ⟨m', hm, s', ⟨h1, rfl⟩, h2, h3⟩
        exact ⟨s', ⟨h1, hm⟩, h2, h3⟩
      · rintro ⟨s', ⟨h1, hm⟩, h2, h3⟩
        exact ⟨μ s', hm, s', ⟨h1, rfl⟩, h2, h3⟩
    have z := step s h
    rw [← e] at z
    exact z
end
end DL

/-! DL13: helpers for readings. -/
namespace DL
open PySem L2 PyProof.Rows
@[simp] theorem atI0 {α : Type} {a : α} {l : List α} : atI (a :: l) 0 = some a := atI_nat (j := 0) rfl
@[simp] theorem atI1 {α : Type} {a b : α} {l : List α} : atI (a :: b :: l) 1 = some b := atI_nat (j := 1) rfl
@[simp] theorem atI2 {α : Type} {a b c : α} {l : List α} : atI (a :: b :: c :: l) 2 = some c := atI_nat (j := 2) rfl
@[simp] theorem atI3 {α : Type} {a b c d : α} {l : List α} : atI (a :: b :: c :: d :: l) 3 = some d := atI_nat (j := 3) rfl
@[simp] theorem atI4 {α : Type} {a b c d e : α} {l : List α} : atI (a :: b :: c :: d :: e :: l) 4 = some e := atI_nat (j := 4) rfl
theorem atI_int {α : Type} {xs : List α} {i : Int} {v : α} (h0 : 0 ≤ i) (h : xs[i.toNat]? = some v) : atI xs i = some v := by
  have := atI_nat h
  rw [Int.toNat_of_nonneg h0] at this
  exact this
theorem atI_map {α β : Type} {xs : List α} {f : α → β} {i : Int} {d : α} (h0 : 0 ≤ i) (h : i < xs.length) : atI (xs.map f) i = some (f (xs.getD i.toNat d)) := by
  refine atI_int h0 ?_
  have hl : i.toNat < xs.length := by omega
  rw [List.getElem?_map, List.getElem?_eq_getElem hl, List.getD_eq_getElem?_getD, List.getElem?_eq_getElem hl]
  rfl
theorem cut_from {α : Type} (xs : List α) (k : Nat) : cutG xs (some (k : Int)) none = xs.drop k := by
  unfold cutG
  show (xs.drop (HT.sIx xs.length 0 (some (k : Int)))).take (xs.length - HT.sIx xs.length 0 (some (k : Int))) = _
  rw [HT.sIx_nat]
  by_cases h : k ≤ xs.length
  · rw [Nat.min_eq_left h, List.take_of_length_le (by rw [List.length_drop]; omega)]
  · rw [Nat.min_eq_right (by omega), List.drop_length, List.drop_of_length_le (by omega)]
    simp
theorem cut_to {α : Type} (xs : List α) (k : Nat) : cutG xs none (some (k : Int)) = xs.take k := by
  unfold cutG
  show (xs.drop 0).take (HT.sIx xs.length xs.length (some (k : Int)) - 0) = _
  rw [HT.sIx_nat, List.drop_zero, Nat.sub_zero]
  by_cases h : k ≤ xs.length
  · rw [Nat.min_eq_left h]
  · rw [Nat.min_eq_right (by omega), List.take_length, List.take_of_length_le (by omega)]
@[simp] theorem cut_1 {α : Type} (xs : List α) : cutG xs (some 1) none = xs.tail := (cut_from xs 1).trans List.drop_one
theorem tail_map {α β : Type} (f : α → β) (xs : List α) : (xs.map f).tail = xs.tail.map f := by cases xs <;> rfl
theorem pairs_le {α : Type} {R : α → α → Prop} : ∀ {xs : List α}, xs.Pairwise R → ∀ p ∈ xs.zip xs.tail, R p.1 p.2
  | [], _, p, hp => by simp at hp
  | [a], _, p, hp => by simp at hp
  | a :: b :: r, h, p, hp => by
    rw [List.tail_cons, List.zip_cons_cons] at hp
    rcases List.mem_cons.mp hp with rfl | hp
    · exact (List.pairwise_cons.mp h).1 b List.mem_cons_self
    · exact pairs_le (List.pairwise_cons.mp h).2 p hp
section
variable {α β : Type} {x y : DL.Loc} {xs : List α} {ys : List β} {e1 : α → PyData} {e2 : β → PyData} {i : Nat}
theorem it_seq {a : α} (h : xs[i]? = some a) : (itSeq x (xs.map e1)).it i = e1 a := getD_at (by rw [List.getElem?_map, h]; rfl)
theorem it_zip {p : α × β} (h : (xs.zip ys)[i]? = some p) : (itZip x y (xs.map e1) (ys.map e2)).it i = .tuple [e1 p.1, e2 p.2] := by
  rw [List.getElem?_zip_eq_some] at h
  show PyData.tuple [(xs.map e1).getD i .none, (ys.map e2).getD i .none] = _
  rw [getD_at (d := e1 p.1) (by rw [List.getElem?_map, h.1]; rfl), getD_at (d := e2 p.2) (by rw [List.getElem?_map, h.2]; rfl)]
theorem it_enum {p : α × Nat} (h : xs.zipIdx[i]? = some p) : (itEnum x (xs.map e1)).it i = .tuple [.int (p.2 : Nat), e1 p.1] := by
  rw [List.getElem?_zipIdx] at h
  cases e : xs[i]? with
  | none =>
    rw [e] at h
    cases h
  | some a =>
    rw [e] at h
    cases h
    show PyData.tuple [.int (i : Nat), (xs.map e1).getD i .none] = _
    rw [getD_at (d := e1 a) (by rw [List.getElem?_map, e]; rfl)]
    simp
theorem it_rng {lo : Int} {n : Nat} {j : Nat} (h : (List.range n)[i]? = some j) : (itRng lo n).it i = .int (lo + (j : Nat)) := by
  have := List.getElem?_eq_some_iff.mp h
  obtain ⟨_, e⟩ := this
  rw [List.getElem_range] at e
  subst e
  rfl
end
section
variable {α S : Type} {di : DTI} {g : DTG} {ρ : Env} {cs : Cells} {J : DIt}
theorem fold_next {xs : List α} {i : Nat} {x : α} {f : S → α → S} {s : S} (h : xs[i]? = some x) : (xs.take (i + 1)).foldl f s = f ((xs.take i).foldl f s) x := by
  rw [List.take_add_one, h, List.foldl_append]
  rfl
/-- a walk over typed items with a state -/
theorem for_typed {tb : DTS} {Δ : DEnds} (xs : List α) (enc : α → PyData) (env : S → Env) (cel : S → Cells) (I : Nat → S → Prop) (hd : ∀ R : DIt → Cells → Prop, R J cs → di ρ cs R) (jn : J.n = xs.length) (ji : ∀ (i : Nat) x, xs[i]? = some x → J.it i = enc x)
    (h0 : Weak cs.length (fun ρ cs => ∃ s, I 0 s ∧ ρ = env s ∧ cs = cel s) ρ cs) (ok : ∀ i s, I i s → J.ok (cel s))
    (step : ∀ i x s, xs[i]? = some x → I i s → ∀ Nx : Env → Cells → Prop, (∀ s' ρ' cs', I (i + 1) s' → Env.le (env s') ρ' → refsOk cs'.length (env s') = true → cs' = cel s' → cs.length ≤ cs'.length → Nx ρ' cs') → g (.d (enc x)) (env s) (cel s) fun ρ2 cs2 => tb { Δ with nx := Nx, ct := Nx, bk := Δ.nx } ρ2 cs2)
    (fin : ∀ s, I xs.length s → Δ.nx (env s) (cel s)) : dFor di g tb Δ ρ cs := by
  refine for_inv env cel I hd h0 ok (fun i s hi hs => ?_) (fun s hs => fin s (by rw [← jn]; exact hs))
  rw [jn] at hi
  have e : xs[i]? = some xs[i] := List.getElem?_eq_getElem hi
  rw [ji i _ e]
  exact step i _ s e hs _ fun s' ρ' cs' h1 h2 h3 h4 h5 => weak_mk h2 h3 h5 ⟨s', h1, rfl, h4⟩
theorem while_typed {c : DTT} {tb : DTS} {Δ : DEnds} (env : S → Env) (cel : S → Cells) (I : S → Prop) (μ : S → Nat) (h0 : Weak cs.length (fun ρ cs => ∃ s, I s ∧ ρ = env s ∧ cs = cel s) ρ cs)
    (step : ∀ s, I s → ∀ Nx : Env → Cells → Prop, (∀ s' ρ' cs', I s' → μ s' < μ s → Env.le (env s') ρ' → refsOk cs'.length (env s') = true → cs' = cel s' → cs.length ≤ cs'.length → Nx ρ' cs') → c (env s) (cel s) fun b cs1 => if b = true then tb { Δ with nx := Nx, ct := Nx, bk := Δ.nx } (env s) cs1 else Δ.nx (env s) cs1) : dWhile c tb Δ ρ cs :=
  while_inv env cel I μ h0 fun s hs => step s hs _ fun s' ρ' cs' h1 h2 h3 h4 h5 h6 => weak_mk h3 h4 h6 ⟨s', ⟨h1, h2⟩, rfl, h5⟩
theorem weak_here {P : Env → Cells → Prop} (le : Env.le ρ ρ) (r : refsOk cs.length ρ = true) (p : P ρ cs) : Weak cs.length P ρ cs := weak_mk le r (Nat.le_refl _) p
end
/-! ### what may be shown -/
mutual
/-- no dict, ints below 10 ^ 12, short texts -/
def plain : PyData → Bool
  | .int i => decide (i.natAbs < 10 ^ 12)
  | .str x => x.cps.toList.all fun c => decide (c < 16 ^ 8)
  | .list ds => plains ds
  | .tuple ds => plains ds
  | .dict _ => false
  | _ => true
def plains : List PyData → Bool
  | [] => true
  | d :: ds => plain d && plains ds
end
mutual
theorem plain_noDic : ∀ d, plain d = true → noDic d = true
  | .none, _ => rfl
  | .bool _, _ => rfl
  | .int _, _ => rfl
  | .str _, _ => rfl
  | .list ds, h => plains_noDic ds h
  | .tuple ds, h => plains_noDic ds h
  | .dict _, h => h
theorem plains_noDic : ∀ ds, plains ds = true → noDics ds = true
  | [], _ => rfl
  | d :: ds, h => by
    have h : (plain d && plains ds) = true := h
    rw [Bool.and_eq_true] at h
    show (noDic d && noDics ds) = true
    rw [plain_noDic d h.1, plains_noDic ds h.2]
    rfl
end
mutual
theorem plain_show : ∀ d, plain d = true → d.showable = true
  | .none, _ => by simp only [PyData.showable]
  | .bool _, _ => by simp only [PyData.showable]
  | .int i, h => by
    have h : decide (i.natAbs < 10 ^ 12) = true := h
    have h := of_decide_eq_true h
    simp only [PyData.showable, decide_eq_true_eq]
    have : i.natAbs.log2 < 41 := by
      by_cases z : i.natAbs = 0
      · rw [z]
        decide
      · rw [Nat.log2_lt z]
        omega
    omega
  | .str _, _ => by simp only [PyData.showable]
  | .list ds, h => by
    simp only [PyData.showable]
    exact plains_show ds h
  | .tuple ds, h => by
    simp only [PyData.showable]
    exact plains_show ds h
  | .dict _, h => by cases h
theorem plains_show : ∀ ds, plains ds = true → PyData.showableAll ds = true
  | [], _ => by simp only [PyData.showableAll]
  | d :: ds, h => by
    have h : (plain d && plains ds) = true := h
    rw [Bool.and_eq_true] at h
    simp only [PyData.showableAll, Bool.and_eq_true]
    exact ⟨plain_show d h.1, plains_show ds h.2⟩
end
mutual
theorem plain_leaves : ∀ d, plain d = true → d.leavesShort 13 = true
  | .none, _ => by simp only [PyData.leavesShort]
  | .bool _, _ => by simp only [PyData.leavesShort]
  | .int i, h => by
    have h : decide (i.natAbs < 10 ^ 12) = true := h
    have h := of_decide_eq_true h
    simp only [PyData.leavesShort, decide_eq_true_eq]
    exact PyData.shown_int_le h
  | .str x, h => by
    simp only [PyData.leavesShort]
    exact h
  | .list ds, h => by
    simp only [PyData.leavesShort]
    exact plains_leaves ds h
  | .tuple ds, h => by
    simp only [PyData.leavesShort]
    exact plains_leaves ds h
  | .dict _, h => by cases h
theorem plains_leaves : ∀ ds, plains ds = true → PyData.leavesShortAll 13 ds = true
  | [], _ => by simp only [PyData.leavesShortAll]
  | d :: ds, h => by
    have h : (plain d && plains ds) = true := h
    rw [Bool.and_eq_true] at h
    simp only [PyData.leavesShortAll, Bool.and_eq_true]
    exact ⟨plain_leaves d h.1, plains_leaves ds h.2⟩
end
theorem shows_of {d : PyData} (h : plain d = true) (hd : d.depth ≤ 60) (hb : d.bulk ≤ 2 ^ 20) : Shows d :=
  ⟨plain_noDic d h, plain_show d h, hd, PyData.shown_fits_bulk (B := 13) (by decide) (by decide) (plain_leaves d h) hb⟩
theorem plains_map {α : Type} {enc : α → PyData} : ∀ {xs : List α}, (∀ x ∈ xs, plain (enc x) = true) → plains (xs.map enc) = true
  | [], _ => rfl
  | x :: xs, h => by
    show (plain (enc x) && plains (xs.map enc)) = true
    rw [h x List.mem_cons_self, plains_map fun y hy => h y (List.mem_cons_of_mem _ hy)]
    rfl
theorem bulk_map {α : Type} {enc : α → PyData} {k : Nat} : ∀ {xs : List α}, (∀ x ∈ xs, (enc x).bulk ≤ k) → PyData.bulkAll (xs.map enc) ≤ (k + 1) * xs.length
  | [], _ => by simp [PyData.bulkAll]
  | x :: xs, h => by
    have h1 := h x List.mem_cons_self
    have h2 := bulk_map (xs := xs) fun y hy => h y (List.mem_cons_of_mem _ hy)
    rw [List.map_cons, PyData.bulkAll, List.length_cons, Nat.mul_add]
    omega
theorem depth_map {α : Type} {enc : α → PyData} {k : Nat} : ∀ {xs : List α}, (∀ x ∈ xs, (enc x).depth ≤ k) → PyData.depthAll (xs.map enc) ≤ k
  | [], _ => by simp [PyData.depthAll]
  | x :: xs, h => by
    have h1 := h x List.mem_cons_self
    have h2 := depth_map (xs := xs) fun y hy => h y (List.mem_cons_of_mem _ hy)
    rw [List.map_cons, PyData.depthAll]
    omega
end DL

/-! DL14: pairs of ints, their least; common small readings. -/
namespace DL
open PySem L2 PyProof.Rows
open PySem.W (minD maxD)
def encP (p : Int × Int) : PyData := .tuple [.int p.1, .int p.2]
def ltP (p q : Int × Int) : Prop := p.1 < q.1 ∨ (p.1 = q.1 ∧ p.2 < q.2)
def least2 : List (Int × Int) → Option (Int × Int)
  | [] => none
  | x :: xs => some (PySem.W.minOf x xs)
theorem lt_ltP (p q : Int × Int) : PySem.W.DatumOrd.lt p q = true ↔ ltP p q := by
  show (if p.1 = q.1 then decide (p.2 < q.2) else decide (p.1 < q.1)) = true ↔ _
  unfold ltP
  split
  · rename_i h
    rw [decide_eq_true_eq]
    omega
  · rename_i h
    rw [decide_eq_true_eq]
    omega
theorem min_fold : ∀ (xs : List (Int × Int)) (x : Int × Int), (xs.foldl (fun a y => if PySem.W.DatumOrd.lt y a = true then y else a) x ∈ x :: xs) ∧ ∀ q ∈ x :: xs, ¬ ltP q (xs.foldl (fun a y => if PySem.W.DatumOrd.lt y a = true then y else a) x)
  | [], x => by
    refine ⟨by simp, fun q hq => ?_⟩
    rw [List.mem_singleton.mp hq]
    unfold ltP
    show ¬ (x.1 < x.1 ∨ _)
    simp only [List.foldl_nil]
    omega
  | y :: ys, x => by
    rw [List.foldl_cons]
    by_cases h : PySem.W.DatumOrd.lt y x = true
    · rw [if_pos h]
      obtain ⟨h1, h2⟩ := min_fold ys y
      refine ⟨List.mem_cons_of_mem _ h1, fun q hq => ?_⟩
      rcases List.mem_cons.mp hq with rfl | hq
      · have a := (lt_ltP _ _).mp h
        have b := h2 y List.mem_cons_self
        unfold ltP at a b ⊢
        omega
      · exact h2 q hq
    · rw [if_neg h]
      obtain ⟨h1, h2⟩ := min_fold ys x
      refine ⟨?_, fun q hq => ?_⟩
      · rcases List.mem_cons.mp h1 with e | e
        · rw [e]
          exact List.mem_cons_self
        · exact List.mem_cons_of_mem _ (List.mem_cons_of_mem _ e)
      · rcases List.mem_cons.mp hq with rfl | hq
        · exact h2 q List.mem_cons_self
        · rcases List.mem_cons.mp hq with rfl | hq
          · have a : ¬ ltP q x := fun z => h ((lt_ltP _ _).mpr z)
            have b := h2 x List.mem_cons_self
            unfold ltP at a b ⊢
            omega
          · exact h2 q (List.mem_cons_of_mem _ hq)
theorem least2_mem {l : List (Int × Int)} {p : Int × Int} (h : least2 l = some p) : p ∈ l := by
  cases l with
  | nil => cases h
  | cons x xs =>
    cases h
    exact (min_fold xs x).1
theorem least2_le {l : List (Int × Int)} {p : Int × Int} (h : least2 l = some p) : ∀ q ∈ l, ¬ ltP q p := by
  cases l with
  | nil => cases h
  | cons x xs =>
    cases h
    exact (min_fold xs x).2
theorem least2_some {l : List (Int × Int)} (h : l ≠ []) : ∃ p, least2 l = some p := by
  cases l with
  | nil => exact absurd rfl h
  | cons x xs => exact ⟨_, rfl⟩
theorem least2_of {l : List (Int × Int)} {p : Int × Int} (hp : p ∈ l) (h : ∀ q ∈ l, ¬ ltP q p) : least2 l = some p := by
  obtain ⟨r, e⟩ := least2_some (List.ne_nil_of_mem hp)
  have a := least2_le e p hp
  have b := h r (least2_mem e)
  have : r = p := by
    unfold ltP at a b
    ext <;> omega
  rw [e, this]
theorem alike_P (l : List (Int × Int)) : PySem.W.AlikeAll (l.map encP) := by
  refine ⟨fun x hx y hy => ?_, fun x hx => ?_⟩
  · obtain ⟨a, _, rfl⟩ := List.mem_map.mp hx
    obtain ⟨b, _, rfl⟩ := List.mem_map.mp hy
    simp [encP, PySem.W.alike, PySem.W.alikeAll]
  · obtain ⟨a, _, rfl⟩ := List.mem_map.mp hx
    exact fun z => nomatch z
theorem depth_P (l : List (Int × Int)) : PyData.depthAll (l.map encP) ≤ 60 := by
  refine Nat.le_trans (depth_map (k := 1) fun x _ => ?_) (by omega)
  simp [encP, PyData.depth, PyData.depthAll]
/-- the least of a list of pairs, read -/
theorem best_P {l : List (Int × Int)} {p : Int × Int} (h : least2 l = some p) {Φ : EK} {cs : Cells} (hΦ : Φ (.d (encP p)) cs) : oBestD minD [.d (.list (l.map encP))] cs Φ := by
  cases l with
  | nil => cases h
  | cons x xs =>
    cases h
    refine ⟨encP x, xs.map encP, rfl, alike_P (x :: xs), depth_P (x :: xs), ?_⟩
    rw [show minD (encP x) (xs.map encP) = encP (PySem.W.minOf x xs) from PySem.W.minD_map x xs]
    exact hΦ
/-- the ints with their places -/
def tagged (l : List Int) : List (Int × Int) := l.zipIdx.map fun p => (p.1, (p.2 : Int))
def pick (l : List Int) : Int := match least2 (tagged l) with
  | some p => p.2
  | none => 0
theorem mem_tagged {l : List Int} {p : Int × Int} : p ∈ tagged l ↔ ∃ i : Nat, l[i]? = some p.1 ∧ p.2 = (i : Int) := by
  unfold tagged
  rw [List.mem_map]
  constructor
  · rintro ⟨q, hq, rfl⟩
    rw [List.mem_zipIdx_iff_getElem?] at hq
    exact ⟨q.2, hq, rfl⟩
  · rintro ⟨i, h, e⟩
    refine ⟨(p.1, i), ?_, ?_⟩
    · rw [List.mem_zipIdx_iff_getElem?]
      exact h
    · ext
      · rfl
      · exact e.symm
theorem pick_ok {l : List Int} (h : l ≠ []) : ∃ (i : Nat) (v : Int), pick l = (i : Int) ∧ l[i]? = some v ∧ least2 (tagged l) = some (v, (i : Int)) ∧ (∀ (j : Nat) (u : Int), l[j]? = some u → v ≤ u) ∧ ∀ (j : Nat) (u : Int), l[j]? = some u → j < i → v < u := by
  have : tagged l ≠ [] := by
    intro e
    have := congrArg List.length e
    unfold tagged at this
    simp at this
    exact h this
  obtain ⟨p, e⟩ := least2_some this
  obtain ⟨i, h1, h2⟩ := mem_tagged.mp (least2_mem e)
  have ep : p = (p.1, (i : Int)) := by
    ext
    · rfl
    · exact h2
  refine ⟨i, p.1, ?_, h1, by rw [e, ← ep], fun j u hj => ?_, fun j u hj hl => ?_⟩
  · unfold pick
    rw [e]
    exact h2
  all_goals
    have z := least2_le e (u, (j : Int)) (mem_tagged.mpr ⟨j, hj, rfl⟩)
    unfold ltP at z
    simp only at z
    omega
theorem alike_ints' (l : List Int) : PySem.W.AlikeAll (l.map .int) := by
  refine ⟨fun x hx y hy => ?_, fun x hx => ?_⟩
  · obtain ⟨a, _, rfl⟩ := List.mem_map.mp hx
    obtain ⟨b, _, rfl⟩ := List.mem_map.mp hy
    simp [PySem.W.alike]
  · obtain ⟨a, _, rfl⟩ := List.mem_map.mp hx
    exact fun z => nomatch z
theorem line5 {n : Nat} (h : n ≤ 100000) : n < sizeLine := by rw [sizeLine_eq]; omega
theorem line5' {n : Nat} (h : n ≤ 100000) : n ≤ sizeLine := by rw [sizeLine_eq]; omega
theorem map_const_all {α : Type} (xs : List α) : (xs.map fun _ => PyData.bool true) = (xs.map fun _ => true).map PyData.bool := by
  rw [List.map_map]
  rfl
end DL

/-! DL15: sum, least, greatest of a tuple. -/
namespace DL
open PySem L2 PyProof.Rows
open PySem.W (alike alikeAll AlikeAll minD maxD argBest_fold readsAll_len iter_listW iter_tupleW moved_old cmpIn_lt cmpIn_gt dataLt)
section
variable {prog : Program} {w : World} {A : Around} {E : Value → Shared → Prop} {s : Shared} {l : Addr} {vs : Array Value} {x : PyData} {xs : List PyData} {as : List Addr} {Q : Value → Shared → Prop}
theorem min_at_t (hd : A.handled = none) (hl : s.heap.IsTuple l vs) (hr : ReadsAll s.heap vs.toList (x :: xs) as) (ha : AlikeAll (x :: xs)) (hu : A.units + 1 + PyData.depthAll (x :: xs) < cLine)
    (fin : ∀ (i : Nat) v h' tk, vs[i]? = some v → (x :: xs)[i]? = some (minD x xs) → (∀ b o, s.heap.get? b = some o → h'.get? b = some o) → Q v { s with heap := h', toks := tk }) : wpAny (model prog w) A (call (.builtin "min") [.ref l]) Q E s := by
  have len : vs.size = xs.length + 1 := readsAll_len hr
  refine call_min_walkH (iter_tupleW (A := A.in1) hd hl fun s2 e W st fp hw k => ?_)
  refine ⟨_, _, _, _, _, _, _, s.heap, _, rfl, W, st, fp, by omega, hw, k, cmpIn_lt (A := A.in1) hr ha hu, fun v t hv m => ?_⟩
  obtain ⟨h', tk, e2, k2⟩ := moved_old e rfl m
  rw [e2]
  exact fin _ v h' tk hv (fold_ix dataLt vs.size (by omega)) k2
theorem max_at_t (hd : A.handled = none) (hl : s.heap.IsTuple l vs) (hr : ReadsAll s.heap vs.toList (x :: xs) as) (ha : AlikeAll (x :: xs)) (hu : A.units + 1 + PyData.depthAll (x :: xs) < cLine)
    (fin : ∀ (i : Nat) v h' tk, vs[i]? = some v → (x :: xs)[i]? = some (maxD x xs) → (∀ b o, s.heap.get? b = some o → h'.get? b = some o) → Q v { s with heap := h', toks := tk }) : wpAny (model prog w) A (call (.builtin "max") [.ref l]) Q E s := by
  have len : vs.size = xs.length + 1 := readsAll_len hr
  refine call_max_walkH (iter_tupleW (A := A.in1) hd hl fun s2 e W st fp hw k => ?_)
  refine ⟨_, _, _, _, _, _, _, s.heap, _, rfl, W, st, fp, by omega, hw, k, cmpIn_gt (A := A.in1) hr ha hu, fun v t hv m => ?_⟩
  obtain ⟨h', tk, e2, k2⟩ := moved_old e rfl m
  rw [e2]
  exact fin _ v h' tk hv (fold_ix (fun a b => dataLt b a) vs.size (by omega)) k2
end
section
variable {X : Cx} {K : PySem.W.Frag} {fr : List (Addr × HO)} {F F' H H' : Hp} {as as' : List Addr} {cs : Cells} {σ : L2.St} {ρ : Env}
def rSumT (K : PySem.W.Frag) : List V → Hp → VK → Prop := fun vs H Q => ∃ (a : Addr) (ns : List Int), vs = [V.ref a] ∧ SqT K H a (ns.map V.int) ∧ Q (.int ns.sum) H
theorem cr_sumT (hc : X.calm = true) : CallR X (.builtin "sum") (rSumT X.K) := by
  intro pins s σ H vs us Q I r h
  obtain ⟨a, ns, rfl, hs, q⟩ := h
  obtain ⟨its, rv, hl, _⟩ := I.tuple hs
  rw [Vals.ref1 r]
  have hi := rv.ints
  obtain ⟨xs, e⟩ := hi.allInts.items
  have hn : numsOf (intItems xs).toList = ns := by rw [← e]; exact hi.numsOf
  rw [nums_intItems] at hn
  have hl : s.heap.IsTuple a its.toArray := hl
  rw [e] at hl
  refine PySem.W.ktm_sumG (I.ok.hd hc) hl fun h' tk t' hk => ?_
  rw [preSum_eq, List.take_of_length_le (by simp), hn]
  exact ⟨.int _, H, I.kept hk, ⟨_, rfl⟩, q⟩
theorem tup_ok {x : DL.Loc} {v : V} {ds : List PyData} (S : Stt K fr F H as cs) (l : LocOk K F as v x) (h : seqOf x cs = some ds) (hn : lstOf x cs = none) : ∃ a vs, v = .ref a ∧ SqT K H a vs ∧ RpAll K F vs ds := by
  cases x with
  | d x =>
    cases x <;> first | cases h | skip
    · cases hn
    · cases l with
      | tup h1 h2 => exact ⟨_, _, rfl, SqT.of (S.ext.exact h1 rfl), h2⟩
  | c i =>
    have e : lstOf (.c i) cs = some ds := h
    rw [e] at hn
    cases hn
  | s ns => cases h
def oSumS : DRC := fun rs cs Φ => match rs with
  | [x] => ∃ ns : List Int, seqOf x cs = some (ns.map .int) ∧ Φ (.d (.int ns.sum)) cs
  | _ => False
theorem do_sumS (hc : X.calm = true) : CallD X (.builtin "sum") oSumS := ⟨_, (cr_sum hc).or (cr_sumT hc), fun S l Φ Q h q => by
  unfold oSumS at h
  split at h
  · rename_i y
    obtain ⟨v, rfl, l1⟩ := pair1 l
    obtain ⟨ns, e, h⟩ := h
    cases e2 : lstOf y _ with
    | some ds =>
      have e3 := lst_seq e2
      rw [e] at e3
      cases e3
      obtain ⟨a, rfl, ha⟩ := ints_ok S l1 e2
      exact .inl ⟨a, ns, rfl, ha, q.here S (.int _) h⟩
    | none =>
      obtain ⟨a, vs, rfl, ht, r⟩ := tup_ok S l1 e e2
      rw [r.ints] at ht
      exact .inr ⟨a, ns, rfl, ht, q.here S (.int _) h⟩
  · exact h.elim⟩
def rBestT (K : PySem.W.Frag) (best : PyData → List PyData → PyData) : List V → Hp → VK → Prop := fun vs H Q => ∃ a xs x ds, vs = [.ref a] ∧ SqT K H a xs ∧ DpAll K H xs (x :: ds) ∧ AlikeAll (x :: ds) ∧ PyData.depthAll (x :: ds) ≤ 60 ∧
  ∀ (i : Nat) v, xs[i]? = some v → (x :: ds)[i]? = some (best x ds) → Q v H
theorem cr_minT (hc : X.calm = true) (hu : X.A.units + 64 < cLine) : CallR X (.builtin "min") (rBestT X.K minD) := by
  intro pins s σ H vs us Q I r h
  obtain ⟨a, xs, x, ds, rfl, hs, hd, ha, h60, q⟩ := h
  obtain ⟨its, rv, hl, _⟩ := I.tuple hs
  rw [Vals.ref1 r]
  obtain ⟨as, rd⟩ := Dp.readsAll I (x :: ds) xs its hd rv
  refine min_at_t (I.ok.hd hc) hl rd ha (by omega) fun i v h' tk hv e k => ?_
  obtain ⟨v', e1, r1⟩ := Paired.get1 rv (show its[i]? = some v by simpa using hv)
  exact ⟨v', H, I.kept k, r1, q i v' e1 e⟩
theorem cr_maxT (hc : X.calm = true) (hu : X.A.units + 64 < cLine) : CallR X (.builtin "max") (rBestT X.K maxD) := by
  intro pins s σ H vs us Q I r h
  obtain ⟨a, xs, x, ds, rfl, hs, hd, ha, h60, q⟩ := h
  obtain ⟨its, rv, hl, _⟩ := I.tuple hs
  rw [Vals.ref1 r]
  obtain ⟨as, rd⟩ := Dp.readsAll I (x :: ds) xs its hd rv
  refine max_at_t (I.ok.hd hc) hl rd ha (by omega) fun i v h' tk hv e k => ?_
  obtain ⟨v', e1, r1⟩ := Paired.get1 rv (show its[i]? = some v by simpa using hv)
  exact ⟨v', H, I.kept k, r1, q i v' e1 e⟩
def oBestS (best : PyData → List PyData → PyData) : DRC := fun rs cs Φ => match rs with
  | [y] => ∃ x ds, seqOf y cs = some (x :: ds) ∧ AlikeAll (x :: ds) ∧ PyData.depthAll (x :: ds) ≤ 60 ∧ Φ (.d (best x ds)) cs
  | _ => False
theorem snd_bestS {best : PyData → List PyData → PyData} : SndC K (fun vs H Q => rBestD K best vs H Q ∨ rBestT K best vs H Q) (oBestS best) := fun S l Φ Q h q => by
  unfold oBestS at h
  split at h
  · rename_i y
    obtain ⟨v, rfl, l1⟩ := pair1 l
    obtain ⟨x, ds, e, ha, h60, h⟩ := h
    obtain ⟨a, vs, rfl, hl, r⟩ := seqOf_ok S l1 e
    have dp := (r.mono S.ext).dps (noDics_mem fun d hd => noDic_alike d (ha.1 d hd d hd))
    have fin : ∀ (i : Nat) v, vs[i]? = some v → (x :: ds)[i]? = some (best x ds) → Q v _ := fun i v hv hx => by
      obtain ⟨d, e1, e2⟩ := r.get' hv
      rw [hx] at e1
      cases e1
      exact q.here S e2 h
    rcases hl with hl | hl
    · exact .inl ⟨a, vs, x, ds, rfl, hl, dp, ha, h60, fin⟩
    · exact .inr ⟨a, vs, x, ds, rfl, hl, dp, ha, h60, fin⟩
  · exact h.elim
theorem do_minS (hc : X.calm = true) (hu : X.A.units + 64 < cLine) : CallD X (.builtin "min") (oBestS minD) := ⟨_, (cr_minD hc hu).or (cr_minT hc hu), snd_bestS⟩
theorem do_maxS (hc : X.calm = true) (hu : X.A.units + 64 < cLine) : CallD X (.builtin "max") (oBestS maxD) := ⟨_, (cr_maxD hc hu).or (cr_maxT hc hu), snd_bestS⟩
end
theorem best_ints_min {ns : List Int} (ne : ns ≠ []) {y : DL.Loc} {cs : Cells} {Φ : EK} (e : seqOf y cs = some (ns.map .int)) (h : Φ (.d (.int (minL ns))) cs) : oBestS minD [y] cs Φ := by
  cases ns with
  | nil => exact absurd rfl ne
  | cons n ns =>
    refine ⟨.int n, ns.map .int, e, alike_ints' (n :: ns), Nat.le_trans (depth_map (enc := PyData.int) (xs := n :: ns) (k := 0) fun x _ => by simp [PyData.depth]) (by omega), ?_⟩
    rw [PySem.W.minD_ints]
    exact h
theorem best_ints_max {ns : List Int} (ne : ns ≠ []) {y : DL.Loc} {cs : Cells} {Φ : EK} (e : seqOf y cs = some (ns.map .int)) (h : Φ (.d (.int (maxL ns))) cs) : oBestS maxD [y] cs Φ := by
  cases ns with
  | nil => exact absurd rfl ne
  | cons n ns =>
    refine ⟨.int n, ns.map .int, e, alike_ints' (n :: ns), Nat.le_trans (depth_map (enc := PyData.int) (xs := n :: ns) (k := 0) fun x _ => by simp [PyData.depth]) (by omega), ?_⟩
    rw [PySem.W.maxD_ints]
    exact h
/-- what is walked is found first -/
theorem for_draw {di : DTI} {g : DTG} {tb : DTS} {Δ : DEnds} {ρ : Env} {cs : Cells} (h : di ρ cs fun J cs1 => dFor (fun _ c R => R J c) g tb Δ ρ cs1) : dFor di g tb Δ ρ cs := h
theorem lc_draw {b : Bool} {di : DTI} {g : DTG} {tt : DTT} {te : DTE} {vs : List Nat} {ρ : Env} {cs : Cells} {Φ : EK} (h : di ρ cs fun J cs1 => dLc b (fun _ c R => R J c) g tt te vs ρ cs1 Φ) : dLc b di g tt te vs ρ cs Φ := h
theorem seq_split {t u : DTS} {Δ : DEnds} {ρ : Env} {cs : Cells} (MID : Env → Cells → Prop) (h : ∀ X : Env → Cells → Prop, (∀ ρ' cs', MID ρ' cs' → X ρ' cs') → t { Δ with nx := X } ρ cs) (h2 : ∀ ρ' cs', MID ρ' cs' → u Δ ρ' cs') : dSeq t u Δ ρ cs := h (u Δ) h2
theorem for_split {di : DTI} {g : DTG} {tb : DTS} {Δ : DEnds} {ρ : Env} {cs : Cells} (MID : Env → Cells → Prop) (h : ∀ X : Env → Cells → Prop, (∀ ρ' cs', MID ρ' cs' → X ρ' cs') → dFor di g tb { Δ with nx := X } ρ cs) (h2 : ∀ ρ' cs', MID ρ' cs' → Δ.nx ρ' cs') : dFor di g tb Δ ρ cs := h Δ.nx h2
end DL

/-! k09, queues: what the defs compute, in plain Lean, and what each promises. -/
namespace Q09
open PySem L2 PyProof.Rows DL
open PySem.W (minD maxD)
def enc3 (r : Int × Int × Int) : PyData := .tuple [.int r.1, .int r.2.1, .int r.2.2]
@[simp] def encC (cs : List (Int × Int)) : PyData := .tuple (cs.map encP)
def okP (p : Int × Int) : Prop := 0 ≤ p.1 ∧ p.1 ≤ 10000 ∧ 1 ≤ p.2 ∧ p.2 ≤ 500
def okC (cs : List (Int × Int)) : Prop := cs.length ≤ 60 ∧ (∀ p ∈ cs, okP p) ∧ cs.Pairwise (fun a b => a.1 ≤ b.1)
def turn (s : List Int × List (Int × Int × Int)) (c : Int × Int) : List Int × List (Int × Int × Int) :=
  (s.1.set (pick s.1).toNat (max c.1 (s.1.getD (pick s.1).toNat 0) + c.2), s.2 ++ [(pick s.1, max c.1 (s.1.getD (pick s.1).toNat 0), max c.1 (s.1.getD (pick s.1).toNat 0) + c.2)])
def serve (cs : List (Int × Int)) (k : Int) : List Int × List (Int × Int × Int) := cs.foldl turn (List.replicate k.toNat 0, [])
def rows (cs : List (Int × Int)) (k : Int) : List (Int × Int × Int) := (serve cs k).2
def waits (cs : List (Int × Int)) (k : Int) : List Int := (cs.zip (rows cs k)).map fun p => p.2.2.1 - p.1.1
def waitingAt (cs : List (Int × Int)) (rs : List (Int × Int × Int)) (h : Int) : Int := (((cs.zip rs).filter fun p => decide (p.1.1 ≤ h) && decide (h < p.2.2.1)).length : Nat)
def longest (cs : List (Int × Int)) (rs : List (Int × Int × Int)) : Int := maxL (0 :: cs.map fun c => waitingAt cs rs c.1)
def fewest (cs : List (Int × Int)) (most : Int) : Option Int := ([1, 2, 3, 4, 5, 6] : List Int).find? fun k => decide (maxL (0 :: waits cs k) ≤ most)
def hours (cs : List (Int × Int)) (rs : List (Int × Int × Int)) : List Int := sortI (cs.map (·.1) ++ rs.map (·.2.1))
def area (cs : List (Int × Int)) (rs : List (Int × Int × Int)) : Int := (((hours cs rs).zip ((hours cs rs).tail)).map fun p => (p.2 - p.1) * waitingAt cs rs p.1).sum
def cAt (cs : List (Int × Int)) (i : Int) : Int × Int := cs.getD i.toNat (0, 0)
def there (cs : List (Int × Int)) (left : List Int) (hour : Int) : List (Int × Int) := (left.filter fun i => decide ((cAt cs i).1 ≤ hour)).map fun i => ((cAt cs i).2, i)
def nextS (cs : List (Int × Int)) (left : List Int) (hour : Int) : Option Int := (least2 (there cs left hour)).map (·.2)
/-- shortest first: who is left, the hour, when each begins -/
def sstep (cs : List (Int × Int)) (s : List Int × Int × List Int) : List Int × Int × List Int :=
  let now := max s.2.1 (minL (s.1.map fun i => (cAt cs i).1))
  match nextS cs s.1 now with
  | some i => (s.1.erase i, now + (cAt cs i).2, s.2.2.set i.toNat now)
  | none => s
def srun (cs : List (Int × Int)) : Nat → List Int × Int × List Int
  | 0 => (rgI 0 cs.length, 0, List.replicate cs.length 0)
  | n + 1 => sstep cs (srun cs n)
def short (cs : List (Int × Int)) : List Int := (srun cs cs.length).2.2
def waitsOf (cs : List (Int × Int)) (bs : List Int) : List Int := (bs.zip cs).map fun p => p.1 - p.2.1
def okB (cs : List (Int × Int)) (bs : List Int) : Prop := bs.length = cs.length ∧ ∀ p ∈ bs.zip cs, p.2.1 ≤ p.1
def optI : Option Int → PyData
  | some i => .int i
  | none => .none
/-! ### promises -/
def isInt : PyData → Bool
  | .int _ => true
  | _ => false
def sp_is_integer : PSp := fun ds Φ => ∃ x, ds = [x] ∧ isDict x = false ∧ Φ (.bool (isInt x))
def sp_is_within : PSp := fun ds Φ => ∃ a b c : Int, ds = [.int a, .int b, .int c] ∧ Φ (.bool (decide (b ≤ a) && decide (a ≤ c)))
def sp_is_tuple_of : PSp := fun ds Φ => ∃ (es : List PyData) (k : Int), ds = [.tuple es, .int k] ∧ Φ (.bool (decide ((es.length : Int) = k)))
def sp_is_comer : PSp := fun ds Φ => ∃ p, ds = [encP p] ∧ okP p ∧ Φ (.bool true)
def sp_check_comers : PSp := fun ds Φ => ∃ cs, ds = [encC cs] ∧ okC cs ∧ Φ .none
def sp_check_served : PSp := fun ds Φ => ∃ cs k, ds = [encC cs, .int k] ∧ okC cs ∧ (1 ≤ k ∧ k ≤ 6) ∧ Φ .none
def sp_raw_served : PSp := fun ds Φ => ∃ cs k, ds = [encC cs, .int k] ∧ okC cs ∧ (1 ≤ k ∧ k ≤ 6) ∧ Φ (.list ((rows cs k).map enc3))
def sp_served : PSp := fun ds Φ => ∃ cs k, ds = [encC cs, .int k] ∧ okC cs ∧ (1 ≤ k ∧ k ≤ 6) ∧ Φ (.tuple ((rows cs k).map enc3))
def sp_raw_waits : PSp := fun ds Φ => ∃ cs k, ds = [encC cs, .int k] ∧ okC cs ∧ (1 ≤ k ∧ k ≤ 6) ∧ Φ (.list ((waits cs k).map .int))
def sp_waits_of : PSp := fun ds Φ => ∃ cs k, ds = [encC cs, .int k] ∧ okC cs ∧ (1 ≤ k ∧ k ≤ 6) ∧ Φ (.tuple ((waits cs k).map .int))
def sp_waiting_at : PSp := fun ds Φ => ∃ cs rs h, ds = [encC cs, .list (rs.map enc3), .int h] ∧ cs.length ≤ 60 ∧ Φ (.int (waitingAt cs rs h))
def sp_longest_line : PSp := fun ds Φ => ∃ cs k, ds = [encC cs, .int k] ∧ okC cs ∧ (1 ≤ k ∧ k ≤ 6) ∧ Φ (.int (longest cs (rows cs k)))
def sp_fewest_clerks : PSp := fun ds Φ => ∃ cs most, ds = [encC cs, .int most] ∧ okC cs ∧ (0 ≤ most ∧ most ≤ 10000) ∧ Φ (optI (fewest cs most))
def sp_line_area : PSp := fun ds Φ => ∃ cs k, ds = [encC cs, .int k] ∧ okC cs ∧ (1 ≤ k ∧ k ≤ 6) ∧ Φ (.int (area cs (rows cs k)))
def inC (cs : List (Int × Int)) (left : List Int) : Prop := ∀ i ∈ left, 0 ≤ i ∧ i < cs.length
def sp_next_shortest : PSp := fun ds Φ => ∃ cs left hour, ds = [encC cs, .list (left.map .int), .int hour] ∧ cs.length ≤ 60 ∧ left.length ≤ 60 ∧ inC cs left ∧ Φ (optI (nextS cs left hour))
def encF (kv : List (Int × Int)) : PyData := .dict (kv.map fun p => (.int p.1, .int p.2))
def sp_raw_shortest : PSp := fun ds Φ => ∃ cs, ds = [encC cs] ∧ okC cs ∧ ∀ kv : List (Int × Int), (∀ i : Nat, i < cs.length → getD (kv.map fun p => (.int p.1, .int p.2)) (.int i) = some (.int ((short cs).getD i 0))) → Φ (encF kv)
def sp_shortest_first : PSp := fun ds Φ => ∃ cs, ds = [encC cs] ∧ okC cs ∧ Φ (.tuple ((short cs).map .int))
def sp_are_begins : PSp := fun ds Φ => ∃ cs bs, ds = [encC cs, .tuple (bs.map .int)] ∧ okC cs ∧ okB cs bs ∧ Φ (.bool true)
def sp_sum_of_waits : PSp := fun ds Φ => ∃ cs bs, ds = [encC cs, .tuple (bs.map .int)] ∧ okC cs ∧ okB cs bs ∧ Φ (.int (waitsOf cs bs).sum)
def sp__law_draw : PSp := fun ds Φ => ∃ n : Int, ds = [.int n] ∧ (0 < n ∧ n < 1073741824) ∧ ∀ r : Int, 0 ≤ r → r < n → Φ (.int r)
def sp__law_some : PSp := fun ds Φ => ∃ es, ds = [.list es] ∧ es ≠ [] ∧ es.length < 1000000 ∧ ∀ x ∈ es, Φ x
def sp__law_is : PSp := fun ds Φ => ∃ x, ds = [x, x] ∧ Shows x ∧ Φ (.bool true)
def sp__law_mixed : PSp := fun ds Φ => ∃ ns : List Int, ds = [.list (ns.map .int)] ∧ ns.length ≤ 1000 ∧ ∀ ms : List Int, ms.Perm ns → Φ (.list (ms.map .int))
def sp__law_served : PSp := sp_served
def sp__law_line : PSp := fun ds Φ => ∃ cs rs, ds = [encC cs, .tuple (rs.map enc3)] ∧ cs.length ≤ 60 ∧ Φ (.int (longest cs rs))
def sp__law_short : PSp := sp_shortest_first
def sp__law_comers : PSp := fun ds Φ => ds = [] ∧ ∀ cs, okC cs → Φ (encC cs)
def sp__law_is_right : PSp := fun ds Φ => ∃ cs, ds = [encC cs] ∧ okC cs ∧ Φ (.bool true)
end Q09

namespace Q09
open PySem L2 PyProof.Rows DL
open PySem.W (minD maxD)
abbrev N_is_integer : List Str := ["thing"]
def t_is_integer : DTS := (dRet (dAndV (dIsi "int" (dVar 0)) (dNotV (dIsi "bool" (dVar 0)))))
abbrev N_is_within : List Str := ["thing", "least", "most"]
def t_is_within : DTS := (dRet (dAndV (dCallP sp_is_integer (dCons (dVar 0) dNil)) (dChain oLe oLe (dVar 1) (dVar 0) (dVar 2))))
abbrev N_is_tuple_of : List Str := ["thing", "size"]
def t_is_tuple_of : DTS := (dRet (dAndV (dIsi "tuple" (dVar 0)) (dBin (oEq false) (dCB oLen (dCons (dVar 0) dNil)) (dVar 1))))
abbrev N_is_comer : List Str := ["thing"]
def t_is_comer : DTS := (dRet (dAndV (dCallP sp_is_tuple_of (dCons (dVar 0) (dCons (dC (.int 2)) dNil))) (dAndV (dCallP sp_is_within (dCons (dBin oIx (dVar 0) (dC (.int 0))) (dCons (dC (.int 0)) (dCons (dC (.int 10000)) dNil)))) (dCallP sp_is_within (dCons (dBin oIx (dVar 0) (dC (.int 1))) (dCons (dC (.int 1)) (dCons (dC (.int 500)) dNil)))))))
abbrev N_check_comers : List Str := ["comers", "one", "other"]
def t_check_comers : DTS := (dSeq (dIf (dOr (dNot (dTest (dIsi "tuple" (dVar 0)))) (dOr (dTest (dBin oGt (dCB oLen (dCons (dVar 0) dNil)) (dC (.int 60)))) (dNot (dTest (dCB oAll (dCons (dLc false (dISeq (dVar 0)) (dName 1) dYes (dCallP sp_is_comer (dCons (dVar 1) dNil)) [1]) dNil)))))) dNever dNext) (dIf (dNot (dTest (dCB oAll (dCons (dLc false (dIZip (dCons (dVar 0) (dCons (dSl false (dVar 0) (dPart (dC (.int 1))) dNoPart) dNil))) (dGTup 2 (dGCons (dName 1) (dGCons (dName 2) dGNil))) dYes (dBin oLe (dBin oIx (dVar 1) (dC (.int 0))) (dBin oIx (dVar 2) (dC (.int 0)))) [1, 2]) dNil)))) dNever dNext))
abbrev N_check_served : List Str := ["comers", "clerks"]
def t_check_served : DTS := (dSeq (dDrop (dCallP sp_check_comers (dCons (dVar 0) dNil))) (dIf (dNot (dTest (dCallP sp_is_within (dCons (dVar 1) (dCons (dC (.int 1)) (dCons (dC (.int 6)) dNil)))))) dNever dNext))
abbrev N_raw_served : List Str := ["comers", "clerks", "free", "found", "hour", "length", "clerk", "begin", "one", "told"]
def t_raw_served : DTS := (dSeq (dPar 2 3 (dCons (dBin (oMul true) (dLst false (dCons (dC (.int 0)) dNil)) (dVar 1)) (dCons (dLst true dNil) dNil))) (dSeq (dFor (dISeq (dVar 0)) (dGTup 2 (dGCons (dName 4) (dGCons (dName 5) dGNil))) (dSeq (dSet 6 (dBin oIx (dCB (oBestD minD) (dCons (dLc false (dIEnum (dCons (dVar 2) dNil)) (dGTup 2 (dGCons (dName 8) (dGCons (dName 9) dGNil))) dYes (dTup (dCons (dVar 9) (dCons (dVar 8) dNil))) [8, 9]) dNil)) (dC (.int 1)))) (dSeq (dSet 7 (dCB oMax2 (dCons (dVar 4) (dCons (dBin oIx (dVar 2) (dVar 6)) dNil)))) (dSeq (dAsg (dBin (oAdd false) (dVar 7) (dVar 5)) (dGSub (dVar 2) (dVar 6))) (dDrop (dBM oAppend (dVar 3) (dCons (dTup (dCons (dVar 6) (dCons (dVar 7) (dCons (dBin (oAdd false) (dVar 7) (dVar 5)) dNil)))) dNil))))))) (dRet (dVar 3))))
abbrev N_served : List Str := ["comers", "clerks"]
def t_served : DTS := (dSeq (dDrop (dCallP sp_check_served (dCons (dVar 0) (dCons (dVar 1) dNil)))) (dRet (dCB oTuple (dCons (dCallP sp_raw_served (dCons (dVar 0) (dCons (dVar 1) dNil))) dNil))))
abbrev N_raw_waits : List Str := ["comers", "clerks", "comer", "told"]
def t_raw_waits : DTS := (dRet (dLc false (dIZip (dCons (dVar 0) (dCons (dCallP sp_raw_served (dCons (dVar 0) (dCons (dVar 1) dNil))) dNil))) (dGTup 2 (dGCons (dName 2) (dGCons (dName 3) dGNil))) dYes (dBin oSub (dBin oIx (dVar 3) (dC (.int 1))) (dBin oIx (dVar 2) (dC (.int 0)))) [2, 3]))
abbrev N_waits_of : List Str := ["comers", "clerks"]
def t_waits_of : DTS := (dSeq (dDrop (dCallP sp_check_served (dCons (dVar 0) (dCons (dVar 1) dNil)))) (dRet (dCB oTuple (dCons (dCallP sp_raw_waits (dCons (dVar 0) (dCons (dVar 1) dNil))) dNil))))
abbrev N_waiting_at : List Str := ["comers", "rows", "hour", "comer", "told"]
def t_waiting_at : DTS := (dRet (dCB oLen (dCons (dLc false (dIZip (dCons (dVar 0) (dCons (dVar 1) dNil))) (dGTup 2 (dGCons (dName 3) (dGCons (dName 4) dGNil))) (dTest (dChain oLe oLt (dBin oIx (dVar 3) (dC (.int 0))) (dVar 2) (dBin oIx (dVar 4) (dC (.int 1))))) (dC (.int 1)) [3, 4]) dNil)))
abbrev N_longest_line : List Str := ["comers", "clerks", "rows", "comer"]
def t_longest_line : DTS := (dSeq (dDrop (dCallP sp_check_served (dCons (dVar 0) (dCons (dVar 1) dNil)))) (dSeq (dSet 2 (dCallP sp_raw_served (dCons (dVar 0) (dCons (dVar 1) dNil)))) (dRet (dCB oMaxL (dCons (dBin (oAdd false) (dLst false (dCons (dC (.int 0)) dNil)) (dLc false (dISeq (dVar 0)) (dName 3) dYes (dCallP sp_waiting_at (dCons (dVar 0) (dCons (dVar 2) (dCons (dBin oIx (dVar 3) (dC (.int 0))) dNil)))) [3])) dNil)))))
abbrev N_fewest_clerks : List Str := ["comers", "most", "clerks"]
def t_fewest_clerks : DTS := (dSeq (dDrop (dCallP sp_check_comers (dCons (dVar 0) dNil))) (dSeq (dIf (dNot (dTest (dCallP sp_is_within (dCons (dVar 1) (dCons (dC (.int 0)) (dCons (dC (.int 10000)) dNil)))))) dNever dNext) (dSeq (dFor (dIRng2 (dCons (dC (.int 1)) (dCons (dBin (oAdd false) (dC (.int 6)) (dC (.int 1))) dNil))) (dName 2) (dIf (dTest (dBin oLe (dCB oMaxL (dCons (dBin (oAdd false) (dLst false (dCons (dC (.int 0)) dNil)) (dCallP sp_raw_waits (dCons (dVar 0) (dCons (dVar 2) dNil)))) dNil)) (dVar 1))) (dRet (dVar 2)) dNext)) (dRet (dC .none)))))
abbrev N_line_area : List Str := ["comers", "clerks", "rows", "hours", "area", "hour", "later", "comer", "told"]
def t_line_area : DTS := (dSeq (dDrop (dCallP sp_check_served (dCons (dVar 0) (dCons (dVar 1) dNil)))) (dSeq (dSet 2 (dCallP sp_raw_served (dCons (dVar 0) (dCons (dVar 1) dNil)))) (dSeq (dSet 3 (dCB (oSortI false) (dCons (dBin (oAdd false) (dLc false (dISeq (dVar 0)) (dName 7) dYes (dBin oIx (dVar 7) (dC (.int 0))) [7]) (dLc false (dISeq (dVar 2)) (dName 8) dYes (dBin oIx (dVar 8) (dC (.int 1))) [8])) dNil))) (dSeq (dSet 4 (dC (.int 0))) (dSeq (dFor (dIZip (dCons (dVar 3) (dCons (dSl false (dVar 3) (dPart (dC (.int 1))) dNoPart) dNil))) (dGTup 2 (dGCons (dName 5) (dGCons (dName 6) dGNil))) (dAugI (fun i j => i + j) 4 (dBin (oMul false) (dBin oSub (dVar 6) (dVar 5)) (dCallP sp_waiting_at (dCons (dVar 0) (dCons (dVar 2) (dCons (dVar 5) dNil))))))) (dRet (dVar 4)))))))
abbrev N_next_shortest : List Str := ["comers", "left", "hour", "there", "one"]
def t_next_shortest : DTS := (dSeq (dSet 3 (dLc false (dISeq (dVar 1)) (dName 4) (dTest (dBin oLe (dBin oIx (dBin oIx (dVar 0) (dVar 4)) (dC (.int 0))) (dVar 2))) (dTup (dCons (dBin oIx (dBin oIx (dVar 0) (dVar 4)) (dC (.int 1))) (dCons (dVar 4) dNil))) [4])) (dRet (dIfE (dTest (dBin oGt (dCB oLen (dCons (dVar 3) dNil)) (dC (.int 0)))) (dBin oIx (dCB (oBestD minD) (dCons (dVar 3) dNil)) (dC (.int 1))) (dC .none))))
abbrev N_raw_shortest : List Str := ["comers", "left", "hour", "found", "one"]
def t_raw_shortest : DTS := (dSeq (dPar3 1 2 3 (dCons (dLRg1 true (dCB oLen (dCons (dVar 0) dNil))) (dCons (dC (.int 0)) (dCons dNewK dNil)))) (dSeq (dWhile (dTest (dBin oGt (dCB oLen (dCons (dVar 1) dNil)) (dC (.int 0)))) (dSeq (dSet 4 (dCallP sp_next_shortest (dCons (dVar 0) (dCons (dVar 1) (dCons (dVar 2) dNil))))) (dIf (dTest (dBin (oIs false) (dVar 4) (dC .none))) (dSet 2 (dBin oIx (dBin oIx (dVar 0) (dBin oIx (dVar 1) (dC (.int 0)))) (dC (.int 0)))) (dSeq (dAsg (dVar 2) (dGSub (dVar 3) (dVar 4))) (dSeq (dAugI (fun i j => i + j) 2 (dBin oIx (dBin oIx (dVar 0) (dVar 4)) (dC (.int 1)))) (dDrop (dBM oRemove (dVar 1) (dCons (dVar 4) dNil)))))))) (dRet (dVar 3))))
abbrev N_shortest_first : List Str := ["comers", "told", "one"]
def t_shortest_first : DTS := (dSeq (dDrop (dCallP sp_check_comers (dCons (dVar 0) dNil))) (dSeq (dSet 1 (dCallP sp_raw_shortest (dCons (dVar 0) dNil))) (dRet (dCB oTuple (dCons (dLc false (dIRng1 (dCons (dCB oLen (dCons (dVar 0) dNil)) dNil)) (dName 2) dYes (dBin oIx (dVar 1) (dVar 2)) [2]) dNil)))))
abbrev N_are_begins : List Str := ["comers", "thing", "hour", "comer"]
def t_are_begins : DTS := (dSeq (dIf (dOr (dNot (dTest (dCallP sp_is_tuple_of (dCons (dVar 1) (dCons (dCB oLen (dCons (dVar 0) dNil)) dNil))))) (dNot (dTest (dCB oAll (dCons (dLc false (dISeq (dVar 1)) (dName 2) dYes (dCallP sp_is_integer (dCons (dVar 2) dNil)) [2]) dNil))))) (dRet (dC (.bool false))) dNext) (dRet (dCB oAll (dCons (dLc false (dIZip (dCons (dVar 1) (dCons (dVar 0) dNil))) (dGTup 2 (dGCons (dName 2) (dGCons (dName 3) dGNil))) dYes (dBin oGe (dVar 2) (dBin oIx (dVar 3) (dC (.int 0)))) [2, 3]) dNil))))
abbrev N_sum_of_waits : List Str := ["comers", "begins", "hour", "comer"]
def t_sum_of_waits : DTS := (dSeq (dDrop (dCallP sp_check_comers (dCons (dVar 0) dNil))) (dSeq (dIf (dNot (dTest (dCallP sp_are_begins (dCons (dVar 0) (dCons (dVar 1) dNil))))) dNever dNext) (dRet (dCB oSumS (dCons (dLc false (dIZip (dCons (dVar 1) (dCons (dVar 0) dNil))) (dGTup 2 (dGCons (dName 2) (dGCons (dName 3) dGNil))) dYes (dBin oSub (dVar 2) (dBin oIx (dVar 3) (dC (.int 0)))) [2, 3]) dNil)))))
abbrev N__law_hand : List Str := ["script", "cells", "cell"]
def t__law_hand : DTS := (dSeq (dSet 1 (dLc false (dISeq (dSl false (dVar 0) dNoPart (dPart (dC (.int 60))))) (dName 2) dYes (dBin oMod (dCB oAbs (dCons (dCB oInt (dCons (dVar 2) dNil)) dNil)) (dBin oPow (dC (.int 10)) (dC (.int 36)))) [2])) (dRet (dLst true (dCons (dVar 1) (dCons (dC (.int 0)) (dCons (dC (.int 0)) (dCons (dBin (oAdd false) (dC (.int 94600)) (dBin (oMul false) (dC (.int 31)) (dCB oLen (dCons (dVar 1) dNil)))) (dCons (dC (.int 0)) dNil))))))))
abbrev N__law_draw : List Str := ["hand", "many", "cell", "digit", "number"]
def t__law_draw : DTS := (dSeq (dIf (dAnd (dTest (dBin (oEq false) (dBin oIx (dVar 0) (dC (.int 2))) (dC (.int 0)))) (dTest (dBin oLt (dBin oIx (dVar 0) (dC (.int 1))) (dCB oLen (dCons (dBin oIx (dVar 0) (dC (.int 0))) dNil))))) (dSeq (dSet 2 (dBin oIx (dBin oIx (dVar 0) (dC (.int 0))) (dBin oIx (dVar 0) (dC (.int 1))))) (dSeq (dAsg (dBin (oAdd false) (dBin oIx (dVar 0) (dC (.int 1))) (dC (.int 1))) (dGSub (dVar 0) (dC (.int 1)))) (dSeq (dAsg (dBin oMod (dCB oInt (dCons (dBin (oAdd false) (dBin (oAdd false) (dBin (oMul false) (dBin oIx (dVar 0) (dC (.int 3))) (dC (.int 48271))) (dBin (oMul false) (dBin oMod (dVar 2) (dC (.int 2147483629))) (dC (.int 69621)))) (dC (.int 17))) dNil)) (dC (.int 2147483629))) (dGSub (dVar 0) (dC (.int 3)))) (dIf (dTest (dBin oGe (dVar 2) (dBin oPow (dC (.int 10)) (dC (.int 15))))) (dAsg (dVar 2) (dGSub (dVar 0) (dC (.int 2)))) dNext)))) dNext) (dSeq (dIf (dTest (dBin oGt (dBin oIx (dVar 0) (dC (.int 2))) (dC (.int 0)))) (dSeq (dSet 3 (dBin oMod (dCB oInt (dCons (dBin oIx (dVar 0) (dC (.int 2))) dNil)) (dVar 1))) (dSeq (dAsg (dBin oFdiv (dCB oInt (dCons (dBin oIx (dVar 0) (dC (.int 2))) dNil)) (dVar 1)) (dGSub (dVar 0) (dC (.int 2)))) (dRet (dVar 3)))) dNext) (dSeq (dAsg (dBin (oAdd false) (dBin oIx (dVar 0) (dC (.int 4))) (dC (.int 1))) (dGSub (dVar 0) (dC (.int 4)))) (dSeq (dSet 4 (dBin oMod (dCB oInt (dCons (dBin (oMul false) (dCB oInt (dCons (dBin (oAdd false) (dBin oIx (dVar 0) (dC (.int 3))) (dBin (oMul false) (dC (.int 7919)) (dBin oIx (dVar 0) (dC (.int 4))))) dNil)) (dC (.int 40692))) dNil)) (dC (.int 2147483399)))) (dSeq (dSet 4 (dBin oMod (dCB oInt (dCons (dBin (oMul false) (dVar 4) (dBin (oAdd false) (dBin oFdiv (dVar 4) (dC (.int 1009))) (dC (.int 30011)))) dNil)) (dC (.int 2147483647)))) (dRet (dBin oMod (dCB oInt (dCons (dBin oFdiv (dVar 4) (dC (.int 32))) dNil)) (dVar 1))))))))
abbrev N__law_some : List Str := ["hand", "things"]
def t__law_some : DTS := (dRet (dBin oIx (dVar 1) (dCallH sp__law_draw (dCons (dVar 0) (dCons (dCB oLen (dCons (dVar 1) dNil)) dNil)))))
abbrev N__law_is : List Str := ["told", "due"]
def t__law_is : DTS := (dRet (dBin (oEq false) (dCB oRepr (dCons (dVar 0) dNil)) (dCB oRepr (dCons (dVar 1) dNil))))
abbrev N__law_mixed : List Str := ["hand", "some", "left", "found"]
def t__law_mixed : DTS := (dSeq (dPar 2 3 (dCons (dCB (oList true) (dCons (dVar 1) dNil)) (dCons (dLst true dNil) dNil))) (dSeq (dWhile (dTest (dBin oGt (dCB oLen (dCons (dVar 2) dNil)) (dC (.int 0)))) (dDrop (dBM oAppend (dVar 3) (dCons (dBM oPopAt (dVar 2) (dCons (dCallH sp__law_draw (dCons (dVar 0) (dCons (dCB oLen (dCons (dVar 2) dNil)) dNil))) dNil)) dNil)))) (dRet (dVar 3))))
abbrev N__law_served : List Str := ["comers", "clerks", "ends", "found", "hour", "length", "clerk", "begin", "at", "end"]
def t__law_served : DTS := (dSeq (dPar 2 3 (dCons (dBin (oMul true) (dLst false (dCons (dC (.int 0)) dNil)) (dVar 1)) (dCons (dLst true dNil) dNil))) (dSeq (dFor (dISeq (dVar 0)) (dGTup 2 (dGCons (dName 4) (dGCons (dName 5) dGNil))) (dSeq (dSet 6 (dBin oIx (dCB (oBestD minD) (dCons (dLc false (dIEnum (dCons (dVar 2) dNil)) (dGTup 2 (dGCons (dName 8) (dGCons (dName 9) dGNil))) dYes (dTup (dCons (dVar 9) (dCons (dVar 8) dNil))) [8, 9]) dNil)) (dC (.int 1)))) (dSeq (dSet 7 (dCB oMax2 (dCons (dBin oIx (dVar 2) (dVar 6)) (dCons (dVar 4) dNil)))) (dSeq (dAsg (dBin (oAdd false) (dVar 7) (dVar 5)) (dGSub (dVar 2) (dVar 6))) (dDrop (dBM oAppend (dVar 3) (dCons (dTup (dCons (dVar 6) (dCons (dVar 7) (dCons (dBin (oAdd false) (dVar 7) (dVar 5)) dNil)))) dNil))))))) (dRet (dCB oTuple (dCons (dVar 3) dNil)))))
abbrev N__law_line : List Str := ["comers", "rows", "most", "hour", "length", "came", "more", "row"]
def t__law_line : DTS := (dSeq (dSet 2 (dC (.int 0))) (dSeq (dFor (dISeq (dVar 0)) (dGTup 2 (dGCons (dName 3) (dGCons (dName 4) dGNil))) (dSet 2 (dCB oMax2 (dCons (dVar 2) (dCons (dCB oLen (dCons (dLc false (dIZip (dCons (dVar 0) (dCons (dVar 1) dNil))) (dGTup 2 (dGCons (dGTup 2 (dGCons (dName 5) (dGCons (dName 6) dGNil))) (dGCons (dName 7) dGNil))) (dTest (dChain oLe oLt (dVar 5) (dVar 3) (dBin oIx (dVar 7) (dC (.int 1))))) (dC (.int 1)) [5, 6, 7]) dNil)) dNil))))) (dRet (dVar 2))))
abbrev N__law_short : List Str := ["comers", "left", "now", "found", "at", "one"]
def t__law_short : DTS := (dSeq (dTupAsg 3 (dCons (dLRg1 true (dCB oLen (dCons (dVar 0) dNil))) (dCons (dC (.int 0)) (dCons (dBin (oMul true) (dLst false (dCons (dC (.int 0)) dNil)) (dCB oLen (dCons (dVar 0) dNil))) dNil))) (dGCons (dName 1) (dGCons (dName 2) (dGCons (dName 3) dGNil)))) (dSeq (dWhile (dTest (dBin oGt (dCB oLen (dCons (dVar 1) dNil)) (dC (.int 0)))) (dSeq (dSet 2 (dCB oMax2 (dCons (dVar 2) (dCons (dCB oMinL (dCons (dLc false (dISeq (dVar 1)) (dName 4) dYes (dBin oIx (dBin oIx (dVar 0) (dVar 4)) (dC (.int 0))) [4]) dNil)) dNil)))) (dSeq (dSet 4 (dBin oIx (dCB (oBestD minD) (dCons (dLc false (dISeq (dVar 1)) (dName 5) (dTest (dBin oLe (dBin oIx (dBin oIx (dVar 0) (dVar 5)) (dC (.int 0))) (dVar 2))) (dTup (dCons (dBin oIx (dBin oIx (dVar 0) (dVar 5)) (dC (.int 1))) (dCons (dVar 5) dNil))) [5]) dNil)) (dC (.int 1)))) (dSeq (dAsg (dVar 2) (dGSub (dVar 3) (dVar 4))) (dSeq (dSet 2 (dBin (oAdd false) (dVar 2) (dBin oIx (dBin oIx (dVar 0) (dVar 4)) (dC (.int 1))))) (dDrop (dBM oRemove (dVar 1) (dCons (dVar 4) dNil)))))))) (dRet (dCB oTuple (dCons (dVar 3) dNil)))))
abbrev N__law_comers : List Str := ["hand", "kind", "hour", "found", "turn"]
def t__law_comers : DTS := (dSeq (dPar3 1 2 3 (dCons (dCallH sp__law_draw (dCons (dVar 0) (dCons (dC (.int 4)) dNil))) (dCons (dCallH sp__law_draw (dCons (dVar 0) (dCons (dC (.int 100)) dNil))) (dCons (dLst true dNil) dNil)))) (dSeq (dFor (dIRng1 (dCons (dCallH sp__law_some (dCons (dVar 0) (dCons (dLst false (dCons (dC (.int 0)) (dCons (dC (.int 1)) (dCons (dC (.int 9)) (dCons (dC (.int 30)) (dCons (dC (.int 60)) dNil)))))) dNil))) dNil)) (dName 4) (dSeq (dIf (dTest (dBin oGt (dVar 1) (dC (.int 0)))) (dSet 2 (dBin (oAdd false) (dVar 2) (dCallH sp__law_some (dCons (dVar 0) (dCons (dLst false (dCons (dC (.int 0)) (dCons (dC (.int 0)) (dCons (dC (.int 1)) (dCons (dCallH sp__law_draw (dCons (dVar 0) (dCons (dBin oIx (dLst false (dCons (dC (.int 1)) (dCons (dC (.int 10)) (dCons (dC (.int 160)) dNil)))) (dBin oSub (dVar 1) (dC (.int 1)))) dNil))) dNil))))) dNil))))) dNext) (dDrop (dBM oAppend (dVar 3) (dCons (dTup (dCons (dCB oMin2 (dCons (dC (.int 10000)) (dCons (dVar 2) dNil))) (dCons (dBin (oAdd false) (dC (.int 1)) (dCallH sp__law_draw (dCons (dVar 0) (dCons (dCallH sp__law_some (dCons (dVar 0) (dCons (dLst false (dCons (dC (.int 3)) (dCons (dC (.int 60)) (dCons (dC (.int 500)) dNil)))) dNil))) dNil)))) dNil))) dNil))))) (dRet (dCB oTuple (dCons (dVar 3) dNil)))))
abbrev N__law_is_right : List Str := ["hand", "comers", "sums", "clerks", "rows", "waits", "told", "begins", "few", "soon", "greatest", "most", "good", "short", "least", "same", "now", "at", "row", "comer", "more", "late", "wait", "begin", "hour", "length"]
def t__law_is_right : DTS := (dSeq (dSet 2 (dLst true dNil)) (dSeq (dFor (dISeq (dTup (dCons (dC (.int 1)) (dCons (dC (.int 2)) (dCons (dC (.int 6)) (dCons (dBin (oAdd false) (dC (.int 1)) (dCallH sp__law_draw (dCons (dVar 0) (dCons (dC (.int 6)) dNil)))) dNil)))))) (dName 3) (dSeq (dSet 4 (dCallP sp__law_served (dCons (dVar 1) (dCons (dVar 3) dNil)))) (dSeq (dSet 5 (dCB oTuple (dCons (dLc false (dIZip (dCons (dVar 4) (dCons (dVar 1) dNil))) (dGTup 2 (dGCons (dName 18) (dGCons (dName 19) dGNil))) dYes (dBin oSub (dBin oIx (dVar 18) (dC (.int 1))) (dBin oIx (dVar 19) (dC (.int 0)))) [18, 19]) dNil))) (dSeq (dSet 6 (dLst false (dCons (dCallP sp_served (dCons (dVar 1) (dCons (dVar 3) dNil))) (dCons (dCallP sp_waits_of (dCons (dVar 1) (dCons (dVar 3) dNil))) (dCons (dCallP sp_line_area (dCons (dVar 1) (dCons (dVar 3) dNil))) (dCons (dCallP sp_longest_line (dCons (dVar 1) (dCons (dVar 3) dNil))) dNil)))))) (dSeq (dIf (dNot (dTest (dCallP sp__law_is (dCons (dVar 6) (dCons (dLst false (dCons (dVar 4) (dCons (dVar 5) (dCons (dCB oSumS (dCons (dVar 5) dNil)) (dCons (dCallP sp__law_line (dCons (dVar 1) (dCons (dVar 4) dNil))) dNil))))) dNil))))) (dRet (dC (.bool false))) dNext) (dSeq (dSet 7 (dCB oTuple (dCons (dLc false (dISeq (dVar 4)) (dName 18) dYes (dBin oIx (dVar 18) (dC (.int 1))) [18]) dNil))) (dSeq (dIf (dAnd (dTest (dBin (oEq false) (dVar 3) (dC (.int 1)))) (dNot (dTest (dCallP sp__law_is (dCons (dCallP sp_sum_of_waits (dCons (dVar 1) (dCons (dVar 7) dNil))) (dCons (dCB oSumS (dCons (dVar 5) dNil)) dNil)))))) (dRet (dC (.bool false))) dNext) (dDrop (dBM oAppend (dVar 2) (dCons (dTup (dCons (dVar 3) (dCons (dCB oSumS (dCons (dVar 5) dNil)) dNil))) dNil)))))))))) (dSeq (dFor (dISeq (dVar 2)) (dGTup 2 (dGCons (dName 8) (dGCons (dName 9) dGNil))) (dIf (dTest (dCB oAny (dCons (dLc false (dISeq (dVar 2)) (dGTup 2 (dGCons (dName 20) (dGCons (dName 21) dGNil))) dYes (dAndV (dBin oGt (dVar 20) (dVar 8)) (dBin oGt (dVar 21) (dVar 9))) [20, 21]) dNil))) (dRet (dC (.bool false))) dNext)) (dSeq (dSet 10 (dLc false (dIRng2 (dCons (dC (.int 1)) (dCons (dC (.int 7)) dNil))) (dName 3) dYes (dCB oMaxL (dCons (dBin (oAdd false) (dLst false (dCons (dC (.int 0)) dNil)) (dLc false (dIZip (dCons (dCallP sp__law_served (dCons (dVar 1) (dCons (dVar 3) dNil))) (dCons (dVar 1) dNil))) (dGTup 2 (dGCons (dName 18) (dGCons (dName 19) dGNil))) dYes (dBin oSub (dBin oIx (dVar 18) (dC (.int 1))) (dBin oIx (dVar 19) (dC (.int 0)))) [18, 19])) dNil)) [3])) (dSeq (dFor (dISeq (dTup (dCons (dC (.int 0)) (dCons (dC (.int 10000)) (dCons (dCallH sp__law_some (dCons (dVar 0) (dCons (dVar 10) dNil))) (dCons (dCB oMax2 (dCons (dC (.int 0)) (dCons (dBin oSub (dCallH sp__law_some (dCons (dVar 0) (dCons (dVar 10) dNil))) (dC (.int 1))) dNil))) dNil)))))) (dName 11) (dSeq (dSet 12 (dLc false (dIEnum (dCons (dVar 10) dNil)) (dGTup 2 (dGCons (dName 17) (dGCons (dName 22) dGNil))) (dTest (dBin oLe (dVar 22) (dVar 11))) (dBin (oAdd false) (dVar 17) (dC (.int 1))) [17, 22])) (dIf (dAnd (dTest (dBin oLe (dVar 11) (dC (.int 10000)))) (dNot (dTest (dCallP sp__law_is (dCons (dCallP sp_fewest_clerks (dCons (dVar 1) (dCons (dVar 11) dNil))) (dCons (dIfE (dTest (dBin oGt (dCB oLen (dCons (dVar 12) dNil)) (dC (.int 0)))) (dBin oIx (dVar 12) (dC (.int 0))) (dC .none)) dNil)))))) (dRet (dC (.bool false))) dNext))) (dSeq (dSet 13 (dCallP sp__law_short (dCons (dVar 1) dNil))) (dSeq (dSet 14 (dCB oSumS (dCons (dLc false (dIZip (dCons (dVar 13) (dCons (dVar 1) dNil))) (dGTup 2 (dGCons (dName 23) (dGCons (dName 19) dGNil))) dYes (dBin oSub (dVar 23) (dBin oIx (dVar 19) (dC (.int 0)))) [23, 19]) dNil))) (dSeq (dIf (dNot (dTest (dCallP sp__law_is (dCons (dLst false (dCons (dCallP sp_shortest_first (dCons (dVar 1) dNil)) (dCons (dCallP sp_sum_of_waits (dCons (dVar 1) (dCons (dVar 13) dNil))) dNil))) (dCons (dLst false (dCons (dVar 13) (dCons (dVar 14) dNil))) dNil))))) (dRet (dC (.bool false))) dNext) (dSeq (dSet 15 (dCB oTuple (dCons (dLc false (dISeq (dVar 1)) (dGTup 2 (dGCons (dName 24) (dGCons (dName 25) dGNil))) dYes (dTup (dCons (dC (.int 7)) (dCons (dVar 25) dNil))) [24, 25]) dNil))) (dSeq (dSet 7 (dBin (oMul true) (dLst false (dCons (dC (.int 0)) dNil)) (dCB oLen (dCons (dVar 15) dNil)))) (dSeq (dSet 16 (dC (.int 7))) (dSeq (dFor (dISeq (dCallH sp__law_mixed (dCons (dVar 0) (dCons (dLRg1 false (dCB oLen (dCons (dVar 15) dNil))) dNil)))) (dName 17) (dSeq (dAsg (dVar 16) (dGSub (dVar 7) (dVar 17))) (dSet 16 (dBin (oAdd false) (dVar 16) (dBin oIx (dBin oIx (dVar 15) (dVar 17)) (dC (.int 1))))))) (dRet (dBin oGe (dCallP sp_sum_of_waits (dCons (dVar 15) (dCons (dCB oTuple (dCons (dVar 7) dNil)) dNil))) (dCallP sp_sum_of_waits (dCons (dVar 15) (dCons (dCallP sp_shortest_first (dCons (dVar 15) dNil)) dNil)))))))))))))))))
abbrev N_law : List Str := ["script", "hand", "comers", "told", "turn"]
def t_law : DTS := (dSeq (dSet 1 (dCallN 63 (dCons (dVar 0) dNil))) (dSeq (dSet 2 (dTup (dCons (dTup (dCons (dC (.int 0)) (dCons (dC (.int 5)) dNil))) (dCons (dTup (dCons (dC (.int 0)) (dCons (dC (.int 2)) dNil))) (dCons (dTup (dCons (dC (.int 1)) (dCons (dC (.int 1)) dNil))) dNil))))) (dSeq (dSet 3 (dLst false (dCons (dCallP sp_served (dCons (dVar 2) (dCons (dC (.int 2)) dNil))) (dCons (dCallP sp_longest_line (dCons (dVar 2) (dCons (dC (.int 1)) dNil))) (dCons (dCallP sp_shortest_first (dCons (dVar 2) dNil)) (dCons (dCallP sp_line_area (dCons (dVar 2) (dCons (dC (.int 1)) dNil))) dNil)))))) (dSeq (dIf (dNot (dTest (dCallP sp__law_is (dCons (dVar 3) (dCons (dLst false (dCons (dTup (dCons (dTup (dCons (dC (.int 0)) (dCons (dC (.int 0)) (dCons (dC (.int 5)) dNil)))) (dCons (dTup (dCons (dC (.int 1)) (dCons (dC (.int 0)) (dCons (dC (.int 2)) dNil)))) (dCons (dTup (dCons (dC (.int 1)) (dCons (dC (.int 2)) (dCons (dC (.int 3)) dNil)))) dNil)))) (dCons (dC (.int 2)) (dCons (dTup (dCons (dC (.int 3)) (dCons (dC (.int 0)) (dCons (dC (.int 2)) dNil)))) (dCons (dC (.int 11)) dNil))))) dNil))))) (dRet (dC (.bool false))) dNext) (dRet (dCB oAll (dCons (dLc false (dIRng1 (dCons (dC (.int 4)) dNil)) (dName 4) dYes (dCallH sp__law_is_right (dCons (dVar 1) (dCons (dCallH sp__law_comers (dCons (dVar 1) dNil)) dNil))) [4]) dNil)))))))
end Q09

namespace Q09
open PySem L2 PyProof.Rows DL
open PySem.W (minD maxD)
theorem v_is_integer : ∀ ds Φ, sp_is_integer ds Φ → t_is_integer { nx := fun _ _ => Φ .none, rt := retD Φ } (env0 N_is_integer (ds.map .d)) [] := by
  rintro _ Φ ⟨x, rfl, h, hΦ⟩
  cases x <;> simp_all [t_is_integer, isiB, isInt, isDict]
theorem v_is_within : ∀ ds Φ, sp_is_within ds Φ → t_is_within { nx := fun _ _ => Φ .none, rt := retD Φ } (env0 N_is_within (ds.map .d)) [] := by
  rintro _ Φ ⟨a, b, c, rfl, h⟩
  simp [t_is_within, sp_is_integer, isInt, isDict]
  by_cases h1 : b ≤ a
  · simp_all
  · rw [if_neg h1]
    simp [h1] at h
    exact h
theorem v_is_tuple_of : ∀ ds Φ, sp_is_tuple_of ds Φ → t_is_tuple_of { nx := fun _ _ => Φ .none, rt := retD Φ } (env0 N_is_tuple_of (ds.map .d)) [] := by
  rintro _ Φ ⟨es, k, rfl, h⟩
  simp_all [t_is_tuple_of, isiB, isDict]
theorem v_is_comer : ∀ ds Φ, sp_is_comer ds Φ → t_is_comer { nx := fun _ _ => Φ .none, rt := retD Φ } (env0 N_is_comer (ds.map .d)) [] := by
  rintro _ Φ ⟨p, rfl, ⟨h1, h2, h3, h4⟩, h⟩
  simp_all [t_is_comer, encP, sp_is_tuple_of, sp_is_within, and_assoc]
  intro
  omega
theorem line60 {n : Nat} (h : n ≤ 100000) : n < sizeLine := by rw [sizeLine_eq]; omega
theorem v_check_comers : ∀ ds Φ, sp_check_comers ds Φ → t_check_comers { nx := fun _ _ => Φ .none, rt := retD Φ } (env0 N_check_comers (ds.map .d)) [] := by
  rintro _ Φ ⟨cs, rfl, ⟨h1, h2, h3⟩, h⟩
  simp [t_check_comers, encC, isiB, isDict, show ¬ (60 < (cs.length : Int)) by omega]
  refine lc_map (J := itSeq (.d (encC cs)) (cs.map encP)) cs encP (fun _ => .bool true) (fun R h => by simpa [encC] using h) (by simp [itSeq]) (fun i x h => it_seq h) (line60 (by omega)) (by simp [itSeq, seqOk, encC]) (fun p hp Z hz => ?_) ?_
  · simp
    exact ⟨p, rfl, h2 p hp, hz⟩
  · simp [oAll]
    refine ⟨cs.map fun _ => true, by simp [Function.comp_def], ?_⟩
    simp
    refine lc_map (J := itZip (.d (encC cs)) (.d (.tuple (cs.tail.map encP))) (cs.map encP) (cs.tail.map encP)) (cs.zip cs.tail) (fun p => .tuple [encP p.1, encP p.2]) (fun _ => .bool true) (fun R h => by simp; rw [tail_map]; exact h) (by simp [itZip]) (fun i x h => it_zip h) (line60 (by simp; omega)) ⟨rfl, rfl⟩ (fun p hp Z hz => ?_) ?_
    · have : p.1.1 ≤ p.2.1 := pairs_le h3 p hp
      simp [encP, this]
      exact hz
    · simp
      refine ⟨(cs.zip cs.tail).map fun _ => true, by simp [Function.comp_def], ?_⟩
      simpa using h
theorem v_check_served : ∀ ds Φ, sp_check_served ds Φ → t_check_served { nx := fun _ _ => Φ .none, rt := retD Φ } (env0 N_check_served (ds.map .d)) [] := by
  rintro _ Φ ⟨cs, k, rfl, hc, hk, h⟩
  simp [t_check_served]
  refine ⟨cs, rfl, hc, ?_⟩
  refine ⟨k, 1, 6, rfl, ?_⟩
  simp [hk.1, hk.2, h]
end Q09

namespace Q09
open PySem L2 PyProof.Rows DL
open PySem.W (minD maxD)
theorem serve_len (cs : List (Int × Int)) (k : Int) : (serve cs k).1.length = k.toNat ∧ (serve cs k).2.length = cs.length := by
  have : ∀ (cs : List (Int × Int)) (s : List Int × List (Int × Int × Int)), (cs.foldl turn s).1.length = s.1.length ∧ (cs.foldl turn s).2.length = s.2.length + cs.length := by
    intro cs
    induction cs with
    | nil => intro s; simp
    | cons c cs ih =>
      intro s
      rw [List.foldl_cons]
      obtain ⟨h1, h2⟩ := ih (turn s c)
      refine ⟨by rw [h1]; simp [turn], ?_⟩
      rw [h2]
      simp [turn]
      omega
  have := this cs (List.replicate k.toNat 0, [])
  unfold serve
  rw [this.1, this.2]
  simp
theorem rows_len (cs : List (Int × Int)) (k : Int) : (rows cs k).length = cs.length := (serve_len cs k).2
def envS (cs : List (Int × Int)) (k : Int) (m : Nat) (s : List Int × List (Int × Int × Int)) : DL.Env := [some (.d (encC cs)), some (.d (.int k)), some (.c 0), some (.c 1)] ++ List.replicate m none
def celS (s : List Int × List (Int × Int × Int)) : Cells := [.lst (s.1.map .int), .lst (s.2.map enc3)]
theorem v_raw_served : ∀ ds Φ, sp_raw_served ds Φ → t_raw_served { nx := fun _ _ => Φ .none, rt := retD Φ } (env0 N_raw_served (ds.map .d)) [] := by
  rintro _ Φ ⟨cs, k, rfl, ⟨h1, h2, h3⟩, ⟨k1, k2⟩, h⟩
  simp [t_raw_served]
  refine ⟨by omega, by omega, by rw [sizeLine_eq]; omega, ?_⟩
  refine for_typed (J := itSeq (.d (encC cs)) (cs.map encP)) cs encP (envS cs k 6) celS (fun i s => s = (cs.take i).foldl turn (List.replicate k.toNat 0, [])) (fun R h => h) (by simp [itSeq]) (fun i x h => it_seq h) ?_ (fun _ _ _ => rfl) ?_ ?_
  · exact weak_mk (ρ' := envS cs k 6 (List.replicate k.toNat 0, [])) (by simp [envS]) rfl (Nat.le_refl _) ⟨_, rfl, rfl, by simp [celS]⟩
  · rintro i c s hc rfl Nx hN
    have hs : ((cs.take i).foldl turn (List.replicate k.toNat 0, [])).1.length = k.toNat := (serve_len (cs.take i) k).1
    have hl : ((cs.take i).foldl turn (List.replicate k.toNat 0, [])).2.length = (cs.take i).length := (serve_len (cs.take i) k).2
    have nxt := fold_next (f := turn) (s := (List.replicate k.toNat 0, [])) hc
    generalize hS : (cs.take i).foldl turn (List.replicate k.toNat 0, []) = s at *
    obtain ⟨j, v, p1, p2, p3, _⟩ := pick_ok (l := s.1) (by intro e; rw [e] at hs; simp at hs; omega)
    have hj : j < s.1.length := (List.getElem?_eq_some_iff.mp p2).1
    simp [envS, celS, encP]
    refine lc_map (J := itEnum (.c 0) (s.1.map .int)) s.1.zipIdx (fun p => .tuple [.int (p.2 : Nat), .int p.1]) (fun p => encP (p.1, (p.2 : Int))) (fun R h => h) (by simp [itEnum]) (fun i x h => it_enum h) (line60 (by simp; omega)) rfl (fun p hp Z hz => ?_) ?_
    · simp
      exact hz
    · have e1 : (s.1.zipIdx.map fun p => encP (p.1, (p.2 : Int))) = (tagged s.1).map encP := by unfold tagged; rw [List.map_map]; rfl
      rw [e1]
      simp
      refine best_P p3 ?_
      have a1 : atI (s.1.map PyData.int) (j : Int) = some (.int v) := atI_nat (by rw [List.getElem?_map, p2]; rfl)
      have ix : ixN s.1.length (j : Int) = some j := by
        unfold ixN
        rw [if_pos (by omega), if_pos (by omega), Int.toNat_natCast]
      have gd : s.1.getD (pick s.1).toNat 0 = v := by
        rw [p1, Int.toNat_natCast, List.getD_eq_getElem?_getD, p2]
        rfl
      simp [encP, a1, ix]
      refine ⟨by rw [hl, sizeLine_eq, List.length_take]; omega, ?_⟩
      refine hN (turn s c) _ _ nxt.symm (by simp [envS]) rfl ?_ (by simp)
      simp only [turn, celS]
      rw [gd, p1]
      simp [List.map_set, enc3]
  · rintro s rfl
    simp [envS, celS]
    exact h
end Q09

namespace Q09
open PySem L2 PyProof.Rows DL
open PySem.W (minD maxD)
theorem v_served : ∀ ds Φ, sp_served ds Φ → t_served { nx := fun _ _ => Φ .none, rt := retD Φ } (env0 N_served (ds.map .d)) [] := by
  rintro _ Φ ⟨cs, k, rfl, hc, hk, h⟩
  simp [t_served]
  refine ⟨cs, k, rfl, hc, hk, ?_⟩
  simp
  refine ⟨cs, k, rfl, hc, hk, ?_⟩
  simpa using h
theorem v_raw_waits : ∀ ds Φ, sp_raw_waits ds Φ → t_raw_waits { nx := fun _ _ => Φ .none, rt := retD Φ } (env0 N_raw_waits (ds.map .d)) [] := by
  rintro _ Φ ⟨cs, k, rfl, hc, hk, h⟩
  simp [t_raw_waits]
  refine lc_map (J := itZip (.d (encC cs)) (.d (.list ((rows cs k).map enc3))) (cs.map encP) ((rows cs k).map enc3)) (cs.zip (rows cs k)) (fun p => .tuple [encP p.1, enc3 p.2]) (fun p => .int (p.2.2.1 - p.1.1)) (fun R h => ?_) (by simp [itZip]) (fun i x h => it_zip h) (line60 (by have := hc.1; simp; omega)) ⟨rfl, rfl⟩ (fun p hp Z hz => ?_) ?_
  · simp
    exact ⟨cs, k, rfl, hc, hk, h⟩
  · simp [encP, enc3]
    exact hz
  · simp
    have : ((cs.zip (rows cs k)).map fun p => PyData.int (p.2.2.1 - p.1.1)) = (waits cs k).map .int := by
      unfold waits
      rw [List.map_map]
      rfl
    rw [this]
    exact h
theorem v_waits_of : ∀ ds Φ, sp_waits_of ds Φ → t_waits_of { nx := fun _ _ => Φ .none, rt := retD Φ } (env0 N_waits_of (ds.map .d)) [] := by
  rintro _ Φ ⟨cs, k, rfl, hc, hk, h⟩
  simp [t_waits_of]
  refine ⟨cs, k, rfl, hc, hk, ?_⟩
  simp
  refine ⟨cs, k, rfl, hc, hk, ?_⟩
  simpa using h
theorem flat_filter {α β : Type} (xs : List α) (p : α → Bool) (f : α → β) : (xs.flatMap fun x => if p x = true then [f x] else []) = (xs.filter p).map f := by
  induction xs with
  | nil => rfl
  | cons x xs ih =>
    rw [List.flatMap_cons, ih, List.filter_cons]
    split <;> simp
theorem v_waiting_at : ∀ ds Φ, sp_waiting_at ds Φ → t_waiting_at { nx := fun _ _ => Φ .none, rt := retD Φ } (env0 N_waiting_at (ds.map .d)) [] := by
  rintro _ Φ ⟨cs, rs, hr, rfl, hl, h⟩
  simp [t_waiting_at]
  refine lc_out (J := itZip (.d (encC cs)) (.d (.list (rs.map enc3))) (cs.map encP) (rs.map enc3)) (cs.zip rs) (fun p => .tuple [encP p.1, enc3 p.2]) (fun p => if (decide (p.1.1 ≤ hr) && decide (hr < p.2.2.1)) = true then [.int 1] else []) (fun R h => h) (by simp [itZip]) (fun i x h => it_zip h) (line60 (by simp; omega)) ⟨rfl, rfl⟩ (fun p hp Z hz => ?_) ?_
  · simp [encP, enc3]
    by_cases a : p.1.1 ≤ hr
    · by_cases b : hr < p.2.2.1
      · simp [a, b] at hz ⊢
        exact hz
      · simp [a, b] at hz ⊢
        exact hz
    · simp [a] at hz ⊢
      exact hz
  · rw [flat_filter]
    simp
    exact h
theorem v_longest_line : ∀ ds Φ, sp_longest_line ds Φ → t_longest_line { nx := fun _ _ => Φ .none, rt := retD Φ } (env0 N_longest_line (ds.map .d)) [] := by
  rintro _ Φ ⟨cs, k, rfl, hc, hk, h⟩
  simp [t_longest_line]
  refine ⟨cs, k, rfl, hc, hk, ?_⟩
  simp
  refine ⟨cs, k, rfl, hc, hk, ?_⟩
  simp
  refine lc_map (J := itSeq (.d (encC cs)) (cs.map encP)) cs encP (fun c => .int (waitingAt cs (rows cs k) c.1)) (fun R h => h) (by simp [itSeq]) (fun i x h => it_seq h) (line60 (by have := hc.1; omega)) rfl (fun p hp Z hz => ?_) ?_
  · simp [encP]
    refine ⟨cs, rows cs k, p.1, rfl, hc.1, ?_⟩
    simpa using hz
  · simp
    refine ⟨by rw [sizeLine_eq]; have := hc.1; omega, ?_⟩
    simp [oMaxL]
    exact ⟨0 :: cs.map (fun c : Int × Int => waitingAt cs (rows cs k) c.1), by simp, by simp, h⟩
theorem find_range {p : Int → Bool} : ([1, 2, 3, 4, 5, 6] : List Int).find? p = ((List.range 6).map fun i : Nat => (1 : Int) + (i : Int)).find? p := rfl
theorem v_fewest_clerks : ∀ ds Φ, sp_fewest_clerks ds Φ → t_fewest_clerks { nx := fun _ _ => Φ .none, rt := retD Φ } (env0 N_fewest_clerks (ds.map .d)) [] := by
  rintro _ Φ ⟨cs, most, rfl, hc, hm, h⟩
  simp [t_fewest_clerks]
  refine ⟨cs, rfl, hc, ?_⟩
  refine ⟨most, 0, 10000, rfl, ?_⟩
  simp [hm.1, hm.2]
  refine for_inv (J := itRng 1 6) (S := Unit) (fun _ => [some (.d (encC cs)), some (.d (.int most)), none]) (fun _ => []) (fun i _ => i ≤ 6 ∧ fewest cs most = (((List.range 6).map fun i : Nat => (1 : Int) + (i : Int)).drop i).find? fun k => decide (maxL (0 :: waits cs k) ≤ most)) (fun R h => by simp; exact h) ?_ (fun _ _ _ => trivial) ?_ ?_
  · exact weak_mk (ρ' := [some (.d (encC cs)), some (.d (.int most)), none]) (by simp) rfl (Nat.le_refl _) ⟨(), ⟨by omega, rfl⟩, rfl, rfl⟩
  · intro i _ hi hI
    have hi : i < 6 := hi
    have e : ((List.range 6).map fun i : Nat => (1 : Int) + (i : Int)).drop i = (1 + (i : Int)) :: ((List.range 6).map fun i : Nat => (1 : Int) + (i : Int)).drop (i + 1) := by
      rw [List.drop_eq_getElem_cons (by simp; omega)]
      simp
    obtain ⟨_, hI⟩ := hI
    rw [e, List.find?_cons] at hI
    simp [itRng]
    refine ⟨cs, 1 + (i : Int), rfl, hc, ⟨by omega, by omega⟩, ?_⟩
    simp
    refine ⟨by rw [sizeLine_eq]; have := hc.1; have := rows_len cs (1 + (i : Int)); simp [waits]; omega, ?_⟩
    simp [oMaxL]
    refine ⟨0 :: waits cs (1 + (i : Int)), by simp, by simp, ?_⟩
    by_cases c : maxL (0 :: waits cs (1 + (i : Int))) ≤ most
    · rw [if_pos c]
      simp [c] at hI
      rw [hI] at h
      exact h
    · rw [if_neg c]
      simp [c] at hI
      exact weak_mk (ρ' := [some (.d (encC cs)), some (.d (.int most)), none]) (by simp) rfl (Nat.le_refl _) ⟨⟨by omega, by simpa using hI⟩, rfl, rfl⟩
  · rintro _ ⟨_, hI⟩
    have : fewest cs most = none := by
      rw [hI]
      rfl
    rw [this] at h
    simp
    exact h
theorem v_line_area : ∀ ds Φ, sp_line_area ds Φ → t_line_area { nx := fun _ _ => Φ .none, rt := retD Φ } (env0 N_line_area (ds.map .d)) [] := by
  rintro _ Φ ⟨cs, k, rfl, hc, hk, h⟩
  have hl := rows_len cs k
  have h60 := hc.1
  simp [t_line_area]
  refine ⟨cs, k, rfl, hc, hk, ?_⟩
  simp
  refine ⟨cs, k, rfl, hc, hk, ?_⟩
  simp
  refine lc_map (J := itSeq (.d (encC cs)) (cs.map encP)) cs encP (fun c => .int c.1) (fun R h => h) (by simp [itSeq]) (fun i x h => it_seq h) (line60 (by omega)) rfl (fun p hp Z hz => ?_) ?_
  · simp [encP]
    exact hz
  simp
  refine lc_map (J := itSeq (.d (.list ((rows cs k).map enc3))) ((rows cs k).map enc3)) (rows cs k) enc3 (fun c => .int c.2.1) (fun R h => h) (by simp [itSeq]) (fun i x h => it_seq h) (line60 (by omega)) rfl (fun p hp Z hz => ?_) ?_
  · simp [enc3]
    exact hz
  simp
  refine ⟨by rw [sizeLine_eq]; omega, ?_⟩
  simp [oSortI]
  refine ⟨cs.map (·.1) ++ (rows cs k).map (·.2.1), by simp [Function.comp_def], ?_⟩
  show dFor _ _ _ _ _ _
  refine for_typed (J := itZip (.d (.list ((hours cs (rows cs k)).map .int))) (.d (.list ((hours cs (rows cs k)).tail.map .int))) ((hours cs (rows cs k)).map .int) ((hours cs (rows cs k)).tail.map .int)) ((hours cs (rows cs k)).zip (hours cs (rows cs k)).tail) (fun p => .tuple [.int p.1, .int p.2])
    (fun a : Int => [some (.d (encC cs)), some (.d (.int k)), some (.d (.list ((rows cs k).map enc3))), some (.d (.list ((hours cs (rows cs k)).map .int))), some (.d (.int a)), none, none, none, none]) (fun _ => [])
    (fun i a => a = ((((hours cs (rows cs k)).zip (hours cs (rows cs k)).tail).take i).map fun p => (p.2 - p.1) * waitingAt cs (rows cs k) p.1).sum) (fun R h => ?_) (by simp [itZip]) (fun i x h => it_zip h) ?_ (fun _ _ _ => ⟨rfl, rfl⟩) ?_ ?_
  · simp
    rw [tail_map]
    exact h
  · exact weak_mk (ρ' := [some (.d (encC cs)), some (.d (.int k)), some (.d (.list ((rows cs k).map enc3))), some (.d (.list ((hours cs (rows cs k)).map .int))), some (.d (.int 0)), none, none, none, none]) (by simp [hours]) rfl (Nat.le_refl _) ⟨0, rfl, rfl, rfl⟩
  · rintro i p a hp rfl Nx hN
    simp
    refine ⟨cs, rows cs k, p.1, rfl, h60, ?_⟩
    simp
    refine ⟨.inr ?_, ?_⟩
    · have := List.length_filter_le (fun q : (Int × Int) × Int × Int × Int => decide (q.1.1 ≤ p.1) && decide (p.1 < q.2.2.1)) (cs.zip (rows cs k))
      rw [List.length_zip] at this
      unfold waitingAt
      omega
    · refine hN _ _ _ rfl (by simp [List.take_add_one, hp]) rfl rfl (by simp)
  · rintro a rfl
    rw [List.take_length]
    simp
    exact h
end Q09

/-! the run of shortest first, in plain Lean -/
namespace Q09
open PySem L2 PyProof.Rows DL
def hoursOf (cs : List (Int × Int)) (left : List Int) : List Int := left.map fun i => (cAt cs i).1
theorem mem_rg {n : Nat} {i : Int} : i ∈ rgI 0 n ↔ 0 ≤ i ∧ i < n := by
  unfold rgI
  rw [List.mem_map]
  constructor
  · rintro ⟨j, hj, rfl⟩
    have := List.mem_range.mp hj
    omega
  · rintro ⟨h1, h2⟩
    exact ⟨i.toNat, List.mem_range.mpr (by omega), by omega⟩
theorem rg_sorted (n : Nat) : (rgI 0 n).Pairwise (· < ·) := by
  unfold rgI
  rw [List.pairwise_map]
  exact List.pairwise_lt_range.imp fun h => by omega
theorem rg_len (n : Nat) : (rgI 0 n).length = n := by
  unfold rgI
  simp
theorem next_none {cs : List (Int × Int)} {left : List Int} {h : Int} (ne : left ≠ []) : nextS cs left h = none ↔ h < minL (hoursOf cs left) := by
  have ne2 : hoursOf cs left ≠ [] := by
    unfold hoursOf
    simpa using ne
  constructor
  · intro e
    by_cases c : h < minL (hoursOf cs left)
    · exact c
    · obtain ⟨i, hi, e2⟩ := List.mem_map.mp (show minL (hoursOf cs left) ∈ left.map fun i => (cAt cs i).1 from minL_mem ne2)
      have : ((cAt cs i).2, i) ∈ there cs left h := by
        unfold there
        refine List.mem_map.mpr ⟨i, List.mem_filter.mpr ⟨hi, ?_⟩, rfl⟩
        rw [decide_eq_true_eq]
        omega
      obtain ⟨p, hp⟩ := least2_some (List.ne_nil_of_mem this)
      unfold nextS at e
      rw [hp] at e
      cases e
  · intro c
    have : there cs left h = [] := by
      unfold there
      rw [List.map_eq_nil_iff, List.filter_eq_nil_iff]
      intro i hi
      have := minL_le (show (cAt cs i).1 ∈ hoursOf cs left from List.mem_map_of_mem (f := fun i => (cAt cs i).1) hi)
      rw [decide_eq_true_eq]
      omega
    unfold nextS
    rw [this]
    rfl
theorem next_mem {cs : List (Int × Int)} {left : List Int} {h i : Int} (e : nextS cs left h = some i) : i ∈ left := by
  unfold nextS at e
  cases q : least2 (there cs left h) with
  | none =>
    rw [q] at e
    cases e
  | some p =>
    rw [q] at e
    cases e
    have := least2_mem q
    unfold there at this
    obtain ⟨j, hj, rfl⟩ := List.mem_map.mp this
    exact (List.mem_filter.mp hj).1
theorem cAt_mem {cs : List (Int × Int)} {i : Int} (h : 0 ≤ i ∧ i < cs.length) : cAt cs i ∈ cs := by
  unfold cAt
  have hl : i.toNat < cs.length := by omega
  rw [List.getD_eq_getElem?_getD, List.getElem?_eq_getElem hl]
  exact List.getElem_mem hl
theorem cAt_le {cs : List (Int × Int)} (hs : cs.Pairwise (fun a b => a.1 ≤ b.1)) {i j : Int} (hi : 0 ≤ i) (hij : i < j) (hj : j < cs.length) : (cAt cs i).1 ≤ (cAt cs j).1 := by
  have h1 : i.toNat < cs.length := by omega
  have h2 : j.toNat < cs.length := by omega
  unfold cAt
  rw [List.getD_eq_getElem?_getD, List.getD_eq_getElem?_getD, List.getElem?_eq_getElem h1, List.getElem?_eq_getElem h2]
  exact List.pairwise_iff_getElem.mp hs _ _ h1 h2 (by omega)
theorem first_min {cs : List (Int × Int)} (hs : cs.Pairwise (fun a b => a.1 ≤ b.1)) {a : Int} {r : List Int} (hi : inC cs (a :: r)) (so : (a :: r).Pairwise (· < ·)) : (cAt cs a).1 = minL (hoursOf cs (a :: r)) := by
  have h1 := minL_le (show (cAt cs a).1 ∈ hoursOf cs (a :: r) from List.mem_cons_self)
  obtain ⟨i, hi2, e2⟩ := List.mem_map.mp (show minL (hoursOf cs (a :: r)) ∈ (a :: r).map fun i => (cAt cs i).1 from minL_mem (by simp [hoursOf]))
  have : (cAt cs a).1 ≤ (cAt cs i).1 := by
    rcases List.mem_cons.mp hi2 with rfl | h
    · omega
    · exact cAt_le hs (hi a List.mem_cons_self).1 ((List.pairwise_cons.mp so).1 i h) (hi i hi2).2
  omega
/-- what stands after m turns -/
structure SInv (cs : List (Int × Int)) (m : Nat) (s : List Int × Int × List Int) : Prop where
  len : s.1.length + m = cs.length
  inn : inC cs s.1
  so : s.1.Pairwise (· < ·)
  bl : s.2.2.length = cs.length
theorem sstep_eq {cs : List (Int × Int)} {s : List Int × Int × List Int} (ne : s.1 ≠ []) : ∃ i, nextS cs s.1 (max s.2.1 (minL (hoursOf cs s.1))) = some i ∧ i ∈ s.1 ∧ sstep cs s = (s.1.erase i, max s.2.1 (minL (hoursOf cs s.1)) + (cAt cs i).2, s.2.2.set i.toNat (max s.2.1 (minL (hoursOf cs s.1)))) := by
  cases e : nextS cs s.1 (max s.2.1 (minL (hoursOf cs s.1))) with
  | none =>
    have := (next_none ne).mp e
    omega
  | some i =>
    refine ⟨i, rfl, next_mem e, ?_⟩
    unfold sstep
    show (match nextS cs s.1 (max s.2.1 (minL (hoursOf cs s.1))) with
      | some i => (s.1.erase i, max s.2.1 (minL (hoursOf cs s.1)) + (cAt cs i).2, s.2.2.set i.toNat (max s.2.1 (minL (hoursOf cs s.1))))
      | none => s) = _
    rw [e]
theorem sinv_step {cs : List (Int × Int)} {m : Nat} {s : List Int × Int × List Int} (h : SInv cs m s) (ne : s.1 ≠ []) : SInv cs (m + 1) (sstep cs s) := by
  obtain ⟨i, _, hi, e⟩ := sstep_eq (cs := cs) ne
  rw [e]
  refine ⟨?_, fun j hj => h.inn j (List.mem_of_mem_erase hj), h.so.sublist List.erase_sublist, ?_⟩
  · have := List.length_erase_of_mem hi
    have := List.length_pos_of_mem hi
    have := h.len
    show (s.1.erase i).length + (m + 1) = _
    omega
  · show (s.2.2.set _ _).length = _
    rw [List.length_set]
    exact h.bl
theorem sinv_run {cs : List (Int × Int)} : ∀ m, m ≤ cs.length → SInv cs m (srun cs m)
  | 0, _ => ⟨rg_len _, fun i hi => mem_rg.mp hi, rg_sorted _, by simp [srun]⟩
  | m + 1, h => by
    have z := sinv_run (cs := cs) m (by omega)
    refine sinv_step z fun e => ?_
    have := z.len
    rw [e] at this
    simp at this
    omega
end Q09

namespace Q09
open PySem L2 PyProof.Rows DL
open PySem.W (minD maxD)
theorem at_comer {cs : List (Int × Int)} {i : Int} (h : 0 ≤ i ∧ i < cs.length) : atI (cs.map encP) i = some (encP (cAt cs i)) := atI_map h.1 h.2
theorem optI_atom (o : Option Int) : atomD (optI o) = true := by cases o <;> rfl
theorem v_next_shortest : ∀ ds Φ, sp_next_shortest ds Φ → t_next_shortest { nx := fun _ _ => Φ .none, rt := retD Φ } (env0 N_next_shortest (ds.map .d)) [] := by
  rintro _ Φ ⟨cs, left, hr, rfl, hc, hl, hi, h⟩
  simp [t_next_shortest]
  refine lc_out (J := itSeq (.d (.list (left.map .int))) (left.map .int)) left .int (fun i => if decide ((cAt cs i).1 ≤ hr) = true then [encP ((cAt cs i).2, i)] else []) (fun R h => h) (by simp [itSeq]) (fun i x h => it_seq h) (line60 (by omega)) rfl (fun p hp Z hz => ?_) ?_
  · simp [encC, at_comer (hi p hp), encP]
    by_cases a : (cAt cs p).1 ≤ hr
    · simp [a, encP] at hz ⊢
      exact hz
    · simp [a] at hz ⊢
      exact hz
  · rw [flat_filter]
    have e : ((left.filter fun i => decide ((cAt cs i).1 ≤ hr)).map fun i => encP ((cAt cs i).2, i)) = (there cs left hr).map encP := by
      unfold there
      rw [List.map_map]
      rfl
    rw [e]
    simp
    cases q : least2 (there cs left hr) with
    | none =>
      have e2 : there cs left hr = [] := by
        cases z : there cs left hr with
        | nil => rfl
        | cons a b =>
          rw [z] at q
          cases q
      rw [e2]
      simp
      have : nextS cs left hr = none := by
        unfold nextS
        rw [q]
        rfl
      rw [this] at h
      exact h
    | some p =>
      have := List.length_pos_of_mem (least2_mem q)
      rw [if_pos this]
      refine best_P q ?_
      simp [encP]
      have : nextS cs left hr = some p.2 := by
        unfold nextS
        rw [q]
        rfl
      rw [this] at h
      exact h
def kvC (kv : List (Int × Int)) : List (Key × PyData) := kv.map fun p => (.inl p.1, .int p.2)
def envR (cs : List (Int × Int)) (h : Int) : DL.Env := [some (.d (encC cs)), some (.c 0), some (.d (.int h)), some (.c 1), none]
def celR (s : List Int × Int × List (Int × Int)) : Cells := [.lst (s.1.map .int), .dk (kvC s.2.2)]
structure RInv (cs : List (Int × Int)) (m : Nat) (s : List Int × Int × List (Int × Int)) : Prop where
  le : m ≤ cs.length
  left : s.1 = (srun cs m).1
  hour : s.2.1 = (srun cs m).2.1 ∨ (s.1 ≠ [] ∧ s.2.1 = max (srun cs m).2.1 (minL (hoursOf cs s.1)))
  val : ∀ p ∈ s.2.2, p.1 ∉ s.1 ∧ 0 ≤ p.1 ∧ (srun cs m).2.2.getD p.1.toNat 0 = p.2
  all : ∀ i : Int, 0 ≤ i → i < cs.length → i ∉ s.1 → ∃ b, (i, b) ∈ s.2.2
  klen : s.2.2.length + s.1.length = cs.length
theorem any_fresh {kv : List (Int × Int)} {i : Int} (h : ∀ p ∈ kv, p.1 ≠ i) : (kvC kv).any (fun p => decide (p.1 = .inl i)) = false := by
  rw [List.any_eq_false]
  intro q hq
  obtain ⟨p, hp, rfl⟩ := List.mem_map.mp hq
  simpa using h p hp
theorem put_fresh {kv : List (Int × Int)} {i v : Int} (h : ∀ p ∈ kv, p.1 ≠ i) : putG (kvC kv) (.inl i) (.int v) = kvC (kv ++ [(i, v)]) := by
  unfold putG
  rw [any_fresh h]
  simp [kvC]
theorem find_val : ∀ {kv : List (Int × Int)} {i v : Int}, (∀ p ∈ kv, p.1 = i → p.2 = v) → (∃ b, (i, b) ∈ kv) → getD (kv.map fun p => (PyData.int p.1, PyData.int p.2)) (.int i) = some (.int v)
  | [], i, v, _, ⟨b, hb⟩ => by cases hb
  | p :: kv, i, v, h, ⟨b, hb⟩ => by
    by_cases e : p.1 = i
    · have := h p List.mem_cons_self e
      simp [getD, List.find?_cons, keyEq, e, this]
    · have hb : (i, b) ∈ kv := by
        rcases List.mem_cons.mp hb with z | z
        · rw [← z] at e
          exact absurd rfl e
        · exact z
      have := find_val (fun q hq => h q (List.mem_cons_of_mem _ hq)) ⟨b, hb⟩
      simpa [getD, List.find?_cons, keyEq, e] using this
theorem v_raw_shortest : ∀ ds Φ, sp_raw_shortest ds Φ → t_raw_shortest { nx := fun _ _ => Φ .none, rt := retD Φ } (env0 N_raw_shortest (ds.map .d)) [] := by
  rintro _ Φ ⟨cs, rfl, ⟨h1, h2, h3⟩, h⟩
  simp [t_raw_shortest, encC]
  refine ⟨by omega, ?_⟩
  refine while_typed (fun s => envR cs s.2.1) celR (fun s => ∃ m, RInv cs m s) (fun s => 2 * s.1.length + (if s.2.1 < minL (hoursOf cs s.1) then 1 else 0)) ?_ ?_
  · refine weak_mk (ρ' := envR cs 0) (by simp [envR, encC]) rfl (Nat.le_refl _) ⟨(rgI 0 cs.length, 0, []), ⟨0, by omega, rfl, .inl rfl, fun p hp => (nomatch hp), fun i a b c => absurd (mem_rg.mpr ⟨a, b⟩) c, by simp [rg_len]⟩, rfl, by simp [celR, kvC]⟩
  · rintro ⟨left, hr, kv⟩ ⟨m, hm⟩ Nx hN
    have si := sinv_run m hm.le
    have el : left = (srun cs m).1 := hm.left
    have hl : left.length ≤ 60 := by have := si.len; rw [← el] at this; omega
    have inn : inC cs left := by rw [el]; exact si.inn
    simp [envR, celR]
    by_cases ne : left = []
    · subst ne
      simp
      have em : m = cs.length := by
        have := si.len
        rw [← el] at this
        simpa using this
      subst em
      have := h kv fun i hi => find_val (fun p hp e => by
        have := (hm.val p hp).2.2
        rw [e, Int.toNat_natCast] at this
        exact this.symm) (hm.all i (by omega) (by omega) (by simp))
      unfold kvC
      rw [List.map_map]
      exact this
    · have hp : 0 < left.length := List.length_pos_iff.mpr ne
      rw [if_pos hp]
      refine ⟨cs, left, hr, rfl, h1, hl, inn, ?_⟩
      refine ⟨optI_atom _, ?_⟩
      have nel : (srun cs m).1 ≠ [] := by rw [← el]; exact ne
      obtain ⟨i, e1, e2, e3⟩ := sstep_eq (cs := cs) nel
      have hz := hm.hour
      simp only at hz
      rw [← el] at e1 e2 e3
      cases q : nextS cs left hr with
      | none =>
        have lt := (next_none ne).mp q
        simp [optI]
        obtain ⟨a, r, rfl⟩ := List.exists_cons_of_ne_nil ne
        have fm := first_min h3 inn (by rw [el]; exact si.so)
        simp [encC, at_comer (inn a List.mem_cons_self), encP]
        refine hN (a :: r, (cAt cs a).1, kv) _ _ ⟨m, hm.le, el, .inr ⟨ne, ?_⟩, hm.val, hm.all, hm.klen⟩ ?_ (by simp [envR, encC]) rfl (by simp [celR]) (by simp)
        · show (cAt cs a).1 = _
          rw [fm]
          rcases hz with hz | ⟨_, hz⟩ <;> simp only <;> omega
        · simp only
          rw [fm, if_pos lt, if_neg (by omega)]
          omega
      | some j =>
        have ge : minL (hoursOf cs left) ≤ hr := by
          have := mt (next_none (cs := cs) (h := hr) ne).mpr (by rw [q]; simp)
          omega
        have eh : max (srun cs m).2.1 (minL (hoursOf cs left)) = hr := by
          rcases hz with hz | ⟨_, hz⟩ <;> omega
        rw [eh] at e1 e3
        rw [q] at e1
        cases e1
        have hj := inn i e2
        have fresh : ∀ p ∈ kv, p.1 ≠ i := fun p hp e => (hm.val p hp).1 (by rw [e]; exact e2)
        have kl := hm.klen
        simp only at kl
        simp [optI, DL.keyOf, encC, at_comer hj, encP]
        rw [put_fresh (v := hr) fresh]
        refine ⟨by rw [sizeLine_eq]; simp [kvC]; omega, ?_⟩
        simp [oRemove]
        refine ⟨left, rfl, e2, ?_⟩
        have s2 : srun cs (m + 1) = _ := e3
        have ll := si.len
        rw [← el] at ll
        refine hN (left.erase i, hr + (cAt cs i).2, kv ++ [(i, hr)]) _ _ ⟨m + 1, by omega, by rw [s2], .inl (by rw [s2]), ?_, ?_, ?_⟩ ?_ (by simp [envR, encC]) rfl (by simp [celR]) (by simp)
        · intro p hp
          simp only at hp ⊢
          have nd : left.Nodup := by
            rw [el]
            exact si.so.imp fun h => by omega
          rw [s2]
          rcases List.mem_append.mp hp with hp | hp
          · obtain ⟨a1, a2, a3⟩ := hm.val p hp
            refine ⟨fun z => a1 (List.mem_of_mem_erase z), a2, ?_⟩
            simp only
            have : p.1.toNat ≠ i.toNat := fun z => fresh p hp (by omega)
            rw [List.getD_eq_getElem?_getD, List.getElem?_set_ne (Ne.symm this), ← List.getD_eq_getElem?_getD]
            exact a3
          · rw [List.mem_singleton.mp hp]
            refine ⟨fun z => (List.Nodup.mem_erase_iff nd).mp z |>.1 rfl, hj.1, ?_⟩
            simp only
            rw [List.getD_eq_getElem?_getD, List.getElem?_set_self (by rw [si.bl]; omega)]
            rfl
        · intro k a b c
          simp only at c ⊢
          by_cases e : k = i
          · exact ⟨hr, by rw [e]; simp⟩
          · obtain ⟨b', hb⟩ := hm.all k a b fun z => c ((List.mem_erase_of_ne e).mpr z)
            exact ⟨b', List.mem_append_left _ hb⟩
        · simp only
          rw [List.length_append, List.length_erase_of_mem e2]
          simp
          omega
        · simp only
          rw [List.length_erase_of_mem e2]
          split <;> split <;> omega
end Q09

namespace Q09
open PySem L2 PyProof.Rows DL
open PySem.W (minD maxD)
theorem noMark (kv : List (Int × Int)) : hasMark (kv.map fun p => (PyData.int p.1, PyData.int p.2)) = false := by cases kv <;> rfl
theorem short_len {cs : List (Int × Int)} : (short cs).length = cs.length := (sinv_run cs.length (Nat.le_refl _)).bl
theorem v_shortest_first : ∀ ds Φ, sp_shortest_first ds Φ → t_shortest_first { nx := fun _ _ => Φ .none, rt := retD Φ } (env0 N_shortest_first (ds.map .d)) [] := by
  rintro _ Φ ⟨cs, rfl, hc, h⟩
  simp [t_shortest_first]
  refine ⟨cs, rfl, hc, cs, rfl, hc, fun kv hk => ?_⟩
  have h60 := hc.1
  simp
  refine lc_map (J := itRng 0 cs.length) (List.range cs.length) (fun i => .int (0 + (i : Nat))) (fun i => .int ((short cs).getD i 0)) (fun R h => by simp; exact ⟨by omega, h⟩) (by simp [itRng]) (fun i x h => it_rng h) (line60 (by simp; omega)) trivial (fun i hi Z hz => ?_) ?_
  · have hi := List.mem_range.mp hi
    have := hk i hi
    simp [encF, dicGet, DL.keyOf, noMark, this]
    simpa using hz
  · simp
    have e : ((List.range cs.length).map fun i => PyData.int ((short cs).getD i 0)) = (short cs).map .int := by
      apply List.ext_getElem?
      intro i
      rw [List.getElem?_map, List.getElem?_map]
      by_cases hi : i < cs.length
      · rw [List.getElem?_range hi, List.getElem?_eq_getElem (by rw [short_len]; exact hi)]
        simp [List.getD_eq_getElem?_getD, List.getElem?_eq_getElem (show i < (short cs).length by rw [short_len]; exact hi)]
      · rw [List.getElem?_eq_none (by simp; omega), List.getElem?_eq_none (by rw [short_len]; omega)]
        rfl
    simp at e
    rw [e]
    exact h
theorem v_are_begins : ∀ ds Φ, sp_are_begins ds Φ → t_are_begins { nx := fun _ _ => Φ .none, rt := retD Φ } (env0 N_are_begins (ds.map .d)) [] := by
  rintro _ Φ ⟨cs, bs, rfl, hc, ⟨b1, b2⟩, h⟩
  have h60 := hc.1
  simp [t_are_begins]
  refine ⟨bs.map .int, (cs.length : Int), rfl, ?_⟩
  simp [b1]
  refine lc_map (J := itSeq (.d (.tuple (bs.map .int))) (bs.map .int)) bs .int (fun _ => .bool true) (fun R h => h) (by simp [itSeq]) (fun i x h => it_seq h) (line60 (by omega)) rfl (fun p hp Z hz => ?_) ?_
  · simp
    exact ⟨_, rfl, rfl, hz⟩
  simp [oAll]
  refine ⟨bs.map fun _ => true, by simp [Function.comp_def], ?_⟩
  simp
  refine lc_map (J := itZip (.d (.tuple (bs.map .int))) (.d (encC cs)) (bs.map .int) (cs.map encP)) (bs.zip cs) (fun p => .tuple [.int p.1, encP p.2]) (fun _ => .bool true) (fun R h => h) (by simp [itZip]) (fun i x h => it_zip h) (line60 (by simp; omega)) ⟨rfl, rfl⟩ (fun p hp Z hz => ?_) ?_
  · have := b2 p hp
    simp [encP, this]
    exact hz
  · simp
    refine ⟨(bs.zip cs).map fun _ => true, by simp [Function.comp_def], ?_⟩
    rw [show ((bs.zip cs).map fun _ => true).all id = true by simp]
    exact h
theorem v_sum_of_waits : ∀ ds Φ, sp_sum_of_waits ds Φ → t_sum_of_waits { nx := fun _ _ => Φ .none, rt := retD Φ } (env0 N_sum_of_waits (ds.map .d)) [] := by
  rintro _ Φ ⟨cs, bs, rfl, hc, hb, h⟩
  have h60 := hc.1
  simp [t_sum_of_waits]
  refine ⟨cs, rfl, hc, cs, bs, rfl, hc, hb, ?_⟩
  simp
  refine lc_map (J := itZip (.d (.tuple (bs.map .int))) (.d (encC cs)) (bs.map .int) (cs.map encP)) (bs.zip cs) (fun p => .tuple [.int p.1, encP p.2]) (fun p => .int (p.1 - p.2.1)) (fun R h => h) (by simp [itZip]) (fun i x h => it_zip h) (line60 (by simp; omega)) ⟨rfl, rfl⟩ (fun p hp Z hz => ?_) ?_
  · simp [encP]
    exact hz
  · simp [oSumS]
    exact ⟨waitsOf cs bs, by simp [waitsOf, Function.comp_def], h⟩
/-! the hand -/
theorem v__law_hand : ∀ ns : List Int, ns.length ≤ 63 → t__law_hand { nx := fun _ _ => False, rt := fun r cs => ∃ j hd, r = .c j ∧ cs[j]? = some (.lst hd) ∧ HandL hd } (env0 N__law_hand [.s ns]) [] := by
  intro ns hn
  simp [t__law_hand]
  refine lc_map (J := itSeq (.d (.list ((ns.take 60).map .int))) ((ns.take 60).map .int)) (ns.take 60) .int (fun n => .int ((if n < 0 then -n else n) % 10 ^ 36)) (fun R h => ?_) (by simp [itSeq]) (fun i x h => it_seq h) (line60 (by simp; omega)) rfl (fun p hp Z hz => ?_) ?_
  · simp
    rw [show cutG ns none (some 60) = ns.take 60 from cut_to ns 60]
    exact h
  · simp
    exact ⟨⟨by decide, by decide, by decide⟩, by simpa using hz⟩
  · simp
    refine ⟨.inl ⟨by decide, by decide⟩, ?_⟩
    refine ⟨(ns.take 60).map (fun n => (if n < 0 then -n else n) % 10 ^ 36), 0, 0, _, 0, by simp [Function.comp_def]; rfl, ?_⟩
    refine ⟨fun x hx => ?_, by simp; omega, by omega, by omega, by omega, by decide, ?_, ?_, by omega⟩
    · obtain ⟨n, _, rfl⟩ := List.mem_map.mp hx
      exact ⟨Int.emod_nonneg _ (by decide), Int.emod_lt_of_pos _ (by decide)⟩
    · omega
    · have : min 60 ns.length ≤ 60 := Nat.min_le_left _ _
      omega
@[simp] theorem ix51 : ixN 5 1 = some 1 := rfl
@[simp] theorem ix52 : ixN 5 2 = some 2 := rfl
@[simp] theorem ix53 : ixN 5 3 = some 3 := rfl
@[simp] theorem ix54 : ixN 5 4 = some 4 := rfl
theorem cmul_r {i j : Int} (h1 : -(2 ^ 64) < j) (h2 : j < 2 ^ 64) : CMul i j := .inr ⟨h1, h2⟩
theorem cmul_l {i j : Int} (h1 : -(2 ^ 64) < i) (h2 : i < 2 ^ 64) : CMul i j := .inl ⟨h1, h2⟩
theorem v__law_draw : ∀ hd ds Φ, HandL hd → sp__law_draw ds Φ → t__law_draw { nx := fun _ _ => False, rt := retO Φ } (env0 N__law_draw (.c 0 :: ds.map .d)) [.lst hd] := by
  rintro _ _ Φ ⟨L, p, g, m, c, rfl, hL, hl, p0, p1, g0, g1, m0, m1, c0⟩ ⟨n, rfl, ⟨n0, n1⟩, h⟩
  unfold t__law_draw
  refine seq_split (fun ρ' cs' => ∃ (p g m : Int) (o : Option DL.Loc), (0 ≤ p ∧ p ≤ L.length ∧ 0 ≤ g ∧ g < 10 ^ 36 ∧ 0 ≤ m ∧ m < 2147483647) ∧ ρ' = [some (.c 0), some (.d (.int n)), o, none, none] ∧ cs' = [.lst [.list (L.map .int), .int p, .int g, .int m, .int c]]) (fun X hX => ?_) ?_
  · simp
    by_cases e1 : g = 0
    · subst e1
      by_cases e2 : p < L.length
      · have hp : p.toNat < L.length := by omega
        have ha : atI (L.map PyData.int) p = some (.int (L.getD p.toNat 0)) := atI_map p0 e2
        have hb := hL (L.getD p.toNat 0) (by rw [List.getD_eq_getElem?_getD, List.getElem?_eq_getElem hp]; exact List.getElem_mem hp)
        simp [e2, ha]
        rw [List.getD_eq_getElem?_getD] at hb
        generalize L[p.toNat]?.getD 0 = y at hb ⊢
        obtain ⟨y0, y1⟩ := hb
        refine ⟨cmul_r (by decide) (by decide), cmul_r (by decide) (by decide), ⟨by decide, by decide, by decide⟩, ?_⟩
        have r0 : 0 ≤ (m * 48271 + y % 2147483629 * 69621 + 17) % 2147483629 := Int.emod_nonneg _ (by decide)
        have r1 : (m * 48271 + y % 2147483629 * 69621 + 17) % 2147483629 < 2147483629 := Int.emod_lt_of_pos _ (by decide)
        split
        · exact hX _ _ ⟨p + 1, y, _, _, ⟨by omega, by omega, y0, y1, r0, by omega⟩, rfl, rfl⟩
        · exact hX _ _ ⟨p + 1, 0, _, _, ⟨by omega, by omega, by omega, by omega, r0, by omega⟩, rfl, rfl⟩
      · simp [e2]
        exact hX _ _ ⟨p, 0, m, none, ⟨p0, p1, by omega, by omega, m0, m1⟩, rfl, rfl⟩
    · simp [e1]
      exact hX _ _ ⟨p, g, m, none, ⟨p0, p1, g0, g1, m0, m1⟩, rfl, rfl⟩
  · rintro _ _ ⟨p, g, m, o, ⟨p0, p1, g0, g1, m0, m1⟩, rfl, rfl⟩
    refine seq_split (fun ρ' cs' => ρ' = [some (.c 0), some (.d (.int n)), o, none, none] ∧ cs' = [.lst [.list (L.map .int), .int p, .int g, .int m, .int c]]) (fun X hX => ?_) ?_
    · simp
      by_cases e1 : 0 < g
      · simp [e1]
        refine ⟨n0, ⟨n0, n1⟩, _, _, rfl, ⟨L, p, g / n, m, c, rfl, hL, hl, p0, p1, Int.ediv_nonneg g0 (by omega), ?_, m0, m1, c0⟩, rfl, h _ (Int.emod_nonneg _ (by omega)) (Int.emod_lt_of_pos _ n0)⟩
        exact Int.lt_of_le_of_lt (Int.ediv_le_self _ g0) g1
      · simp [e1]
        exact hX _ _ ⟨rfl, rfl⟩
    · rintro _ _ ⟨rfl, rfl⟩
      simp
      refine ⟨cmul_l (by decide) (by decide), cmul_r (by decide) (by decide), ⟨by decide, by decide⟩, ?_, ⟨by decide, by decide⟩, n0, ?_⟩
      · have r0 : 0 ≤ (m + 7919 * (c + 1)) * 40692 % 2147483399 := Int.emod_nonneg _ (by decide)
        have r1 : (m + 7919 * (c + 1)) * 40692 % 2147483399 < 2147483399 := Int.emod_lt_of_pos _ (by decide)
        exact cmul_l (by omega) (by omega)
      · exact ⟨_, _, rfl, ⟨L, p, g, m, c + 1, rfl, hL, hl, p0, p1, g0, g1, m0, m1, by omega⟩, rfl, h _ (Int.emod_nonneg _ (by omega)) (Int.emod_lt_of_pos _ n0)⟩
theorem l__law_draw : ∀ ds Φ, sp__law_draw ds Φ → ds.length + 1 = 2 := by
  rintro _ Φ ⟨n, rfl, _⟩
  rfl
theorem v__law_some : ∀ ds Φ, sp__law_some ds Φ → t__law_some { nx := fun _ cs => cs[0]? = some .hand ∧ Φ .none, rt := retH Φ } (env0 N__law_some (.c 0 :: ds.map .d)) [.hand] := by
  rintro _ Φ ⟨es, rfl, ne, hl, h⟩
  have := List.length_pos_iff.mpr ne
  simp [t__law_some]
  refine ⟨(es.length : Int), rfl, ⟨by omega, by omega⟩, fun r r0 r1 => ?_⟩
  have hr : r.toNat < es.length := by omega
  have e : atI es r = some es[r.toNat] := atI_int r0 (List.getElem?_eq_getElem hr)
  simp [e]
  exact h _ (List.getElem_mem hr)
theorem v__law_is : ∀ ds Φ, sp__law_is ds Φ → t__law_is { nx := fun _ _ => Φ .none, rt := retD Φ } (env0 N__law_is (ds.map .d)) [] := by
  rintro _ Φ ⟨x, rfl, hs, h⟩
  simp [t__law_is, oRepr]
  exact ⟨hs, h⟩
end Q09

namespace Q09
open PySem L2 PyProof.Rows DL
open PySem.W (minD maxD)
theorem perm_pop {α : Type} {l : List α} {i : Nat} {d : α} (h : l[i]? = some d) : l.Perm (d :: l.eraseIdx i) := by
  induction l generalizing i with
  | nil => simp at h
  | cons a l ih =>
    cases i with
    | zero =>
      simp at h
      subst h
      exact List.Perm.refl _
    | succ i =>
      have := ih (by simpa using h)
      rw [List.eraseIdx_cons_succ]
      exact (this.cons a).trans (List.Perm.swap d a _)
theorem erase_map {α β : Type} (f : α → β) : ∀ (l : List α) (i : Nat), (l.map f).eraseIdx i = (l.eraseIdx i).map f
  | [], _ => rfl
  | a :: l, 0 => rfl
  | a :: l, i + 1 => by
    rw [List.map_cons, List.eraseIdx_cons_succ, List.eraseIdx_cons_succ, List.map_cons, erase_map f l i]
theorem v__law_mixed : ∀ ds Φ, sp__law_mixed ds Φ → t__law_mixed { nx := fun _ cs => cs[0]? = some .hand ∧ Φ .none, rt := retH Φ } (env0 N__law_mixed (.c 0 :: ds.map .d)) [.hand] := by
  rintro _ Φ ⟨ns, rfl, hl, h⟩
  simp [t__law_mixed]
  refine while_typed (S := List Int × List Int) (fun s => [some (.c 0), some (.d (.list (ns.map .int))), some (.c 1), some (.c 2)]) (fun s => [.hand, .lst (s.1.map .int), .lst (s.2.map .int)]) (fun s => (s.1 ++ s.2).Perm ns) (fun s => s.1.length) ?_ ?_
  · exact weak_mk (ρ' := [some (.c 0), some (.d (.list (ns.map .int))), some (.c 1), some (.c 2)]) (by simp) rfl (Nat.le_refl _) ⟨(ns, []), by simp, rfl, by simp⟩
  · rintro ⟨left, found⟩ hp Nx hN
    simp at hp ⊢
    have len := hp.length_eq
    rw [List.length_append] at len
    by_cases ne : left = []
    · subst ne
      simp
      exact h found (by simpa using hp)
    · have pos : 0 < left.length := List.length_pos_iff.mpr ne
      rw [if_pos pos]
      refine ⟨(left.length : Int), rfl, ⟨by omega, by omega⟩, fun r r0 r1 => ⟨r0, by omega, ?_⟩⟩
      have hr : r.toNat < left.length := by omega
      refine ⟨.int left[r.toNat], by rw [List.getElem?_map, List.getElem?_eq_getElem hr]; rfl, by rw [sizeLine_eq, List.length_map]; omega, ?_⟩
      have pp := perm_pop (List.getElem?_eq_getElem hr)
      refine hN (left.eraseIdx r.toNat, found ++ [left[r.toNat]]) _ _ ?_ ?_ (by simp) rfl ?_ (by simp)
      · simp only
        refine List.Perm.trans ?_ hp
        refine List.Perm.trans ?_ (pp.symm.append_right found)
        rw [List.cons_append, ← List.append_assoc]
        exact (List.perm_append_comm (l₁ := left.eraseIdx r.toNat ++ found) (l₂ := [left[r.toNat]]))
      · simp only
        rw [List.length_eraseIdx_of_lt hr]
        omega
      · simp [erase_map]
theorem v__law_served : ∀ ds Φ, sp__law_served ds Φ → t__law_served { nx := fun _ _ => Φ .none, rt := retD Φ } (env0 N__law_served (ds.map .d)) [] := by
  rintro _ Φ ⟨cs, k, rfl, ⟨h1, h2, h3⟩, ⟨k1, k2⟩, h⟩
  simp [t__law_served]
  refine ⟨by omega, by omega, by rw [sizeLine_eq]; omega, ?_⟩
  refine for_typed (J := itSeq (.d (encC cs)) (cs.map encP)) cs encP (envS cs k 6) celS (fun i s => s = (cs.take i).foldl turn (List.replicate k.toNat 0, [])) (fun R h => h) (by simp [itSeq]) (fun i x h => it_seq h) ?_ (fun _ _ _ => rfl) ?_ ?_
  · exact weak_mk (ρ' := envS cs k 6 (List.replicate k.toNat 0, [])) (by simp [envS]) rfl (Nat.le_refl _) ⟨_, rfl, rfl, by simp [celS]⟩
  · rintro i c s hc rfl Nx hN
    have hs : ((cs.take i).foldl turn (List.replicate k.toNat 0, [])).1.length = k.toNat := (serve_len (cs.take i) k).1
    have hl : ((cs.take i).foldl turn (List.replicate k.toNat 0, [])).2.length = (cs.take i).length := (serve_len (cs.take i) k).2
    have nxt := fold_next (f := turn) (s := (List.replicate k.toNat 0, [])) hc
    generalize hS : (cs.take i).foldl turn (List.replicate k.toNat 0, []) = s at *
    obtain ⟨j, v, p1, p2, p3, _⟩ := pick_ok (l := s.1) (by intro e; rw [e] at hs; simp at hs; omega)
    have hj : j < s.1.length := (List.getElem?_eq_some_iff.mp p2).1
    simp [envS, celS, encP]
    refine lc_map (J := itEnum (.c 0) (s.1.map .int)) s.1.zipIdx (fun p => .tuple [.int (p.2 : Nat), .int p.1]) (fun p => encP (p.1, (p.2 : Int))) (fun R h => h) (by simp [itEnum]) (fun i x h => it_enum h) (line60 (by simp; omega)) rfl (fun p hp Z hz => ?_) ?_
    · simp
      exact hz
    · have e1 : (s.1.zipIdx.map fun p => encP (p.1, (p.2 : Int))) = (tagged s.1).map encP := by unfold tagged; rw [List.map_map]; rfl
      rw [e1]
      simp
      refine best_P p3 ?_
      have a1 : atI (s.1.map PyData.int) (j : Int) = some (.int v) := atI_nat (by rw [List.getElem?_map, p2]; rfl)
      have ix : ixN s.1.length (j : Int) = some j := by
        unfold ixN
        rw [if_pos (by omega), if_pos (by omega), Int.toNat_natCast]
      have gd : s.1.getD (pick s.1).toNat 0 = v := by
        rw [p1, Int.toNat_natCast, List.getD_eq_getElem?_getD, p2]
        rfl
      simp [encP, a1, ix]
      refine ⟨by rw [hl, sizeLine_eq, List.length_take]; omega, ?_⟩
      refine hN (turn s c) _ _ nxt.symm (by simp [envS]) rfl ?_ (by simp)
      simp only [turn, celS]
      rw [gd, p1]
      simp [List.map_set, enc3, Int.max_comm]
  · rintro s rfl
    simp [envS, celS]
    exact h
theorem longest_fold (cs : List (Int × Int)) (rs : List (Int × Int × Int)) : longest cs rs = cs.foldl (fun m c => max m (waitingAt cs rs c.1)) 0 := by
  unfold longest
  show (cs.map fun c => waitingAt cs rs c.1).foldl max 0 = _
  rw [List.foldl_map]
theorem v__law_line : ∀ ds Φ, sp__law_line ds Φ → t__law_line { nx := fun _ _ => Φ .none, rt := retD Φ } (env0 N__law_line (ds.map .d)) [] := by
  rintro _ Φ ⟨cs, rs, rfl, hl, h⟩
  simp [t__law_line]
  refine for_typed (J := itSeq (.d (encC cs)) (cs.map encP)) cs encP (fun m : Int => [some (.d (encC cs)), some (.d (.tuple (rs.map enc3))), some (.d (.int m)), none, none, none, none, none]) (fun _ => []) (fun i m => m = (cs.take i).foldl (fun m c => max m (waitingAt cs rs c.1)) 0) (fun R h => h) (by simp [itSeq]) (fun i x h => it_seq h) ?_ (fun _ _ _ => rfl) ?_ ?_
  · exact weak_mk (ρ' := [some (.d (encC cs)), some (.d (.tuple (rs.map enc3))), some (.d (.int 0)), none, none, none, none, none]) (by simp) rfl (Nat.le_refl _) ⟨_, rfl, rfl, rfl⟩
  · rintro i c m hc rfl Nx hN
    have nxt := fold_next (f := fun m (c : Int × Int) => max m (waitingAt cs rs c.1)) (s := 0) hc
    simp [encP]
    refine lc_out (J := itZip (.d (encC cs)) (.d (.tuple (rs.map enc3))) (cs.map encP) (rs.map enc3)) (cs.zip rs) (fun p => .tuple [encP p.1, enc3 p.2]) (fun p => if (decide (p.1.1 ≤ c.1) && decide (c.1 < p.2.2.1)) = true then [.int 1] else []) (fun R h => h) (by simp [itZip]) (fun i x h => it_zip h) (line60 (by simp; omega)) ⟨rfl, rfl⟩ (fun p hp Z hz => ?_) ?_
    · simp [encP, enc3]
      by_cases a : p.1.1 ≤ c.1
      · by_cases b : c.1 < p.2.2.1
        · simp [a, b] at hz ⊢
          exact hz
        · simp [a, b] at hz ⊢
          exact hz
      · simp [a] at hz ⊢
        exact hz
    · rw [flat_filter]
      simp
      exact hN _ _ _ nxt.symm (by simp [waitingAt]) rfl rfl (by simp)
  · rintro m rfl
    rw [List.take_length, ← longest_fold]
    simpa using h
end Q09

namespace Q09
open PySem L2 PyProof.Rows DL
open PySem.W (minD maxD)
def envT (cs : List (Int × Int)) (h : Int) : DL.Env := [some (.d (encC cs)), some (.c 0), some (.d (.int h)), some (.c 1), none, none]
def celT (s : List Int × Int × List Int) : Cells := [.lst (s.1.map .int), .lst (s.2.2.map .int)]
theorem v__law_short : ∀ ds Φ, sp__law_short ds Φ → t__law_short { nx := fun _ _ => Φ .none, rt := retD Φ } (env0 N__law_short (ds.map .d)) [] := by
  rintro _ Φ ⟨cs, rfl, ⟨h1, h2, h3⟩, h⟩
  simp [t__law_short]
  refine ⟨by omega, by omega, by rw [sizeLine_eq]; omega, ?_⟩
  refine while_typed (S := Nat) (fun m => envT cs (srun cs m).2.1) (fun m => celT (srun cs m)) (fun m => m ≤ cs.length) (fun m => cs.length - m) ?_ ?_
  · exact weak_mk (ρ' := envT cs 0) (by simp [envT]) rfl (Nat.le_refl _) ⟨0, by omega, rfl, by simp [celT, srun]⟩
  · intro m hm Nx hN
    have si := sinv_run m hm
    have inn := si.inn
    have len := si.len
    have bl := si.bl
    simp [envT, celT]
    by_cases ne : (srun cs m).1 = []
    · rw [ne] at len
      simp [ne]
      have em : m = cs.length := by simpa using len
      subst em
      exact h
    · have pos : 0 < (srun cs m).1.length := List.length_pos_iff.mpr ne
      rw [if_pos pos]
      obtain ⟨i, e1, e2, e3⟩ := sstep_eq (cs := cs) ne
      have s2 : srun cs (m + 1) = _ := e3
      have hi := inn i e2
      generalize hS : srun cs m = s at *
      refine lc_map (J := itSeq (.c 0) (s.1.map .int)) s.1 .int (fun i => .int (cAt cs i).1) (fun R h => h) (by simp [itSeq]) (fun i x h => it_seq h) (line60 (by omega)) rfl (fun p hp Z hz => ?_) ?_
      · simp [at_comer (inn p hp), encP]
        exact hz
      simp [oMinL]
      refine ⟨hoursOf cs s.1, by simp [hoursOf, Function.comp_def], by simpa [hoursOf] using ne, ?_⟩
      refine lc_out (J := itSeq (.c 0) (s.1.map .int)) s.1 .int (fun i => if decide ((cAt cs i).1 ≤ max s.2.1 (minL (hoursOf cs s.1))) = true then [encP ((cAt cs i).2, i)] else []) (fun R h => h) (by simp [itSeq]) (fun i x h => it_seq h) (line60 (by omega)) rfl (fun p hp Z hz => ?_) ?_
      · simp [at_comer (inn p hp), encP]
        by_cases a : (cAt cs p).1 ≤ max s.2.1 (minL (hoursOf cs s.1))
        · rw [if_pos a]
          rw [if_pos (by simpa using a)] at hz
          exact hz
        · rw [if_neg a]
          rw [if_neg (by simpa using a)] at hz
          exact hz
      rw [flat_filter]
      have e : ((s.1.filter fun i => decide ((cAt cs i).1 ≤ max s.2.1 (minL (hoursOf cs s.1)))).map fun i => encP ((cAt cs i).2, i)) = (there cs s.1 (max s.2.1 (minL (hoursOf cs s.1)))).map encP := by
        unfold there
        rw [List.map_map]
        rfl
      rw [e]
      have : ∃ l, least2 (there cs s.1 (max s.2.1 (minL (hoursOf cs s.1)))) = some (l, i) := by
        unfold nextS at e1
        cases q : least2 (there cs s.1 (max s.2.1 (minL (hoursOf cs s.1)))) with
        | none =>
          rw [q] at e1
          cases e1
        | some p =>
          rw [q] at e1
          cases e1
          exact ⟨p.1, rfl⟩
      obtain ⟨l, q⟩ := this
      simp
      refine best_P q ?_
      have ix : ixN s.2.2.length i = some i.toNat := by
        unfold ixN
        rw [if_pos hi.1, if_pos (by omega)]
      simp [encP, at_comer hi, ix]
      simp [oRemove]
      refine ⟨s.1, rfl, e2, ?_⟩
      refine hN (m + 1) _ _ (by omega) (by omega) (by simp [envT, s2]) rfl (by simp [celT, s2, List.map_set]) (by simp)
theorem v__law_comers : ∀ ds Φ, sp__law_comers ds Φ → t__law_comers { nx := fun _ cs => cs[0]? = some .hand ∧ Φ .none, rt := retH Φ } (env0 N__law_comers (.c 0 :: ds.map .d)) [.hand] := by
  rintro _ Φ ⟨rfl, h⟩
  simp [t__law_comers]
  refine ⟨4, rfl, ⟨by omega, by omega⟩, fun kind k0 k1 => ?_⟩
  refine ⟨100, rfl, ⟨by omega, by omega⟩, fun h0 q0 q1 => ?_⟩
  refine for_draw ?_
  simp
  refine ⟨[.int 0, .int 1, .int 9, .int 30, .int 60], rfl, by simp, by simp, fun x hx => ?_⟩
  have : ∃ n : Int, x = .int n ∧ 0 ≤ n ∧ n ≤ 60 := by
    simp at hx
    rcases hx with rfl | rfl | rfl | rfl | rfl
    · exact ⟨0, rfl, by omega, by omega⟩
    · exact ⟨1, rfl, by omega, by omega⟩
    · exact ⟨9, rfl, by omega, by omega⟩
    · exact ⟨30, rfl, by omega, by omega⟩
    · exact ⟨60, rfl, by omega, by omega⟩
  obtain ⟨n, rfl, n0, n1⟩ := this
  simp
  refine ⟨⟨by omega, by omega⟩, ?_⟩
  refine for_typed (J := itRng 0 n.toNat) (S := Int × List (Int × Int)) (List.range n.toNat) (fun j => .int (0 + (j : Nat))) (fun s => [some (.c 0), some (.d (.int kind)), some (.d (.int s.1)), some (.c 1), none]) (fun s => [.hand, .lst (s.2.map encP)])
    (fun i s => i ≤ 60 ∧ s.2.length = i ∧ 0 ≤ s.1 ∧ (∀ p ∈ s.2, okP p ∧ p.1 ≤ s.1) ∧ s.2.Pairwise (fun a b => a.1 ≤ b.1)) (fun R h => h) (by simp [itRng]) (fun i x h => it_rng h) ?_ (fun _ _ _ => trivial) ?_ ?_
  · exact weak_mk (ρ' := [some (.c 0), some (.d (.int kind)), some (.d (.int h0)), some (.c 1), none]) (by simp) rfl (Nat.le_refl _) ⟨(h0, []), by simp; exact q0, rfl, by simp⟩
  · rintro i j ⟨hr, found⟩ hi ⟨i60, len, r0, all, srt⟩ Nx hN
    have hi : i < n.toNat := by
      have := (List.getElem?_eq_some_iff.mp hi).1
      simpa using this
    simp only at len r0 all srt
    refine seq_split (fun ρ' cs' => ∃ h2, hr ≤ h2 ∧ ρ' = [some (.c 0), some (.d (.int kind)), some (.d (.int h2)), some (.c 1), some (.d (.int (0 + (j : Nat))))] ∧ cs' = [.hand, .lst (found.map encP)]) (fun X hX => ?_) ?_
    · simp [itRng]
      by_cases kp : 0 < kind
      · rw [if_pos kp]
        have km : ∃ z : Int, atI [PyData.int 1, .int 10, .int 160] (kind - 1) = some (.int z) ∧ 0 < z ∧ z < 1000 := by
          have : kind = 1 ∨ kind = 2 ∨ kind = 3 := by omega
          rcases this with rfl | rfl | rfl
          · exact ⟨1, rfl, by omega, by omega⟩
          · exact ⟨10, rfl, by omega, by omega⟩
          · exact ⟨160, rfl, by omega, by omega⟩
        obtain ⟨z, ez, z0, z1⟩ := km
        refine ⟨_, ez, z, rfl, ⟨z0, by omega⟩, fun r r0' r1' => ?_⟩
        simp
        refine ⟨[.int 0, .int 0, .int 1, .int r], rfl, by simp, by simp, fun x hx => ?_⟩
        have : ∃ v : Int, x = .int v ∧ 0 ≤ v := by
          simp at hx
          rcases hx with rfl | rfl | rfl
          · exact ⟨0, rfl, by omega⟩
          · exact ⟨1, rfl, by omega⟩
          · exact ⟨r, rfl, by omega⟩
        obtain ⟨v, rfl, v0⟩ := this
        simp
        exact hX _ _ ⟨hr + v, by omega, by simp, rfl⟩
      · rw [if_neg kp]
        exact hX _ _ ⟨hr, by omega, by simp, rfl⟩
    · rintro _ _ ⟨h2, hle, rfl, rfl⟩
      simp
      refine ⟨[.int 3, .int 60, .int 500], rfl, by simp, by simp, fun x hx => ?_⟩
      have : ∃ v : Int, x = .int v ∧ 0 < v ∧ v ≤ 500 := by
        simp at hx
        rcases hx with rfl | rfl | rfl
        · exact ⟨3, rfl, by omega, by omega⟩
        · exact ⟨60, rfl, by omega, by omega⟩
        · exact ⟨500, rfl, by omega, by omega⟩
      obtain ⟨v, rfl, v0, v1⟩ := this
      simp
      refine ⟨v, rfl, ⟨v0, by omega⟩, fun r r0' r1' => ?_⟩
      simp
      refine ⟨by rw [sizeLine_eq]; omega, ?_⟩
      refine hN (h2, found ++ [(min 10000 h2, 1 + r)]) _ _ ⟨by omega, by simp [len], by simp only; omega, fun p hp => ?_, ?_⟩ (by simp) rfl (by simp [encP]) (by simp)
      · simp only at hp ⊢
        rcases List.mem_append.mp hp with hp | hp
        · obtain ⟨a, b⟩ := all p hp
          exact ⟨a, by omega⟩
        · rw [List.mem_singleton.mp hp]
          refine ⟨⟨?_, ?_, ?_, ?_⟩, ?_⟩ <;> simp only <;> omega
      · rw [List.pairwise_append]
        refine ⟨srt, by simp, fun a ha b hb => ?_⟩
        rw [List.mem_singleton.mp hb]
        obtain ⟨⟨_, q2, _⟩, q3⟩ := all a ha
        simp only
        omega
  · rintro ⟨hr, found⟩ ⟨_, len, r0, all, srt⟩
    simp only [List.length_range] at len r0 all srt
    simp
    exact h found ⟨by omega, fun p hp => (all p hp).1, srt⟩
end Q09

/-! plain laws of queues -/
namespace Q09
open PySem L2 PyProof.Rows DL
/-! ### rows, one behind another -/
def bOf (free : List Int) (c : Int × Int) : Int := max c.1 (free.getD (pick free).toNat 0)
def fOf (free : List Int) (c : Int × Int) : List Int := free.set (pick free).toNat (bOf free c + c.2)
def rowsF : List Int → List (Int × Int) → List (Int × Int × Int)
  | _, [] => []
  | free, c :: cs => (pick free, bOf free c, bOf free c + c.2) :: rowsF (fOf free c) cs
theorem fold_rows : ∀ (cs : List (Int × Int)) (free : List Int) (acc : List (Int × Int × Int)), (cs.foldl turn (free, acc)).2 = acc ++ rowsF free cs
  | [], free, acc => by simp [rowsF]
  | c :: cs, free, acc => by
    rw [List.foldl_cons]
    show (cs.foldl turn (fOf free c, acc ++ [(pick free, bOf free c, bOf free c + c.2)])).2 = _
    rw [fold_rows cs]
    simp [rowsF]
theorem rows_F (cs : List (Int × Int)) (k : Int) : rows cs k = rowsF (List.replicate k.toNat 0) cs := by
  unfold rows serve
  rw [fold_rows]
  simp
theorem rowsF_len : ∀ (cs : List (Int × Int)) (free : List Int), (rowsF free cs).length = cs.length
  | [], _ => rfl
  | c :: cs, free => by
    rw [rowsF, List.length_cons, List.length_cons, rowsF_len cs]
theorem pick_at {free : List Int} (ne : free ≠ []) : ∃ (i : Nat) (v : Int), pick free = (i : Int) ∧ i < free.length ∧ free[i]? = some v ∧ free.getD (pick free).toNat 0 = v ∧ ∀ u ∈ free, v ≤ u := by
  obtain ⟨i, v, h1, h2, _, h4, _⟩ := pick_ok ne
  refine ⟨i, v, h1, (List.getElem?_eq_some_iff.mp h2).1, h2, ?_, fun u hu => ?_⟩
  · rw [h1, Int.toNat_natCast, List.getD_eq_getElem?_getD, h2]
    rfl
  · obtain ⟨j, hj⟩ := List.getElem?_of_mem hu
    exact h4 j u hj
theorem rowsF_ok : ∀ (cs : List (Int × Int)) (free : List Int) (n : Nat), free ≠ [] → free.length ≤ 6 → (∀ f ∈ free, 0 ≤ f ∧ f ≤ 10000 + 500 * n) → (∀ p ∈ cs, okP p) →
    (∀ r ∈ rowsF free cs, 0 ≤ r.1 ∧ r.1 < 6 ∧ r.2.1 ≤ 10000 + 500 * (n + cs.length : Nat) ∧ r.2.2 ≤ 10000 + 500 * (n + cs.length : Nat) ∧ 0 ≤ r.2.2) ∧ ∀ p ∈ cs.zip (rowsF free cs), 0 ≤ p.1.1 ∧ p.1.1 ≤ p.2.2.1
  | [], _, _, _, _, _, _ => ⟨fun r h => (nomatch h), fun p h => (nomatch h)⟩
  | c :: cs, free, n, ne, h6, hf, hc => by
    obtain ⟨i, v, h1, h2, h3, h4, _⟩ := pick_at ne
    obtain ⟨c1, c2, c3, c4⟩ := hc c List.mem_cons_self
    obtain ⟨v1, v2⟩ := hf v (List.mem_of_getElem? h3)
    have eb : bOf free c = max c.1 v := by unfold bOf; rw [h4]
    have len : (fOf free c).length = free.length := by unfold fOf; rw [List.length_set]
    have ne2 : fOf free c ≠ [] := by
      intro e
      rw [e] at len
      exact ne (List.eq_nil_of_length_eq_zero len.symm)
    obtain ⟨a, b⟩ := rowsF_ok cs (fOf free c) (n + 1) ne2 (by omega) (fun f hf2 => by
      unfold fOf at hf2
      rcases List.mem_or_eq_of_mem_set hf2 with z | z
      · have := hf f z
        omega
      · rw [z, eb]
        omega) fun p hp => hc p (List.mem_cons_of_mem _ hp)
    refine ⟨fun r hr => ?_, fun p hp => ?_⟩
    · rw [rowsF] at hr
      rcases List.mem_cons.mp hr with rfl | hr
      · rw [eb, h1, List.length_cons]
        refine ⟨?_, ?_, ?_, ?_, ?_⟩ <;> simp only <;> omega
      · have := a r hr
        rw [List.length_cons]
        rw [show n + (cs.length + 1) = n + 1 + cs.length by omega]
        exact this
    · rw [rowsF, List.zip_cons_cons] at hp
      rcases List.mem_cons.mp hp with rfl | hp
      · simp only
        rw [eb]
        omega
      · exact b p hp
theorem rows_ok {cs : List (Int × Int)} {k : Int} (hc : okC cs) (h1 : 1 ≤ k) (h2 : k ≤ 6) : (rows cs k).length = cs.length ∧ (∀ r ∈ rows cs k, 0 ≤ r.1 ∧ r.1 < 6 ∧ r.2.1 ≤ 100000 ∧ r.2.2 ≤ 100000 ∧ 0 ≤ r.2.2) ∧ ∀ p ∈ cs.zip (rows cs k), 0 ≤ p.1.1 ∧ p.1.1 ≤ p.2.2.1 := by
  rw [rows_F]
  have h60 := hc.1
  obtain ⟨a, b⟩ := rowsF_ok cs (List.replicate k.toNat 0) 0 (by
    intro e
    have := congrArg List.length e
    simp at this
    omega) (by simp; omega) (fun f hf => by
    rw [List.eq_of_mem_replicate hf]
    omega) hc.2.1
  refine ⟨rowsF_len _ _, fun r hr => ?_, b⟩
  have := a r hr
  omega
/-! ### more clerks -/
def cnt (l : List Int) (x : Int) : Nat := (l.filter fun f => decide (f ≤ x)).length
theorem cnt_cons (a : Int) (l : List Int) (x : Int) : cnt (a :: l) x = (if a ≤ x then 1 else 0) + cnt l x := by
  unfold cnt
  rw [List.filter_cons]
  by_cases h : a ≤ x
  · simp [h]
    omega
  · simp [h]
theorem cnt_set : ∀ (l : List Int) (i : Nat) (v u x : Int), l[i]? = some u → cnt (l.set i v) x + (if u ≤ x then 1 else 0) = cnt l x + (if v ≤ x then 1 else 0)
  | [], i, v, u, x, h => by simp at h
  | a :: l, 0, v, u, x, h => by
    simp at h
    subst h
    rw [List.set_cons_zero, cnt_cons, cnt_cons]
    omega
  | a :: l, i + 1, v, u, x, h => by
    have := cnt_set l i v u x (by simpa using h)
    rw [List.set_cons_succ, cnt_cons, cnt_cons]
    omega
theorem cnt_pos {l : List Int} {x : Int} (h : 0 < cnt l x) : ∃ f ∈ l, f ≤ x := by
  unfold cnt at h
  obtain ⟨f, hf⟩ := List.exists_mem_of_length_pos h
  obtain ⟨a, b⟩ := List.mem_filter.mp hf
  exact ⟨f, a, of_decide_eq_true b⟩
theorem pos_cnt {l : List Int} {x f : Int} (h : f ∈ l) (hx : f ≤ x) : 0 < cnt l x := List.length_pos_of_mem (List.mem_filter.mpr ⟨h, decide_eq_true hx⟩)
def wF : List Int → List (Int × Int) → Int
  | _, [] => 0
  | free, c :: cs => (bOf free c - c.1) + wF (fOf free c) cs
theorem wF_eq : ∀ (cs : List (Int × Int)) (free : List Int), ((cs.zip (rowsF free cs)).map fun p => p.2.2.1 - p.1.1).sum = wF free cs
  | [], _ => rfl
  | c :: cs, free => by
    rw [rowsF, List.zip_cons_cons, List.map_cons, List.sum_cons, wF_eq cs, wF]
theorem wF_le : ∀ (cs : List (Int × Int)) (F G : List Int), F ≠ [] → (∀ p ∈ cs, okP p) → (∀ x, cnt F x ≤ cnt G x) → wF G cs ≤ wF F cs
  | [], _, _, _, _, _ => Int.le_refl _
  | c :: cs, F, G, ne, hc, dom => by
    obtain ⟨i, v, h1, h2, h3, h4, h5⟩ := pick_at ne
    have hv := List.mem_of_getElem? h3
    obtain ⟨g, hg, gv⟩ := cnt_pos (Nat.lt_of_lt_of_le (pos_cnt hv (Int.le_refl v)) (dom v))
    obtain ⟨j, u, q1, q2, q3, q4, q5⟩ := pick_at (List.ne_nil_of_mem hg)
    have uv : u ≤ v := Int.le_trans (q5 g hg) gv
    obtain ⟨c1, c2, c3, c4⟩ := hc c List.mem_cons_self
    have b1 : bOf F c = max c.1 v := by unfold bOf; rw [h4]
    have b2 : bOf G c = max c.1 u := by unfold bOf; rw [q4]
    have ih := wF_le cs (fOf F c) (fOf G c) (by
      unfold fOf
      intro e
      have := congrArg List.length e
      simp at this
      exact ne this) (fun p hp => hc p (List.mem_cons_of_mem _ hp)) fun x => by
      have e1 := cnt_set F i (bOf F c + c.2) v x h3
      have e2 := cnt_set G j (bOf G c + c.2) u x q3
      have d := dom x
      unfold fOf
      rw [h1, q1, Int.toNat_natCast, Int.toNat_natCast]
      by_cases hx : v ≤ x
      · rw [if_pos hx] at e1
        rw [if_pos (by omega)] at e2
        have : (if bOf F c + c.2 ≤ x then 1 else 0) ≤ (if bOf G c + c.2 ≤ x then 1 else 0) := by
          split
          · rw [if_pos (by omega)]
            omega
          · omega
        omega
      · rw [if_neg hx, if_neg (by omega)] at e1
        have : cnt F x = 0 := by
          rcases Nat.eq_zero_or_pos (cnt F x) with z | z
          · exact z
          · obtain ⟨f, hf, fx⟩ := cnt_pos z
            have := h5 f hf
            omega
        omega
    rw [wF, wF]
    omega
theorem cnt_rep (n : Nat) (a x : Int) : cnt (List.replicate n a) x = if a ≤ x then n else 0 := by
  induction n with
  | zero => simp [cnt]
  | succ n ih =>
    rw [List.replicate_succ, cnt_cons, ih]
    split <;> omega
theorem more_less {cs : List (Int × Int)} {k k' : Int} (hc : okC cs) (h1 : 1 ≤ k) (h2 : k < k') : (waits cs k').sum ≤ (waits cs k).sum := by
  unfold waits
  rw [rows_F, rows_F, wF_eq, wF_eq]
  refine wF_le cs _ _ ?_ hc.2.1 fun x => ?_
  · intro e
    have := congrArg List.length e
    simp at this
    omega
  · rw [cnt_rep, cnt_rep]
    split <;> omega
/-! ### the area -/
def ind (a b x : Int) : Int := if a ≤ x ∧ x < b then 1 else 0
def gap (ts : List Int) (f : Int → Int) : Int := ((ts.zip ts.tail).map fun p => (p.2 - p.1) * f p.1).sum
theorem gap_cons (x y : Int) (r : List Int) (f : Int → Int) : gap (x :: y :: r) f = (y - x) * f x + gap (y :: r) f := rfl
theorem gap_congr {f g : Int → Int} : ∀ {ts : List Int}, (∀ t ∈ ts, f t = g t) → gap ts f = gap ts g
  | [], _ => rfl
  | [x], _ => rfl
  | x :: y :: r, h => by
    rw [gap_cons, gap_cons, h x List.mem_cons_self, gap_congr fun t ht => h t (List.mem_cons_of_mem _ ht)]
theorem gap_zero : ∀ (ts : List Int), gap ts (fun _ => 0) = 0
  | [] => rfl
  | [x] => rfl
  | x :: y :: r => by
    rw [gap_cons, gap_zero (y :: r)]
    omega
theorem gap_add (f g : Int → Int) : ∀ (ts : List Int), gap ts (fun t => f t + g t) = gap ts f + gap ts g
  | [] => rfl
  | [x] => rfl
  | x :: y :: r => by
    rw [gap_cons, gap_cons, gap_cons, gap_add f g (y :: r), Int.mul_add]
    omega
theorem gap_ind : ∀ (ts : List Int) (a b : Int), ts.Pairwise (· ≤ ·) → a ≤ b → a ∈ ts → b ∈ ts → gap ts (ind a b) = b - a
  | [], a, b, _, _, ha, _ => (nomatch ha)
  | [x], a, b, _, _, ha, hb => by
    rw [List.mem_singleton.mp ha, List.mem_singleton.mp hb]
    show (0 : Int) = x - x
    omega
  | x :: y :: r, a, b, so, ab, ha, hb => by
    obtain ⟨s1, s2⟩ := List.pairwise_cons.mp so
    have s3 := (List.pairwise_cons.mp s2).1
    rw [gap_cons]
    by_cases hx : x < a
    · have ha2 : a ∈ y :: r := by
        rcases List.mem_cons.mp ha with e | e
        · omega
        · exact e
      have hb2 : b ∈ y :: r := by
        rcases List.mem_cons.mp hb with e | e
        · omega
        · exact e
      rw [gap_ind (y :: r) a b s2 ab ha2 hb2]
      have : ind a b x = 0 := by
        unfold ind
        rw [if_neg (by omega)]
      rw [this]
      omega
    · have ea : a = x := by
        rcases List.mem_cons.mp ha with e | e
        · exact e
        · have := s1 a e
          omega
      subst ea
      by_cases hb1 : b = a
      · subst hb1
        have z : ∀ t : Int, ind b b t = 0 := fun t => by
          unfold ind
          rw [if_neg (by omega)]
        rw [z, gap_congr (g := fun _ => 0) fun t _ => z t, gap_zero]
        omega
      · have hb2 : b ∈ y :: r := by
          rcases List.mem_cons.mp hb with e | e
          · exact absurd e hb1
          · exact e
        have yb : y ≤ b := by
          rcases List.mem_cons.mp hb2 with e | e
          · omega
          · exact s3 b e
        have xy := s1 y List.mem_cons_self
        have c : gap (y :: r) (ind a b) = gap (y :: r) (ind y b) := gap_congr fun t ht => by
          have : y ≤ t := by
            rcases List.mem_cons.mp ht with e | e
            · omega
            · exact s3 t e
          unfold ind
          by_cases h : t < b
          · rw [if_pos ⟨by omega, h⟩, if_pos ⟨this, h⟩]
          · rw [if_neg (by omega), if_neg (by omega)]
        rw [c, gap_ind (y :: r) y b s2 yb List.mem_cons_self hb2]
        have : ind a b a = 1 := by
          unfold ind
          rw [if_pos (by omega)]
        rw [this]
        omega
theorem gap_count (ts : List Int) (so : ts.Pairwise (· ≤ ·)) : ∀ (ps : List ((Int × Int) × Int × Int × Int)), (∀ p ∈ ps, p.1.1 ≤ p.2.2.1 ∧ p.1.1 ∈ ts ∧ p.2.2.1 ∈ ts) →
    gap ts (fun h => ((ps.filter fun p => decide (p.1.1 ≤ h) && decide (h < p.2.2.1)).length : Nat)) = (ps.map fun p => p.2.2.1 - p.1.1).sum
  | [], _ => gap_zero ts
  | p :: ps, h => by
    obtain ⟨h1, h2, h3⟩ := h p List.mem_cons_self
    have e : ∀ t : Int, (((p :: ps).filter fun p => decide (p.1.1 ≤ t) && decide (t < p.2.2.1)).length : Int) = ind p.1.1 p.2.2.1 t + ((ps.filter fun p => decide (p.1.1 ≤ t) && decide (t < p.2.2.1)).length : Nat) := fun t => by
      rw [List.filter_cons]
      unfold ind
      by_cases c : p.1.1 ≤ t ∧ t < p.2.2.1
      · rw [if_pos (by simp [c.1, c.2]), if_pos c, List.length_cons]
        omega
      · rw [if_neg (by simpa using c), if_neg c]
        omega
    rw [gap_congr fun t _ => e t, gap_add, gap_ind ts _ _ so h1 h2 h3, gap_count ts so ps fun q hq => h q (List.mem_cons_of_mem _ hq), List.map_cons, List.sum_cons]
theorem area_eq {cs : List (Int × Int)} {k : Int} (hc : okC cs) (h1 : 1 ≤ k) (h2 : k ≤ 6) : area cs (rows cs k) = (waits cs k).sum := by
  obtain ⟨_, _, r⟩ := rows_ok hc h1 h2
  refine gap_count (hours cs (rows cs k)) (sortI_sorted _) (cs.zip (rows cs k)) fun p hp => ⟨(r p hp).2, ?_, ?_⟩
  · exact (sortI_perm _).mem_iff.mpr (List.mem_append_left _ (List.mem_map_of_mem (f := fun c : Int × Int => c.1) (List.of_mem_zip hp).1))
  · exact (sortI_perm _).mem_iff.mpr (List.mem_append_right _ (List.mem_map_of_mem (f := fun c : Int × Int × Int => c.2.1) (List.of_mem_zip hp).2))
end Q09

namespace Q09
open PySem L2 PyProof.Rows DL
/-! ### shortest first -/
theorem next_there {cs : List (Int × Int)} {left : List Int} {h i : Int} (e : nextS cs left h = some i) : (cAt cs i).1 ≤ h ∧ least2 (there cs left h) = some ((cAt cs i).2, i) := by
  unfold nextS at e
  cases q : least2 (there cs left h) with
  | none =>
    rw [q] at e
    cases e
  | some p =>
    rw [q] at e
    cases e
    have := least2_mem q
    unfold there at this
    obtain ⟨j, hj, rfl⟩ := List.mem_map.mp this
    exact ⟨of_decide_eq_true (List.mem_filter.mp hj).2, rfl⟩
structure TInv (cs : List (Int × Int)) (m : Nat) (s : List Int × Int × List Int) : Prop where
  now : 0 ≤ s.2.1 ∧ s.2.1 ≤ 10000 + 500 * (m : Int)
  all : ∀ i : Int, 0 ≤ i → i < cs.length → i ∉ s.1 → (cAt cs i).1 ≤ s.2.2.getD i.toNat 0
  bnd : ∀ b ∈ s.2.2, 0 ≤ b ∧ b ≤ 10000 + 500 * (m : Int)
theorem tinv_run {cs : List (Int × Int)} (hc : okC cs) : ∀ m, m ≤ cs.length → TInv cs m (srun cs m)
  | 0, _ => ⟨⟨Int.le_refl _, by show (0 : Int) ≤ _; omega⟩, fun i a b c => absurd (mem_rg.mpr ⟨a, b⟩) c, fun b hb => by
    have : b = 0 := List.eq_of_mem_replicate hb
    omega⟩
  | m + 1, h => by
    have t := tinv_run hc m (by omega)
    have si := sinv_run (cs := cs) m (by omega)
    have ne : (srun cs m).1 ≠ [] := fun e => by
      have := si.len
      rw [e] at this
      simp at this
      omega
    obtain ⟨i, e1, e2, e3⟩ := sstep_eq (cs := cs) ne
    have hi := si.inn i e2
    obtain ⟨c1, c2, c3, c4⟩ := hc.2.1 (cAt cs i) (cAt_mem hi)
    obtain ⟨n1, n2⟩ := next_there e1
    have mh : minL (hoursOf cs (srun cs m).1) ≤ 10000 := by
      obtain ⟨j, hj, ej⟩ := List.mem_map.mp (show minL (hoursOf cs (srun cs m).1) ∈ (srun cs m).1.map fun i => (cAt cs i).1 from minL_mem (by simpa [hoursOf] using ne))
      obtain ⟨_, d, _⟩ := hc.2.1 (cAt cs j) (cAt_mem (si.inn j hj))
      omega
    obtain ⟨w1, w2⟩ := t.now
    have s2 : srun cs (m + 1) = sstep cs (srun cs m) := rfl
    rw [s2, e3]
    have nd : (srun cs m).1.Nodup := si.so.imp fun h => by omega
    refine ⟨?_, fun j a b c => ?_, fun b hb => ?_⟩
    · simp only
      omega
    · simp only at c ⊢
      by_cases ej : j = i
      · subst ej
        rw [List.getD_eq_getElem?_getD, List.getElem?_set_self (by rw [si.bl]; omega)]
        exact n1
      · have : j.toNat ≠ i.toNat := by omega
        rw [List.getD_eq_getElem?_getD, List.getElem?_set_ne (Ne.symm this), ← List.getD_eq_getElem?_getD]
        exact t.all j a b fun z => c ((List.mem_erase_of_ne ej).mpr z)
    · simp only at hb
      rcases List.mem_or_eq_of_mem_set hb with z | z
      · have := t.bnd b z
        omega
      · omega
theorem short_ok {cs : List (Int × Int)} (hc : okC cs) : okB cs (short cs) ∧ ∀ b ∈ short cs, 0 ≤ b ∧ b ≤ 100000 := by
  have si := sinv_run (cs := cs) cs.length (Nat.le_refl _)
  have t := tinv_run hc cs.length (Nat.le_refl _)
  have h60 := hc.1
  have em : (srun cs cs.length).1 = [] := List.eq_nil_of_length_eq_zero (by have := si.len; omega)
  refine ⟨⟨si.bl, fun p hp => ?_⟩, fun b hb => ?_⟩
  · obtain ⟨i, hi⟩ := List.getElem?_of_mem hp
    rw [List.getElem?_zip_eq_some] at hi
    have hl : i < cs.length := (List.getElem?_eq_some_iff.mp hi.2).1
    have := t.all (i : Int) (by omega) (by omega) (by rw [em]; simp)
    unfold cAt at this
    rw [Int.toNat_natCast, List.getD_eq_getElem?_getD, List.getD_eq_getElem?_getD, hi.2, show (srun cs cs.length).2.2[i]? = some p.1 from hi.1] at this
    exact this
  · have := t.bnd b hb
    omega
/-! ### all at one hour -/
def ordB (cs : List (Int × Int)) (order : List Int) : Int × List Int := order.foldl (fun s i => (s.1 + (cAt cs i).2, s.2.set i.toNat s.1)) (7, List.replicate cs.length 0)
def same (cs : List (Int × Int)) : List (Int × Int) := cs.map fun c => (7, c.2)
theorem same_len (cs : List (Int × Int)) : (same cs).length = cs.length := by unfold same; rw [List.length_map]
theorem same_ok {cs : List (Int × Int)} (hc : okC cs) : okC (same cs) := by
  refine ⟨by rw [same_len]; exact hc.1, fun p hp => ?_, ?_⟩
  · obtain ⟨c, h, rfl⟩ := List.mem_map.mp hp
    obtain ⟨_, _, a, b⟩ := hc.2.1 c h
    exact ⟨by simp only; omega, by simp only; omega, a, b⟩
  · unfold same
    rw [List.pairwise_map]
    exact List.pairwise_of_forall (fun _ _ => Int.le_refl _)
theorem same_at {cs : List (Int × Int)} {i : Int} (h : 0 ≤ i ∧ i < cs.length) : (cAt (same cs) i).1 = 7 := by
  have := cAt_mem (cs := same cs) (i := i) (by rw [same_len]; exact h)
  obtain ⟨c, _, e⟩ := List.mem_map.mp this
  rw [← e]
/-- each one waits for all ahead -/
def tot : List Int → Int
  | [] => 0
  | l :: ls => l * ls.length + tot ls
def go (cs : List (Int × Int)) (s : Int × List Int) (order : List Int) : Int × List Int := order.foldl (fun s i => (s.1 + (cAt cs i).2, s.2.set i.toNat s.1)) s
theorem sum_set : ∀ (bs : List Int) (i : Nat) (v u : Int), bs[i]? = some u → (bs.set i v).sum = bs.sum - u + v
  | [], i, v, u, h => by simp at h
  | a :: bs, 0, v, u, h => by
    simp at h
    subst h
    rw [List.set_cons_zero, List.sum_cons, List.sum_cons]
    omega
  | a :: bs, i + 1, v, u, h => by
    rw [List.set_cons_succ, List.sum_cons, List.sum_cons, sum_set bs i v u (by simpa using h)]
    omega
theorem go_len (cs : List (Int × Int)) : ∀ (order : List Int) (s : Int × List Int), (go cs s order).2.length = s.2.length
  | [], s => rfl
  | i :: order, s => by
    show (go cs (s.1 + (cAt cs i).2, s.2.set i.toNat s.1) order).2.length = _
    rw [go_len cs order, List.length_set]
theorem go_sum (cs : List (Int × Int)) : ∀ (order : List Int) (now : Int) (bs : List Int), order.Nodup → (∀ i ∈ order, 0 ≤ i ∧ i < bs.length ∧ bs[i.toNat]? = some 0) →
    (go cs (now, bs) order).2.sum = bs.sum + now * order.length + tot (order.map fun i => (cAt cs i).2)
  | [], now, bs, _, _ => by
    show bs.sum = bs.sum + now * ((0 : Nat) : Int) + 0
    simp
  | i :: order, now, bs, nd, h => by
    obtain ⟨n1, n2⟩ := List.nodup_cons.mp nd
    obtain ⟨i0, i1, i2⟩ := h i List.mem_cons_self
    show (go cs (now + (cAt cs i).2, bs.set i.toNat now) order).2.sum = _
    rw [go_sum cs order _ _ n2 fun j hj => ?_, sum_set bs i.toNat now 0 i2, List.map_cons, tot, List.length_map, List.length_cons, Int.add_mul]
    · have : now * ((order.length + 1 : Nat) : Int) = now * (order.length : Int) + now := by
        rw [Int.natCast_add, Int.mul_add]
        simp
      rw [this]
      omega
    · obtain ⟨j0, j1, j2⟩ := h j (List.mem_cons_of_mem _ hj)
      have : j ≠ i := fun e => n1 (e ▸ hj)
      refine ⟨j0, by rw [List.length_set]; exact j1, ?_⟩
      rw [List.getElem?_set_ne (by omega)]
      exact j2
theorem go_ge (cs : List (Int × Int)) (hl : ∀ i, 0 ≤ (cAt cs i).2) : ∀ (order : List Int) (now : Int) (bs : List Int), 7 ≤ now → (∀ i ∈ order, 0 ≤ i) → ∀ j : Nat, j < bs.length → ((j : Int) ∈ order ∨ 7 ≤ bs.getD j 0) → 7 ≤ (go cs (now, bs) order).2.getD j 0
  | [], now, bs, _, _, j, _, h => by
    rcases h with h | h
    · cases h
    · exact h
  | i :: order, now, bs, hn, hi, j, hj, h => by
    show 7 ≤ (go cs (now + (cAt cs i).2, bs.set i.toNat now) order).2.getD j 0
    have := hl i
    refine go_ge cs hl order _ _ (by omega) (fun k hk => hi k (List.mem_cons_of_mem _ hk)) j (by rw [List.length_set]; exact hj) ?_
    have i0 := hi i List.mem_cons_self
    by_cases e : i.toNat = j
    · refine .inr ?_
      rw [e, List.getD_eq_getElem?_getD, List.getElem?_set_self hj]
      exact hn
    · rcases h with h | h
      · rcases List.mem_cons.mp h with z | z
        · omega
        · exact .inl z
      · refine .inr ?_
        rw [List.getD_eq_getElem?_getD, List.getElem?_set_ne e, ← List.getD_eq_getElem?_getD]
        exact h
theorem len_pos {cs : List (Int × Int)} (hc : okC cs) (i : Int) : 0 ≤ (cAt cs i).2 := by
  by_cases h : i.toNat < cs.length
  · have := hc.2.1 (cAt cs i) (by
      unfold cAt
      rw [List.getD_eq_getElem?_getD, List.getElem?_eq_getElem h]
      exact List.getElem_mem h)
    obtain ⟨_, _, a, _⟩ := this
    omega
  · unfold cAt
    rw [List.getD_eq_getElem?_getD, List.getElem?_eq_none (by omega)]
    exact Int.le_refl _
theorem tot_move (a : Int) : ∀ (xs ys : List Int), (∀ x ∈ xs, a ≤ x) → a * ((xs ++ ys).length : Nat) + tot (xs ++ ys) ≤ tot (xs ++ a :: ys)
  | [], ys, _ => Int.le_refl _
  | x :: xs, ys, h => by
    have ih := tot_move a xs ys fun y hy => h y (List.mem_cons_of_mem _ hy)
    have hx := h x List.mem_cons_self
    show a * (((xs ++ ys).length + 1 : Nat) : Int) + (x * ((xs ++ ys).length : Nat) + tot (xs ++ ys)) ≤ x * ((xs ++ a :: ys).length : Nat) + tot (xs ++ a :: ys)
    have e : (xs ++ a :: ys).length = (xs ++ ys).length + 1 := by simp; omega
    rw [e]
    rw [show a * (((xs ++ ys).length + 1 : Nat) : Int) = a * ((xs ++ ys).length : Nat) + a by rw [Int.natCast_add, Int.mul_add]; simp,
      show x * (((xs ++ ys).length + 1 : Nat) : Int) = x * ((xs ++ ys).length : Nat) + x by rw [Int.natCast_add, Int.mul_add]; simp]
    omega
theorem tot_least : ∀ (ls ms : List Int), ls.Pairwise (· ≤ ·) → ms.Perm ls → tot ls ≤ tot ms
  | [], ms, _, p => by
    rw [p.eq_nil]
    exact Int.le_refl _
  | a :: ls, ms, so, p => by
    obtain ⟨s1, s2⟩ := List.pairwise_cons.mp so
    have ha : a ∈ ms := p.mem_iff.mpr List.mem_cons_self
    obtain ⟨xs, ys, rfl⟩ := List.append_of_mem ha
    have p2 : (xs ++ ys).Perm ls := (List.perm_cons a).mp ((List.perm_middle.symm).trans p)
    have ih := tot_least ls (xs ++ ys) s2 p2
    have mv := tot_move a xs ys fun x hx => by
      rcases List.mem_cons.mp (p.mem_iff.mp (List.mem_append_left _ hx)) with e | e
      · omega
      · exact s1 x e
    rw [p2.length_eq] at mv
    show a * (ls.length : Nat) + tot ls ≤ _
    omega
def siter (cs : List (Int × Int)) : Nat → List Int × Int × List Int → List Int × Int × List Int
  | 0, s => s
  | n + 1, s => siter cs n (sstep cs s)
theorem siter_snoc (cs : List (Int × Int)) : ∀ n s, siter cs (n + 1) s = sstep cs (siter cs n s)
  | 0, s => rfl
  | n + 1, s => siter_snoc cs n (sstep cs s)
theorem srun_iter (cs : List (Int × Int)) : ∀ n, srun cs n = siter cs n (srun cs 0)
  | 0 => rfl
  | n + 1 => by
    rw [siter_snoc, ← srun_iter cs n]
    rfl
theorem siter_order {cs : List (Int × Int)} : ∀ (n : Nat) (L : List Int) (now : Int) (B : List Int), L.length = n → (∀ i ∈ L, 0 ≤ i ∧ i < cs.length) → (∀ i, 0 ≤ (cAt (same cs) i).2) →
    ∃ order, order.Perm L ∧ (order.map fun i => (cAt (same cs) i).2).Pairwise (· ≤ ·) ∧ (siter (same cs) n (L, now, B)).2.2 = (go (same cs) (max now 7, B) order).2
  | 0, L, now, B, hL, _, _ => ⟨[], by rw [List.eq_nil_of_length_eq_zero hL], List.Pairwise.nil, rfl⟩
  | n + 1, L, now, B, hL, hi, hl => by
    have ne : L ≠ [] := fun e => by rw [e] at hL; cases hL
    obtain ⟨i, e1, e2, e3⟩ := sstep_eq (cs := same cs) (s := (L, now, B)) ne
    simp only at e1 e2 e3
    have m7 : minL (hoursOf (same cs) L) = 7 := by
      obtain ⟨j, hj, ej⟩ := List.mem_map.mp (show minL (hoursOf (same cs) L) ∈ L.map fun i => (cAt (same cs) i).1 from minL_mem (by simpa [hoursOf] using ne))
      rw [← ej]
      exact same_at (hi j hj)
    rw [m7] at e1 e3
    obtain ⟨n1, n2⟩ := next_there e1
    obtain ⟨order, p, so, r⟩ := siter_order n (L.erase i) (max now 7 + (cAt (same cs) i).2) (B.set i.toNat (max now 7)) (by rw [List.length_erase_of_mem e2, hL]; rfl) (fun j hj => hi j (List.mem_of_mem_erase hj)) hl
    refine ⟨i :: order, (p.cons i).trans (List.perm_cons_erase e2).symm, ?_, ?_⟩
    · rw [List.map_cons, List.pairwise_cons]
      refine ⟨fun l hlm => ?_, so⟩
      obtain ⟨j, hj, rfl⟩ := List.mem_map.mp hlm
      have hj2 : j ∈ L := List.mem_of_mem_erase (p.mem_iff.mp hj)
      have := least2_le n2 ((cAt (same cs) j).2, j) (List.mem_map.mpr ⟨j, List.mem_filter.mpr ⟨hj2, by rw [same_at (hi j hj2)]; exact decide_eq_true (by omega)⟩, rfl⟩)
      unfold DL.ltP at this
      simp only at this
      omega
    · show (siter (same cs) n (sstep (same cs) (L, now, B))).2.2 = (go (same cs) (max now 7 + (cAt (same cs) i).2, B.set i.toNat (max now 7)) order).2
      rw [e3, r]
      have := hl i
      rw [show max (max now 7 + (cAt (same cs) i).2) 7 = max now 7 + (cAt (same cs) i).2 by omega]
theorem sub_sum : ∀ (bs : List Int) (cs : List (Int × Int)), bs.length = cs.length → (∀ c ∈ cs, c.1 = 7) → (waitsOf cs bs).sum = bs.sum - 7 * cs.length
  | [], [], _, _ => rfl
  | b :: bs, c :: cs, h, h7 => by
    have ih := sub_sum bs cs (by simpa using h) fun c hc => h7 c (List.mem_cons_of_mem _ hc)
    have := h7 c List.mem_cons_self
    unfold waitsOf at ih ⊢
    rw [List.zip_cons_cons, List.map_cons, List.sum_cons, List.sum_cons, ih]
    simp only [List.length_cons]
    omega
theorem ord_tot {cs : List (Int × Int)} {order : List Int} (ho : order.Perm (rgI 0 cs.length)) : (go (same cs) (7, List.replicate cs.length 0) order).2.sum = 7 * cs.length + tot (order.map fun i => (cAt (same cs) i).2) := by
  have nd : order.Nodup := ho.nodup_iff.mpr ((rg_sorted _).imp fun h => by omega)
  rw [go_sum (same cs) order 7 _ nd fun i hi => ?_, ho.length_eq, rg_len]
  · simp
  · have := mem_rg.mp (ho.mem_iff.mp hi)
    refine ⟨this.1, by rw [List.length_replicate]; exact this.2, ?_⟩
    rw [List.getElem?_replicate, if_pos (by omega)]
theorem ord_ok {cs : List (Int × Int)} (hc : okC cs) {order : List Int} (ho : order.Perm (rgI 0 cs.length)) : okB (same cs) (ordB (same cs) order).2 ∧ (waitsOf (same cs) (short (same cs))).sum ≤ (waitsOf (same cs) (ordB (same cs) order).2).sum := by
  have sok := same_ok hc
  have hl := len_pos sok
  have eB : ordB (same cs) order = go (same cs) (7, List.replicate cs.length 0) order := by
    unfold ordB go
    rw [same_len]
  have gl : (ordB (same cs) order).2.length = cs.length := by
    rw [eB, go_len]
    simp
  have all7 : ∀ c ∈ same cs, c.1 = 7 := fun c h => by
    obtain ⟨d, _, rfl⟩ := List.mem_map.mp h
    rfl
  refine ⟨⟨by rw [gl, same_len], fun p hp => ?_⟩, ?_⟩
  · obtain ⟨i, hi⟩ := List.getElem?_of_mem hp
    rw [List.getElem?_zip_eq_some] at hi
    have hlt : i < cs.length := by rw [← gl]; exact (List.getElem?_eq_some_iff.mp hi.1).1
    have := go_ge (same cs) hl order 7 (List.replicate cs.length 0) (by omega) (fun j hj => (mem_rg.mp (ho.mem_iff.mp hj)).1) i (by simpa using hlt) (.inl (ho.mem_iff.mpr (mem_rg.mpr ⟨by omega, by omega⟩)))
    rw [← eB, List.getD_eq_getElem?_getD, hi.1] at this
    rw [all7 p.2 (List.of_mem_zip hp).2]
    exact this
  · have e1 : short (same cs) = (siter (same cs) cs.length (rgI 0 cs.length, 0, List.replicate cs.length 0)).2.2 := by
      unfold short
      rw [srun_iter]
      show (siter (same cs) (same cs).length (rgI 0 (same cs).length, 0, List.replicate (same cs).length 0)).2.2 = _
      rw [same_len]
    obtain ⟨o2, p2, so, r⟩ := siter_order cs.length (rgI 0 cs.length) 0 (List.replicate cs.length 0) (rg_len _) (fun i hi => mem_rg.mp hi) hl
    rw [← e1] at r
    have t1 := ord_tot ho
    have t2 := ord_tot p2
    rw [show max (0 : Int) 7 = 7 from rfl] at r
    rw [sub_sum _ _ (by rw [short_len', same_len]) all7, sub_sum _ _ (by rw [gl, same_len]) all7, r, eB, t1, t2]
    have := tot_least _ (order.map fun i => (cAt (same cs) i).2) so ((ho.trans p2.symm).map _)
    omega
where
  short_len' : (short (same cs)).length = cs.length := by
    have := (sinv_run (cs := same cs) (same cs).length (Nat.le_refl _)).bl
    rw [same_len] at this
    unfold short
    rw [same_len]
    exact this
end Q09

namespace Q09
open PySem L2 PyProof.Rows DL
open PySem.W (minD maxD)
theorem zip_waits : ∀ (cs : List (Int × Int)) (rs : List (Int × Int × Int)), ((rs.zip cs).map fun p => p.1.2.1 - p.2.1) = (cs.zip rs).map fun p => p.2.2.1 - p.1.1
  | [], [] => rfl
  | [], _ :: _ => rfl
  | _ :: _, [] => rfl
  | c :: cs, r :: rs => by
    rw [List.zip_cons_cons, List.zip_cons_cons, List.map_cons, List.map_cons, zip_waits cs rs]
def begins (cs : List (Int × Int)) (k : Int) : List Int := (rows cs k).map (·.2.1)
theorem waits_begins (cs : List (Int × Int)) (k : Int) : waitsOf cs (begins cs k) = waits cs k := by
  have : ∀ (cs : List (Int × Int)) (rs : List (Int × Int × Int)), (((rs.map (·.2.1)).zip cs).map fun p => p.1 - p.2.1) = (cs.zip rs).map fun p => p.2.2.1 - p.1.1 := by
    intro cs rs
    induction cs generalizing rs with
    | nil => cases rs <;> rfl
    | cons c cs ih =>
      cases rs with
      | nil => rfl
      | cons r rs => rw [List.map_cons, List.zip_cons_cons, List.zip_cons_cons, List.map_cons, List.map_cons, ih]
  exact this cs (rows cs k)
theorem begins_ok {cs : List (Int × Int)} {k : Int} (hc : okC cs) (h1 : 1 ≤ k) (h2 : k ≤ 6) : okB cs (begins cs k) := by
  obtain ⟨a, _, b⟩ := rows_ok hc h1 h2
  refine ⟨by unfold begins; rw [List.length_map, a], fun p hp => ?_⟩
  unfold begins at hp
  obtain ⟨i, hi⟩ := List.getElem?_of_mem hp
  rw [List.getElem?_zip_eq_some, List.getElem?_map] at hi
  cases e : (rows cs k)[i]? with
  | none =>
    rw [e] at hi
    cases hi.1
  | some r =>
    rw [e] at hi
    have := (b (p.2, r) (List.mem_of_getElem? (List.getElem?_zip_eq_some.mpr ⟨hi.2, e⟩))).2
    have e2 : r.2.1 = p.1 := by simpa using hi.1
    rw [← e2]
    exact this
theorem plain_ints {ns : List Int} (h : ∀ n ∈ ns, n.natAbs < 10 ^ 12) : plains (ns.map PyData.int) = true := plains_map fun n hn => by simpa [DL.plain] using h n hn
theorem bulk_ints (ns : List Int) : PyData.bulkAll (ns.map PyData.int) ≤ ns.length := by
  have := bulk_map (enc := PyData.int) (k := 0) (xs := ns) fun x _ => by simp [PyData.bulk]
  omega
theorem depth_ints' (ns : List Int) : PyData.depthAll (ns.map PyData.int) ≤ 0 := depth_map (enc := PyData.int) (k := 0) fun x _ => by simp [PyData.depth]
theorem shows_int {n : Int} (h : n.natAbs < 10 ^ 12) : Shows (.int n) := shows_of (by simpa [DL.plain] using h) (by simp [PyData.depth]) (by simp [PyData.bulk])
theorem sum_small {ns : List Int} {B : Nat} (h : ∀ n ∈ ns, n.natAbs ≤ B) : ns.sum.natAbs ≤ B * ns.length := by
  induction ns with
  | nil => simp
  | cons n ns ih =>
    have h1 := h n List.mem_cons_self
    have h2 := ih fun m hm => h m (List.mem_cons_of_mem _ hm)
    rw [List.sum_cons, List.length_cons, Nat.mul_add]
    omega
theorem waits_small {cs : List (Int × Int)} {k : Int} (hc : okC cs) (h1 : 1 ≤ k) (h2 : k ≤ 6) : (∀ n ∈ waits cs k, n.natAbs ≤ 200000 ∧ 0 ≤ n) ∧ (waits cs k).length = cs.length := by
  obtain ⟨a, b, c⟩ := rows_ok hc h1 h2
  refine ⟨fun n hn => ?_, by unfold waits; rw [List.length_map, List.length_zip, a, Nat.min_self]⟩
  unfold waits at hn
  obtain ⟨p, hp, rfl⟩ := List.mem_map.mp hn
  have z := c p hp
  have m := b p.2 (List.of_mem_zip hp).2
  omega
theorem shows_told {cs : List (Int × Int)} {k : Int} (hc : okC cs) (h1 : 1 ≤ k) (h2 : k ≤ 6) : Shows (.list [.tuple ((rows cs k).map enc3), .tuple ((waits cs k).map .int), .int (waits cs k).sum, .int (longest cs (rows cs k))]) := by
  obtain ⟨a, b, c⟩ := rows_ok hc h1 h2
  obtain ⟨w1, w2⟩ := waits_small hc h1 h2
  have h60 := hc.1
  have s1 := sum_small (B := 200000) fun n hn => (w1 n hn).1
  have l1 : (longest cs (rows cs k)).natAbs ≤ 60 := by
    have : longest cs (rows cs k) ∈ (0 :: cs.map fun c => waitingAt cs (rows cs k) c.1) := maxL_mem (by simp)
    rcases List.mem_cons.mp this with e | e
    · rw [e]; simp
    · obtain ⟨c, _, e⟩ := List.mem_map.mp e
      rw [← e]
      unfold waitingAt
      have := List.length_filter_le (fun q : (Int × Int) × Int × Int × Int => decide (q.1.1 ≤ c.1) && decide (c.1 < q.2.2.1)) (cs.zip (rows cs k))
      rw [List.length_zip] at this
      omega
  have p3 : plains ((rows cs k).map enc3) = true := plains_map fun r hr => by
    have := b r hr
    have := c
    obtain ⟨i, hi⟩ := List.getElem?_of_mem hr
    have hl : i < cs.length := by rw [← a]; exact (List.getElem?_eq_some_iff.mp hi).1
    have z := c (cs[i], r) (List.mem_of_getElem? (List.getElem?_zip_eq_some.mpr ⟨List.getElem?_eq_getElem hl, hi⟩))
    simp only at z
    simp [enc3, DL.plain, plains]
    omega
  have pw : plains ((waits cs k).map PyData.int) = true := plain_ints fun n hn => by
    have := (w1 n hn).1
    omega
  refine shows_of ?_ ?_ ?_
  · show (plains ((rows cs k).map enc3) && (plains ((waits cs k).map PyData.int) && (decide ((waits cs k).sum.natAbs < 10 ^ 12) && (decide ((longest cs (rows cs k)).natAbs < 10 ^ 12) && true)))) = true
    rw [p3, pw, decide_eq_true (by omega), decide_eq_true (by omega)]
    rfl
  · have d1 := depth_map (enc := enc3) (xs := rows cs k) (k := 1) fun x _ => by simp [enc3, PyData.depth, PyData.depthAll]
    have d2 := depth_ints' (waits cs k)
    simp only [PyData.depth, PyData.depthAll]
    omega
  · have b1 := bulk_map (enc := enc3) (xs := rows cs k) (k := 3) fun x _ => by simp [enc3, PyData.bulk, PyData.bulkAll]
    have b2 := bulk_ints (waits cs k)
    simp only [PyData.bulk, PyData.bulkAll]
    omega
def envA (cs : List (Int × Int)) : DL.Env := [some (.c 0), some (.d (encC cs)), some (.c 1)] ++ List.replicate 23 none
def gr (cs : List (Int × Int)) (k : Int) : Int := maxL (0 :: waits cs k)
def Gs (cs : List (Int × Int)) : List Int := (List.range 6).map fun j => gr cs (1 + (j : Nat))
theorem Gs_pos {cs : List (Int × Int)} : ∀ a ∈ Gs cs, 0 ≤ a := by
  intro a ha
  obtain ⟨j, _, rfl⟩ := List.mem_map.mp ha
  exact maxL_ge (by simp)
def good (cs : List (Int × Int)) (m : Int) : List Int := ([1, 2, 3, 4, 5, 6] : List Int).filter fun k => decide (gr cs k ≤ m)
theorem good_eq (cs : List (Int × Int)) (m : Int) : (((Gs cs).zipIdx.filter fun p => decide (p.1 ≤ m)).map fun p => ((p.2 : Nat) : Int) + 1) = good cs m := by
  have e1 : (Gs cs).zipIdx = (List.range 6).map fun j => (gr cs (1 + (j : Nat)), j) := rfl
  have e2 : ([1, 2, 3, 4, 5, 6] : List Int) = (List.range 6).map fun j => (1 : Int) + (j : Nat) := rfl
  unfold good
  rw [e1, e2, List.filter_map, List.filter_map, List.map_map]
  refine List.map_congr_left fun j _ => ?_
  show ((j : Nat) : Int) + 1 = 1 + (j : Nat)
  omega
theorem fewest_good (cs : List (Int × Int)) (m : Int) : fewest cs m = (good cs m).head? := by
  unfold fewest good
  rw [List.head?_filter]
  rfl
theorem good_mem {cs : List (Int × Int)} {m k : Int} (h : k ∈ good cs m) : 1 ≤ k ∧ k ≤ 6 := by
  have := (List.mem_filter.mp h).1
  simp at this
  omega
def envG (cs : List (Int × Int)) : DL.Env := [some (.c 0), some (.d (encC cs)), some (.c 1), none, none, none, none, none, none, none, some (.d (.list ((Gs cs).map .int)))] ++ List.replicate 15 none
def envB (cs : List (Int × Int)) (now : Int) : DL.Env := [some (.c 0), some (.d (encC cs)), some (.c 1), none, none, none, none, some (.c 2), none, none, none, none, none, none, none, some (.d (encC (same cs))), some (.d (.int now))] ++ List.replicate 9 none
theorem v__law_is_right : ∀ ds Φ, sp__law_is_right ds Φ → t__law_is_right { nx := fun _ cs => cs[0]? = some .hand ∧ Φ .none, rt := retH Φ } (env0 N__law_is_right (.c 0 :: ds.map .d)) [.hand] := by
  rintro _ Φ ⟨cs, rfl, hc, h⟩
  have h60 := hc.1
  simp [t__law_is_right]
  refine for_draw ?_
  simp
  refine ⟨6, rfl, ⟨by omega, by omega⟩, fun r r0 r1 => ?_⟩
  have hks : ∀ k ∈ [1, 2, 6, 1 + r], 1 ≤ k ∧ k ≤ 6 := by
    intro k hk
    simp at hk
    omega
  generalize hK : [1, 2, 6, 1 + r] = ks at hks
  have eK : [PyData.int 1, .int 2, .int 6, .int (1 + r)] = ks.map .int := by rw [← hK]; rfl
  have kl : ks.length = 4 := by rw [← hK]; rfl
  simp only [eK]
  clear eK
  refine for_typed (J := itSeq (.d (.tuple (ks.map .int))) (ks.map .int)) ks .int (fun _ : Nat => envA cs) (fun i => [.hand, .lst (((ks.take i).map fun k => (k, (waits cs k).sum)).map encP)]) (fun i s => s = i) (fun R h => h) (by simp [itSeq]) (fun i x h => it_seq h) ?_ (fun _ _ _ => rfl) ?_ ?_
  · exact weak_mk (ρ' := envA cs) (by simp [envA]) rfl (Nat.le_refl _) ⟨0, rfl, rfl, by simp⟩
  · rintro i0 k i hk rfl Nx hN
    obtain ⟨k1, k2⟩ := hks k (List.mem_of_getElem? hk)
    simp [envA]
    refine ⟨cs, k, rfl, hc, ⟨k1, k2⟩, ?_⟩
    have rl := rows_len cs k
    refine lc_map (J := itZip (.d (.tuple ((rows cs k).map enc3))) (.d (encC cs)) ((rows cs k).map enc3) (cs.map encP)) ((rows cs k).zip cs) (fun p => .tuple [enc3 p.1, encP p.2]) (fun p => .int (p.1.2.1 - p.2.1)) (fun R h => h) (by simp [itZip]) (fun i x h => it_zip h) (line60 (by simp; omega)) ⟨rfl, rfl⟩ (fun p hp Z hz => ?_) ?_
    · simp [enc3, encP]
      exact hz
    have e1 : (((rows cs k).zip cs).map fun p => PyData.int (p.1.2.1 - p.2.1)) = (waits cs k).map .int := by
      unfold waits
      rw [← zip_waits, List.map_map]
      rfl
    rw [e1]
    simp
    refine ⟨cs, k, rfl, hc, ⟨k1, k2⟩, cs, k, rfl, hc, ⟨k1, k2⟩, ?_⟩
    simp
    refine ⟨cs, k, rfl, hc, ⟨k1, k2⟩, cs, k, rfl, hc, ⟨k1, k2⟩, ?_⟩
    simp [oSumS]
    refine ⟨waits cs k, rfl, cs, rows cs k, rfl, by omega, ?_⟩
    simp
    rw [area_eq hc k1 k2]
    refine ⟨_, rfl, shows_told hc k1 k2, ?_⟩
    simp
    refine lc_map (J := itSeq (.d (.tuple ((rows cs k).map enc3))) ((rows cs k).map enc3)) (rows cs k) enc3 (fun r => .int r.2.1) (fun R h => h) (by simp [itSeq]) (fun i x h => it_seq h) (line60 (by omega)) rfl (fun p hp Z hz => ?_) ?_
    · simp [enc3]
      exact hz
    have e2 : ((rows cs k).map fun r => PyData.int r.2.1) = (begins cs k).map .int := by
      unfold begins
      rw [List.map_map]
      rfl
    rw [e2]
    simp
    by_cases ke : k = 1
    · rw [if_pos ke]
      refine ⟨cs, begins cs k, rfl, hc, begins_ok hc k1 k2, ?_⟩
      simp
      refine ⟨waits cs k, rfl, ?_⟩
      rw [waits_begins]
      refine ⟨.int (waits cs k).sum, rfl, ?_, ?_⟩
      · have := sum_small (B := 200000) fun n hn => ((waits_small hc k1 k2).1 n hn).1
        have := (waits_small hc k1 k2).2
        exact shows_int (by omega)
      · simp
        refine ⟨waits cs k, rfl, by rw [sizeLine_eq]; omega, ?_⟩
        exact hN (i + 1) _ _ rfl (by simp [envA]) rfl (by simp [List.take_add_one, hk, encP]) (by simp)
    · rw [if_neg ke]
      refine ⟨waits cs k, rfl, by rw [sizeLine_eq]; omega, ?_⟩
      exact hN (i + 1) _ _ rfl (by simp [envA]) rfl (by simp [List.take_add_one, hk, encP]) (by simp)
  · rintro _ rfl
    rw [List.take_length]
    have sm : ∀ k ∈ ks, ∀ k' ∈ ks, ¬ (k < k' ∧ (waits cs k).sum < (waits cs k').sum) := fun k hk k' hk' z => by
      have := more_less hc (hks k hk).1 z.1
      omega
    generalize hS : (ks.map fun k => (k, (waits cs k).sum)) = sums
    have hs : ∀ p ∈ sums, ∀ q ∈ sums, ¬ (p.1 < q.1 ∧ p.2 < q.2) := by
      intro p hp q hq
      rw [← hS] at hp hq
      obtain ⟨k, hk, rfl⟩ := List.mem_map.mp hp
      obtain ⟨k', hk', rfl⟩ := List.mem_map.mp hq
      exact sm k hk k' hk'
    have sl : sums.length = 4 := by rw [← hS, List.length_map, kl]
    simp only [dSeq]
    refine for_typed (J := itSeq (.c 1) (sums.map encP)) sums encP (fun _ : Nat => envA cs) (fun i => [.hand, .lst (sums.map encP)]) (fun i s => s = i) (fun R h => h) (by simp [itSeq]) (fun i x h => it_seq h) ?_ (fun _ _ _ => rfl) ?_ ?_
    · exact weak_mk (ρ' := envA cs) (by simp [envA]) rfl (Nat.le_refl _) ⟨0, rfl, rfl, rfl⟩
    · rintro i0 p i hp rfl Nx hN
      simp [envA, encP]
      refine lc_map (J := itSeq (.c 1) (sums.map encP)) sums encP (fun q => .bool (decide (p.1 < q.1) && decide (p.2 < q.2))) (fun R h => h) (by simp [itSeq]) (fun i x h => it_seq h) (line60 (by omega)) rfl (fun q hq Z hz => ?_) ?_
      · simp [encP]
        by_cases a : p.1 < q.1
        · simp [a] at hz ⊢
          exact hz
        · simp [a] at hz ⊢
          exact hz
      · simp [oAny]
        refine ⟨sums.map fun q => decide (p.1 < q.1) && decide (p.2 < q.2), by simp [Function.comp_def], ?_⟩
        rw [if_neg]
        · exact hN (i + 1) _ _ rfl (by simp [envA]) rfl rfl (by simp)
        · simp
          intro a b hm h1
          have := hs p (List.mem_of_getElem? hp) (a, b) hm
          simp only at this
          omega
    · rintro _ rfl
      simp [envA]
      refine lc_map (J := itRng 1 6) (List.range 6) (fun j => .int (1 + (j : Nat))) (fun j => .int (gr cs (1 + (j : Nat)))) (fun R h => by simp; exact h) (by simp [itRng]) (fun i x h => it_rng h) (line60 (by simp)) trivial (fun j hj Z hz => ?_) ?_
      · have hj := List.mem_range.mp hj
        have rl := rows_len cs (1 + (j : Nat))
        simp
        refine lc_draw ?_
        simp
        refine ⟨cs, 1 + (j : Nat), rfl, hc, ⟨by omega, by omega⟩, ?_⟩
        refine lc_map (J := itZip (.d (.tuple ((rows cs (1 + (j : Nat))).map enc3))) (.d (encC cs)) ((rows cs (1 + (j : Nat))).map enc3) (cs.map encP)) ((rows cs (1 + (j : Nat))).zip cs) (fun p => .tuple [enc3 p.1, encP p.2]) (fun p => .int (p.1.2.1 - p.2.1)) (fun R h => h) (by simp [itZip]) (fun i x h => it_zip h) (line60 (by simp; omega)) ⟨rfl, rfl⟩ (fun p hp Z hz => ?_) ?_
        · simp [enc3, encP]
          exact hz
        have e1 : (((rows cs (1 + (j : Nat))).zip cs).map fun p => PyData.int (p.1.2.1 - p.2.1)) = (waits cs (1 + (j : Nat))).map .int := by
          unfold waits
          rw [← zip_waits, List.map_map]
          rfl
        rw [e1]
        simp
        have wl : (waits cs (1 + (j : Nat))).length = cs.length := (waits_small hc (by omega) (by omega)).2
        refine ⟨by rw [sizeLine_eq]; omega, ?_⟩
        simp [oMaxL]
        exact ⟨0 :: waits cs (1 + (j : Nat)), by simp, by simp, hz⟩
      · have eG : ((List.range 6).map fun j => PyData.int (gr cs (1 + (j : Nat)))) = (Gs cs).map .int := by
          unfold Gs
          rw [List.map_map]
          rfl
        rw [eG]
        simp
        refine for_draw ?_
        simp
        refine ⟨_, rfl, by simp [Gs], by simp [Gs], fun x hx => ?_⟩
        obtain ⟨a, ha, rfl⟩ := List.mem_map.mp hx
        refine ⟨_, rfl, by simp [Gs], by simp [Gs], fun y hy => ?_⟩
        obtain ⟨b, hb, rfl⟩ := List.mem_map.mp hy
        simp
        have a0 := Gs_pos a ha
        have hms : ∀ m ∈ [0, 10000, a, max 0 (b - 1)], (0 : Int) ≤ m := by
          intro m hm
          simp at hm
          omega
        generalize hM : [0, 10000, a, max 0 (b - 1)] = ms at hms
        have eM : [PyData.int 0, .int 10000, .int a, .int (max 0 (b - 1))] = ms.map .int := by rw [← hM]; rfl
        simp only [eM]
        clear eM
        refine for_typed (J := itSeq (.d (.tuple (ms.map .int))) (ms.map .int)) ms .int (fun _ : Nat => envG cs) (fun i => [.hand, .lst (sums.map encP)]) (fun i s => s = i) (fun R h => h) (by simp [itSeq]) (fun i x h => it_seq h) ?_ (fun _ _ _ => rfl) ?_ ?_
        · exact weak_mk (ρ' := envG cs) (by simp [envG]) rfl (Nat.le_refl _) ⟨0, rfl, rfl, rfl⟩
        · rintro i0 m i hm rfl Nx hN
          have m0 := hms m (List.mem_of_getElem? hm)
          simp [envG]
          refine lc_out (J := itEnum (.d (.list ((Gs cs).map .int))) ((Gs cs).map .int)) (Gs cs).zipIdx (fun p => .tuple [.int (p.2 : Nat), .int p.1]) (fun p => if decide (p.1 ≤ m) = true then [.int ((p.2 : Nat) + 1)] else []) (fun R h => h) (by simp [itEnum]) (fun i x h => it_enum h) (line60 (by simp [Gs])) rfl (fun p hp Z hz => ?_) ?_
          · simp
            by_cases c : p.1 ≤ m
            · simp [c] at hz ⊢
              exact hz
            · simp [c] at hz ⊢
              exact hz
          rw [flat_filter]
          have eg : (((Gs cs).zipIdx.filter fun p => decide (p.1 ≤ m)).map fun p => PyData.int ((p.2 : Nat) + 1)) = (good cs m).map .int := by
            rw [← good_eq, List.map_map]
            rfl
          rw [eg]
          simp
          have fin : ∀ ρ', Env.le (envG cs) ρ' → Nx ρ' [.hand, .lst (sums.map encP)] := fun ρ' le => hN (i + 1) _ _ rfl le rfl rfl (by simp)
          by_cases c : m ≤ 10000
          · rw [if_pos c]
            refine ⟨cs, m, rfl, hc, ⟨m0, c⟩, ?_⟩
            rw [fewest_good]
            cases g : good cs m with
            | nil =>
              simp
              exact ⟨.none, rfl, shows_of rfl (by simp [PyData.depth]) (by simp [PyData.bulk]), fin _ (by simp [envG])⟩
            | cons x xs =>
              simp
              have hx : x ∈ good cs m := by rw [g]; simp
              refine ⟨.int x, rfl, shows_int ?_, fin _ (by simp [envG])⟩
              have := good_mem hx
              omega
          · rw [if_neg c]
            exact fin _ (by simp [envG])
        · rintro _ rfl
          obtain ⟨sb, sm2⟩ := short_ok hc
          simp only [dSeq]
          simp [envG]
          refine ⟨cs, rfl, hc, ?_⟩
          simp
          refine lc_map (J := itZip (.d (.tuple ((short cs).map .int))) (.d (encC cs)) ((short cs).map .int) (cs.map encP)) ((short cs).zip cs) (fun p => .tuple [.int p.1, encP p.2]) (fun p => .int (p.1 - p.2.1)) (fun R h => h) (by simp [itZip]) (fun i x h => it_zip h) (line60 (by simp; omega)) ⟨rfl, rfl⟩ (fun p hp Z hz => ?_) ?_
          · simp [encP]
            exact hz
          simp [oSumS]
          refine ⟨waitsOf cs (short cs), by simp [waitsOf, Function.comp_def], ?_⟩
          refine ⟨cs, rfl, hc, cs, short cs, rfl, hc, sb, ?_⟩
          simp
          have sw : ((waitsOf cs (short cs)).sum).natAbs ≤ 200000 * 60 := by
            have := sum_small (ns := waitsOf cs (short cs)) (B := 200000) fun n hn => by
              unfold waitsOf at hn
              obtain ⟨p, hp, rfl⟩ := List.mem_map.mp hn
              have a1 := sm2 p.1 (List.of_mem_zip hp).1
              have a2 := hc.2.1 p.2 (List.of_mem_zip hp).2
              obtain ⟨b1, b2, _⟩ := a2
              omega
            have wl : (waitsOf cs (short cs)).length ≤ 60 := by unfold waitsOf; rw [List.length_map, List.length_zip]; omega
            omega
          refine ⟨_, rfl, ?_, ?_⟩
          · refine shows_of ?_ ?_ ?_
            · show (plains ((short cs).map PyData.int) && (decide ((waitsOf cs (short cs)).sum.natAbs < 10 ^ 12) && true)) = true
              rw [plain_ints fun n hn => by have := sm2 n hn; omega, decide_eq_true (by omega)]
              rfl
            · have := depth_ints' (short cs)
              simp only [PyData.depth, PyData.depthAll]
              omega
            · have b2 := bulk_ints (short cs)
              have := short_len (cs := cs)
              simp only [PyData.bulk, PyData.bulkAll]
              omega
          simp
          refine lc_map (J := itSeq (.d (encC cs)) (cs.map encP)) cs encP (fun c => encP (7, c.2)) (fun R h => h) (by simp [itSeq]) (fun i x h => it_seq h) (line60 (by omega)) rfl (fun p hp Z hz => ?_) ?_
          · simp [encP]
            exact hz
          have es : (cs.map fun c => encP (7, c.2)) = (same cs).map encP := by
            unfold same
            rw [List.map_map]
            rfl
          rw [es]
          have ssl : (same cs).length = cs.length := by unfold same; rw [List.length_map]
          have sok := same_ok hc
          simp
          refine ⟨by omega, by rw [sizeLine_eq]; omega, ?_⟩
          refine for_draw ?_
          simp
          refine ⟨by omega, rgI 0 (same cs).length, rfl, by rw [rg_len]; omega, fun order ho => ?_⟩
          rw [ssl] at ho
          obtain ⟨ob, least⟩ := ord_ok hc ho
          simp
          refine for_typed (J := itSeq (.d (.list (order.map .int))) (order.map .int)) (S := Int × List Int) order .int (fun s => envB cs s.1) (fun s => [.hand, .lst (sums.map encP), .lst (s.2.map .int)]) (fun i s => s = (order.take i).foldl (fun s i => (s.1 + (cAt (same cs) i).2, s.2.set i.toNat s.1)) (7, List.replicate (same cs).length 0)) (fun R h => h) (by simp [itSeq]) (fun i x h => it_seq h) ?_ (fun _ _ _ => rfl) ?_ ?_
          · exact weak_mk (ρ' := envB cs 7) (by simp [envB]) rfl (Nat.le_refl _) ⟨_, rfl, rfl, by simp⟩
          · rintro i0 j ⟨now, bs⟩ hj e Nx hN
            have nxt := fold_next (f := fun (s : Int × List Int) i => (s.1 + (cAt (same cs) i).2, s.2.set i.toNat s.1)) (s := (7, List.replicate (same cs).length 0)) hj
            have bl : bs.length = cs.length := by
              have : ∀ (l : List Int) (s : Int × List Int), (l.foldl (fun (s : Int × List Int) i => (s.1 + (cAt (same cs) i).2, s.2.set i.toNat s.1)) s).2.length = s.2.length := by
                intro l
                induction l with
                | nil => intro s; rfl
                | cons a l ih =>
                  intro s
                  rw [List.foldl_cons, ih]
                  simp
              have := this (order.take i0) (7, List.replicate (same cs).length 0)
              rw [← e] at this
              simpa [ssl] using this
            have hj2 : 0 ≤ j ∧ j < cs.length := mem_rg.mp (ho.mem_iff.mp (List.mem_of_getElem? hj))
            have ix : ixN bs.length j = some j.toNat := by
              unfold ixN
              rw [if_pos hj2.1, if_pos (by omega)]
            rw [← e] at nxt
            simp [envB, ix, at_comer (cs := same cs) (i := j) (by rw [ssl]; exact hj2), encP]
            exact hN _ _ _ nxt.symm (by simp [envB]) rfl (by simp [List.map_set]) (by simp)
          · rintro _ rfl
            rw [List.take_length]
            have e3 : (order.foldl (fun (s : Int × List Int) i => (s.1 + (cAt (same cs) i).2, s.2.set i.toNat s.1)) (7, List.replicate (same cs).length 0)) = ordB (same cs) order := rfl
            rw [e3]
            simp [envB]
            refine ⟨same cs, (ordB (same cs) order).2, rfl, sok, ob, ?_⟩
            simp
            refine ⟨same cs, rfl, sok, same cs, short (same cs), rfl, sok, (short_ok sok).1, ?_⟩
            simp [least]
            exact h
end Q09

namespace Q09
open PySem L2 PyProof.Rows DL
open PySem.W (minD maxD)
def cs0 : List (Int × Int) := [(0, 5), (0, 2), (1, 1)]
theorem ok0 : okC cs0 := ⟨by decide, by unfold okP; decide, by decide⟩
theorem rows0 : rows cs0 2 = [(0, 0, 5), (1, 0, 2), (1, 2, 3)] := by decide +kernel
theorem long0 : longest cs0 (rows cs0 1) = 2 := by decide +kernel
theorem short0 : short cs0 = [3, 0, 2] := by decide +kernel
theorem area0 : area cs0 (rows cs0 1) = 11 := by
  rw [area_eq ok0 (by omega) (by omega)]
  decide +kernel
theorem v_law : ∀ ns : List Int, ns.length ≤ 63 → t_law { nx := fun _ _ => False, rt := fun r _ => r = .d (.bool true) } (env0 N_law [.s ns]) [] := by
  intro ns hn
  have e0 : PyData.tuple [.tuple [.int 0, .int 5], .tuple [.int 0, .int 2], .tuple [.int 1, .int 1]] = encC cs0 := rfl
  simp [t_law]
  refine ⟨hn, ?_⟩
  refine ⟨cs0, 2, rfl, ok0, ⟨by omega, by omega⟩, cs0, 1, rfl, ok0, ⟨by omega, by omega⟩, cs0, rfl, ok0, cs0, 1, rfl, ok0, ⟨by omega, by omega⟩, ?_⟩
  rw [rows0, long0, short0, area0]
  simp
  refine ⟨_, rfl, shows_of rfl (by simp [enc3, PyData.depth, PyData.depthAll]) (by simp [enc3, PyData.bulk, PyData.bulkAll]), ?_⟩
  simp
  refine lc_map (J := itRng 0 4) (List.range 4) (fun j => .int (0 + (j : Nat))) (fun _ => .bool true) (fun R h => by simp; exact h) (by simp [itRng]) (fun i x h => it_rng h) (line60 (by simp)) trivial (fun j hj Z hz => ?_) ?_
  · simp
    refine ⟨rfl, fun cs hc => ?_⟩
    refine ⟨cs, rfl, hc, hz⟩
  · simp [oAll]
    exact ⟨(List.range 4).map fun _ => true, by simp [Function.comp_def], by simp⟩
theorem l_is_integer : ∀ ds Φ, sp_is_integer ds Φ → ds.length = 1 := by rintro _ Φ ⟨_, rfl, _⟩; rfl
theorem l_is_within : ∀ ds Φ, sp_is_within ds Φ → ds.length = 3 := by rintro _ Φ ⟨_, _, _, rfl, _⟩; rfl
theorem l_is_tuple_of : ∀ ds Φ, sp_is_tuple_of ds Φ → ds.length = 2 := by rintro _ Φ ⟨_, _, rfl, _⟩; rfl
theorem l_is_comer : ∀ ds Φ, sp_is_comer ds Φ → ds.length = 1 := by rintro _ Φ ⟨_, rfl, _⟩; rfl
theorem l_check_comers : ∀ ds Φ, sp_check_comers ds Φ → ds.length = 1 := by rintro _ Φ ⟨_, rfl, _⟩; rfl
theorem l_check_served : ∀ ds Φ, sp_check_served ds Φ → ds.length = 2 := by rintro _ Φ ⟨_, _, rfl, _⟩; rfl
theorem l_raw_served : ∀ ds Φ, sp_raw_served ds Φ → ds.length = 2 := by rintro _ Φ ⟨_, _, rfl, _⟩; rfl
theorem l_served : ∀ ds Φ, sp_served ds Φ → ds.length = 2 := by rintro _ Φ ⟨_, _, rfl, _⟩; rfl
theorem l_raw_waits : ∀ ds Φ, sp_raw_waits ds Φ → ds.length = 2 := by rintro _ Φ ⟨_, _, rfl, _⟩; rfl
theorem l_waits_of : ∀ ds Φ, sp_waits_of ds Φ → ds.length = 2 := by rintro _ Φ ⟨_, _, rfl, _⟩; rfl
theorem l_waiting_at : ∀ ds Φ, sp_waiting_at ds Φ → ds.length = 3 := by rintro _ Φ ⟨_, _, _, rfl, _⟩; rfl
theorem l_longest_line : ∀ ds Φ, sp_longest_line ds Φ → ds.length = 2 := by rintro _ Φ ⟨_, _, rfl, _⟩; rfl
theorem l_fewest_clerks : ∀ ds Φ, sp_fewest_clerks ds Φ → ds.length = 2 := by rintro _ Φ ⟨_, _, rfl, _⟩; rfl
theorem l_line_area : ∀ ds Φ, sp_line_area ds Φ → ds.length = 2 := by rintro _ Φ ⟨_, _, rfl, _⟩; rfl
theorem l_next_shortest : ∀ ds Φ, sp_next_shortest ds Φ → ds.length = 3 := by rintro _ Φ ⟨_, _, _, rfl, _⟩; rfl
theorem l_raw_shortest : ∀ ds Φ, sp_raw_shortest ds Φ → ds.length = 1 := by rintro _ Φ ⟨_, rfl, _⟩; rfl
theorem l_shortest_first : ∀ ds Φ, sp_shortest_first ds Φ → ds.length = 1 := by rintro _ Φ ⟨_, rfl, _⟩; rfl
theorem l_are_begins : ∀ ds Φ, sp_are_begins ds Φ → ds.length = 2 := by rintro _ Φ ⟨_, _, rfl, _⟩; rfl
theorem l_sum_of_waits : ∀ ds Φ, sp_sum_of_waits ds Φ → ds.length = 2 := by rintro _ Φ ⟨_, _, rfl, _⟩; rfl
theorem l__law_some : ∀ ds Φ, sp__law_some ds Φ → ds.length + 1 = 2 := by rintro _ Φ ⟨_, rfl, _⟩; rfl
theorem l__law_is : ∀ ds Φ, sp__law_is ds Φ → ds.length = 2 := by rintro _ Φ ⟨_, rfl, _⟩; rfl
theorem l__law_mixed : ∀ ds Φ, sp__law_mixed ds Φ → ds.length + 1 = 2 := by rintro _ Φ ⟨_, rfl, _⟩; rfl
theorem l__law_served : ∀ ds Φ, sp__law_served ds Φ → ds.length = 2 := by rintro _ Φ ⟨_, _, rfl, _⟩; rfl
theorem l__law_line : ∀ ds Φ, sp__law_line ds Φ → ds.length = 2 := by rintro _ Φ ⟨_, _, rfl, _⟩; rfl
theorem l__law_short : ∀ ds Φ, sp__law_short ds Φ → ds.length = 1 := by rintro _ Φ ⟨_, rfl, _⟩; rfl
theorem l__law_comers : ∀ ds Φ, sp__law_comers ds Φ → ds.length + 1 = 1 := by rintro _ Φ ⟨rfl, _⟩; rfl
theorem l__law_is_right : ∀ ds Φ, sp__law_is_right ds Φ → ds.length + 1 = 2 := by rintro _ Φ ⟨_, rfl, _⟩; rfl
end Q09

namespace Q09
open PySem L2 PyProof.Rows DL
open PySem.W (minD maxD)
def top (i : Nat) : Stmt := PySem.Challenge.pw_curtainrise_k09_whole_queues_of_sixty_an.main.body.getD i (.Pass ⟨0, 0, 0, 0⟩)
section
variable {P : Program} {w : World} {K : PySem.W.Frag} {mg : Str → Option Value} {base : Heap}
abbrev s_is_integer : Stmt := top 1
theorem sc_is_integer : FnScope N_is_integer ["thing"] (defScope s_is_integer) := ⟨rfl, rfl, rfl, by decide +kernel, rfl, by decide +kernel, by decide +kernel⟩
theorem w_is_integer (m_bool : mg "bool" = none) (m_int : mg "int" = none) (m_isinstance : mg "isinstance" = none) : DOk P w K mg base 0 "is_integer" s_is_integer N_is_integer t_is_integer := fun f cdv A outer s H hg hr => by
  have S := sc_is_integer
  exact (dss_one (ds_ret (de_and (de_isi (by rfl) m_isinstance (by decide) (dv 0) (by rfl) m_int bt_int) (de_one (de_not (de_isi (by rfl) m_isinstance (by decide) (dv 0) (by rfl) m_bool bt_bool))))))
abbrev s_is_within : Stmt := top 2
theorem sc_is_within : FnScope N_is_within ["thing", "least", "most"] (defScope s_is_within) := ⟨rfl, rfl, rfl, by decide +kernel, rfl, by decide +kernel, by decide +kernel⟩
theorem w_is_within (c_is_integer : Cal P w K mg base 1 "is_integer" ["thing"] (liftP K sp_is_integer)) : DOk P w K mg base 1 "is_within" s_is_within N_is_within t_is_within := fun f cdv A outer s H hg hr => by
  have S := sc_is_within
  exact (dss_one (ds_ret (de_and (de_call c_is_integer hg (hr.mono (by decide)) (da_cons (dv 0) da_nil)) (de_one (de_chain do_le do_le (dv 1) (dv 0) (dv 2) (by with_unfolding_all rfl))))))
abbrev s_is_tuple_of : Stmt := top 3
theorem sc_is_tuple_of : FnScope N_is_tuple_of ["thing", "size"] (defScope s_is_tuple_of) := ⟨rfl, rfl, rfl, by decide +kernel, rfl, by decide +kernel, by decide +kernel⟩
theorem w_is_tuple_of (m_isinstance : mg "isinstance" = none) (m_len : mg "len" = none) (m_tuple : mg "tuple" = none) : DOk P w K mg base 0 "is_tuple_of" s_is_tuple_of N_is_tuple_of t_is_tuple_of := fun f cdv A outer s H hg hr => by
  have S := sc_is_tuple_of
  exact (dss_one (ds_ret (de_and (de_isi (by rfl) m_isinstance (by decide) (dv 0) (by rfl) m_tuple bt_tuple) (de_one (de_cmp (do_eq hr.units) (de_callB do_len rfl m_len bt_len (da_cons (dv 0) da_nil)) (dv 1) (nomark _))))))
abbrev s_is_comer : Stmt := top 16
theorem sc_is_comer : FnScope N_is_comer ["thing"] (defScope s_is_comer) := ⟨rfl, rfl, rfl, by decide +kernel, rfl, by decide +kernel, by decide +kernel⟩
theorem w_is_comer (c_is_tuple_of : Cal P w K mg base 1 "is_tuple_of" ["thing", "size"] (liftP K sp_is_tuple_of)) (c_is_within : Cal P w K mg base 2 "is_within" ["thing", "least", "most"] (liftP K sp_is_within)) {t_MOST_HOUR : Tok} (g_MOST_HOUR : mg "MOST_HOUR" = some (.int 10000 t_MOST_HOUR)) {t_MOST_LENGTH : Tok} (g_MOST_LENGTH : mg "MOST_LENGTH" = some (.int 500 t_MOST_LENGTH)) : DOk P w K mg base 2 "is_comer" s_is_comer N_is_comer t_is_comer := fun f cdv A outer s H hg hr => by
  have S := sc_is_comer
  exact (dss_one (ds_ret (de_and (de_call c_is_tuple_of hg (hr.mono (by decide)) (da_cons (dv 0) (da_cons de_int da_nil))) (de_and (de_call c_is_within hg (hr.mono (by decide)) (da_cons (de_ix (u1 hr) (dv 0) de_int) (da_cons de_int (da_cons (de_gint rfl g_MOST_HOUR) da_nil)))) (de_one (de_call c_is_within hg (hr.mono (by decide)) (da_cons (de_ix (u1 hr) (dv 0) de_int) (da_cons de_int (da_cons (de_gint rfl g_MOST_LENGTH) da_nil)))))))))
abbrev s_check_comers : Stmt := top 17
theorem sc_check_comers : FnScope N_check_comers ["comers"] (defScope s_check_comers) := ⟨rfl, rfl, rfl, by decide +kernel, rfl, by decide +kernel, by decide +kernel⟩
theorem w_check_comers (c_is_comer : Cal P w K mg base 3 "is_comer" ["thing"] (liftP K sp_is_comer)) (m_all : mg "all" = none) (m_isinstance : mg "isinstance" = none) (m_len : mg "len" = none) (m_tuple : mg "tuple" = none) (m_zip : mg "zip" = none) {t_MOST_COMERS : Tok} (g_MOST_COMERS : mg "MOST_COMERS" = some (.int 60 t_MOST_COMERS)) : DOk P w K mg base 3 "check_comers" s_check_comers N_check_comers t_check_comers := fun f cdv A outer s H hg hr => by
  have S := sc_check_comers
  exact (dss_cons (ds_if (DW.dt (dw_or (dt_not (dt_val (de_isi (by rfl) m_isinstance (by decide) (dv 0) (by rfl) m_tuple bt_tuple))) (dw_or (dt_cmp do_gt (de_callB do_len rfl m_len bt_len (da_cons (dv 0) da_nil)) (de_gint rfl g_MOST_COMERS) (nomark _)) (dw_or1 (dt_not (dt_val (de_callB (do_all rfl) rfl m_all bt_all (da_cons (de_lc false [("one", 1)] rfl S.nd (di_seq (dv 0)) (by kernel_rfl) (fun _ => (dgw_name (i := 1) S.nd)) (fun _ => dts_nil) (fun _ => (de_call c_is_comer hg (hr.mono (by decide)) (da_cons (dv 1) da_nil)))) da_nil)))))))) (dss_one ds_never) dss_nil) (dss_one (ds_if (dt_not (dt_val (de_callB (do_all rfl) rfl m_all bt_all (da_cons (de_lc false [("one", 1), ("other", 2)] rfl S.nd (di_zip rfl m_zip (da_cons (dv 0) (da_cons (de_sl false (dv 0) (do_some de_int) do_none) da_nil))) (by kernel_rfl) (fun _ => (dgw_tup rfl (dgws_cons (dgw_name (i := 1) S.nd) (dgws_cons (dgw_name (i := 2) S.nd) dgws_nil)))) (fun _ => dts_nil) (fun _ => (de_cmp do_le (de_ix (u1 hr) (dv 1) de_int) (de_ix (u1 hr) (dv 2) de_int) (nomark _)))) da_nil)))) (dss_one ds_never) dss_nil)))
abbrev s_check_served : Stmt := top 18
theorem sc_check_served : FnScope N_check_served ["comers", "clerks"] (defScope s_check_served) := ⟨rfl, rfl, rfl, by decide +kernel, rfl, by decide +kernel, by decide +kernel⟩
theorem w_check_served (c_is_within : Cal P w K mg base 2 "is_within" ["thing", "least", "most"] (liftP K sp_is_within)) (c_check_comers : Cal P w K mg base 4 "check_comers" ["comers"] (liftP K sp_check_comers)) {t_MOST_CLERKS : Tok} (g_MOST_CLERKS : mg "MOST_CLERKS" = some (.int 6 t_MOST_CLERKS)) : DOk P w K mg base 4 "check_served" s_check_served N_check_served t_check_served := fun f cdv A outer s H hg hr => by
  have S := sc_check_served
  exact (dss_cons (ds_expr (de_call c_check_comers hg (hr.mono (by decide)) (da_cons (dv 0) da_nil))) (dss_one (ds_if (dt_not (dt_val (de_call c_is_within hg (hr.mono (by decide)) (da_cons (dv 1) (da_cons de_int (da_cons (de_gint rfl g_MOST_CLERKS) da_nil)))))) (dss_one ds_never) dss_nil)))
abbrev s_raw_served : Stmt := top 19
theorem sc_raw_served : FnScope N_raw_served ["comers", "clerks"] (defScope s_raw_served) := ⟨rfl, rfl, rfl, by decide +kernel, rfl, by decide +kernel, by decide +kernel⟩
theorem w_raw_served (m_enumerate : mg "enumerate" = none) (m_max : mg "max" = none) (m_min : mg "min" = none) : DOk P w K mg base 0 "raw_served" s_raw_served N_raw_served t_raw_served := fun f cdv A outer s H hg hr => by
  have S := sc_raw_served
  exact (dss_cons (ds_par (i := 2) (j := 3) rfl S.nd (da_cons (de_op (do_mul true) (de_lst false (da_cons de_int da_nil)) (dv 1)) (da_cons (de_lst true da_nil) da_nil))) (dss_cons (ds_for PassesOwn.never rfl (di_seq (dv 0)) (dg_tup rfl (dgs_cons (dg_name (i := 4) S.nd) (dgs_cons (dg_name (i := 5) S.nd) dgs_nil))) (dss_cons (ds_set (i := 6) S.nd (de_ix (u1 hr) (de_callB (do_minD rfl hr.units) rfl m_min bt_min (da_cons (de_lc false [("one", 8), ("told", 9)] rfl S.nd (di_enum rfl m_enumerate (da_cons (dv 2) da_nil)) (by kernel_rfl) (fun _ => (dgw_tup rfl (dgws_cons (dgw_name (i := 8) S.nd) (dgws_cons (dgw_name (i := 9) S.nd) dgws_nil)))) (fun _ => dts_nil) (fun _ => (de_tup (da_cons (dv 9) (da_cons (dv 8) da_nil))))) da_nil)) de_int)) (dss_cons (ds_set (i := 7) S.nd (de_callB (do_max2 rfl) rfl m_max bt_max (da_cons (dv 4) (da_cons (de_ix (u1 hr) (dv 2) (dv 6)) da_nil)))) (dss_cons (ds_asg (de_op (do_add false) (dv 7) (dv 5)) (dg_sub (u1 hr) (dv 2) (dv 6))) (dss_one (ds_expr (de_append (dv 3) (de_tup (da_cons (dv 6) (da_cons (dv 7) (da_cons (de_op (do_add false) (dv 7) (dv 5)) da_nil))))))))))) (dss_one (ds_ret (dv 3)))))
abbrev s_served : Stmt := top 20
theorem sc_served : FnScope N_served ["comers", "clerks"] (defScope s_served) := ⟨rfl, rfl, rfl, by decide +kernel, rfl, by decide +kernel, by decide +kernel⟩
theorem w_served (c_raw_served : Cal P w K mg base 1 "raw_served" ["comers", "clerks"] (liftP K sp_raw_served)) (c_check_served : Cal P w K mg base 5 "check_served" ["comers", "clerks"] (liftP K sp_check_served)) (m_tuple : mg "tuple" = none) : DOk P w K mg base 5 "served" s_served N_served t_served := fun f cdv A outer s H hg hr => by
  have S := sc_served
  exact (dss_cons (ds_expr (de_call c_check_served hg (hr.mono (by decide)) (da_cons (dv 0) (da_cons (dv 1) da_nil)))) (dss_one (ds_ret (de_callTy do_tuple rfl m_tuple bt_tuple (da_cons (de_call c_raw_served hg (hr.mono (by decide)) (da_cons (dv 0) (da_cons (dv 1) da_nil))) da_nil)))))
abbrev s_raw_waits : Stmt := top 21
theorem sc_raw_waits : FnScope N_raw_waits ["comers", "clerks"] (defScope s_raw_waits) := ⟨rfl, rfl, rfl, by decide +kernel, rfl, by decide +kernel, by decide +kernel⟩
theorem w_raw_waits (c_raw_served : Cal P w K mg base 1 "raw_served" ["comers", "clerks"] (liftP K sp_raw_served)) (m_zip : mg "zip" = none) : DOk P w K mg base 1 "raw_waits" s_raw_waits N_raw_waits t_raw_waits := fun f cdv A outer s H hg hr => by
  have S := sc_raw_waits
  exact (dss_one (ds_ret (de_lc false [("comer", 2), ("told", 3)] rfl S.nd (di_zip rfl m_zip (da_cons (dv 0) (da_cons (de_call c_raw_served hg (hr.mono (by decide)) (da_cons (dv 0) (da_cons (dv 1) da_nil))) da_nil))) (by kernel_rfl) (fun _ => (dgw_tup rfl (dgws_cons (dgw_name (i := 2) S.nd) (dgws_cons (dgw_name (i := 3) S.nd) dgws_nil)))) (fun _ => dts_nil) (fun _ => (de_op do_sub (de_ix (u1 hr) (dv 3) de_int) (de_ix (u1 hr) (dv 2) de_int))))))
abbrev s_waits_of : Stmt := top 22
theorem sc_waits_of : FnScope N_waits_of ["comers", "clerks"] (defScope s_waits_of) := ⟨rfl, rfl, rfl, by decide +kernel, rfl, by decide +kernel, by decide +kernel⟩
theorem w_waits_of (c_raw_waits : Cal P w K mg base 2 "raw_waits" ["comers", "clerks"] (liftP K sp_raw_waits)) (c_check_served : Cal P w K mg base 5 "check_served" ["comers", "clerks"] (liftP K sp_check_served)) (m_tuple : mg "tuple" = none) : DOk P w K mg base 5 "waits_of" s_waits_of N_waits_of t_waits_of := fun f cdv A outer s H hg hr => by
  have S := sc_waits_of
  exact (dss_cons (ds_expr (de_call c_check_served hg (hr.mono (by decide)) (da_cons (dv 0) (da_cons (dv 1) da_nil)))) (dss_one (ds_ret (de_callTy do_tuple rfl m_tuple bt_tuple (da_cons (de_call c_raw_waits hg (hr.mono (by decide)) (da_cons (dv 0) (da_cons (dv 1) da_nil))) da_nil)))))
abbrev s_waiting_at : Stmt := top 23
theorem sc_waiting_at : FnScope N_waiting_at ["comers", "rows", "hour"] (defScope s_waiting_at) := ⟨rfl, rfl, rfl, by decide +kernel, rfl, by decide +kernel, by decide +kernel⟩
theorem w_waiting_at (m_len : mg "len" = none) (m_zip : mg "zip" = none) : DOk P w K mg base 0 "waiting_at" s_waiting_at N_waiting_at t_waiting_at := fun f cdv A outer s H hg hr => by
  have S := sc_waiting_at
  exact (dss_one (ds_ret (de_callB do_len rfl m_len bt_len (da_cons (de_lc false [("comer", 3), ("told", 4)] rfl S.nd (di_zip rfl m_zip (da_cons (dv 0) (da_cons (dv 1) da_nil))) (by kernel_rfl) (fun _ => (dgw_tup rfl (dgws_cons (dgw_name (i := 3) S.nd) (dgws_cons (dgw_name (i := 4) S.nd) dgws_nil)))) (fun _ => (dts_one (dt_chain do_le do_lt (de_ix (u1 hr) (dv 3) de_int) (dv 2) (de_ix (u1 hr) (dv 4) de_int) (by with_unfolding_all rfl)))) (fun _ => de_int)) da_nil))))
abbrev s_longest_line : Stmt := top 24
theorem sc_longest_line : FnScope N_longest_line ["comers", "clerks"] (defScope s_longest_line) := ⟨rfl, rfl, rfl, by decide +kernel, rfl, by decide +kernel, by decide +kernel⟩
theorem w_longest_line (c_raw_served : Cal P w K mg base 1 "raw_served" ["comers", "clerks"] (liftP K sp_raw_served)) (c_waiting_at : Cal P w K mg base 1 "waiting_at" ["comers", "rows", "hour"] (liftP K sp_waiting_at)) (c_check_served : Cal P w K mg base 5 "check_served" ["comers", "clerks"] (liftP K sp_check_served)) (m_max : mg "max" = none) : DOk P w K mg base 5 "longest_line" s_longest_line N_longest_line t_longest_line := fun f cdv A outer s H hg hr => by
  have S := sc_longest_line
  exact (dss_cons (ds_expr (de_call c_check_served hg (hr.mono (by decide)) (da_cons (dv 0) (da_cons (dv 1) da_nil)))) (dss_cons (ds_set (i := 2) S.nd (de_call c_raw_served hg (hr.mono (by decide)) (da_cons (dv 0) (da_cons (dv 1) da_nil)))) (dss_one (ds_ret (de_callB (do_maxL rfl) rfl m_max bt_max (da_cons (de_op (do_add false) (de_lst false (da_cons de_int da_nil)) (de_lc false [("comer", 3)] rfl S.nd (di_seq (dv 0)) (by kernel_rfl) (fun _ => (dgw_name (i := 3) S.nd)) (fun _ => dts_nil) (fun _ => (de_call c_waiting_at hg (hr.mono (by decide)) (da_cons (dv 0) (da_cons (dv 2) (da_cons (de_ix (u1 hr) (dv 3) de_int) da_nil))))))) da_nil))))))
abbrev s_fewest_clerks : Stmt := top 25
theorem sc_fewest_clerks : FnScope N_fewest_clerks ["comers", "most"] (defScope s_fewest_clerks) := ⟨rfl, rfl, rfl, by decide +kernel, rfl, by decide +kernel, by decide +kernel⟩
theorem w_fewest_clerks (c_is_within : Cal P w K mg base 2 "is_within" ["thing", "least", "most"] (liftP K sp_is_within)) (c_raw_waits : Cal P w K mg base 2 "raw_waits" ["comers", "clerks"] (liftP K sp_raw_waits)) (c_check_comers : Cal P w K mg base 4 "check_comers" ["comers"] (liftP K sp_check_comers)) (m_max : mg "max" = none) (m_range : mg "range" = none) {t_MOST_CLERKS : Tok} (g_MOST_CLERKS : mg "MOST_CLERKS" = some (.int 6 t_MOST_CLERKS)) {t_MOST_WAIT : Tok} (g_MOST_WAIT : mg "MOST_WAIT" = some (.int 10000 t_MOST_WAIT)) : DOk P w K mg base 4 "fewest_clerks" s_fewest_clerks N_fewest_clerks t_fewest_clerks := fun f cdv A outer s H hg hr => by
  have S := sc_fewest_clerks
  exact (dss_cons (ds_expr (de_call c_check_comers hg (hr.mono (by decide)) (da_cons (dv 0) da_nil))) (dss_cons (ds_if (dt_not (dt_val (de_call c_is_within hg (hr.mono (by decide)) (da_cons (dv 1) (da_cons de_int (da_cons (de_gint rfl g_MOST_WAIT) da_nil)))))) (dss_one ds_never) dss_nil) (dss_cons (ds_for PassesOwn.never rfl (di_range2 rfl m_range (da_cons de_int (da_cons (de_op (do_add false) (de_gint rfl g_MOST_CLERKS) de_int) da_nil))) (dg_name (i := 2) S.nd) (dss_one (ds_if (dt_cmp do_le (de_callB (do_maxL rfl) rfl m_max bt_max (da_cons (de_op (do_add false) (de_lst false (da_cons de_int da_nil)) (de_call c_raw_waits hg (hr.mono (by decide)) (da_cons (dv 0) (da_cons (dv 2) da_nil)))) da_nil)) (dv 1) (nomark _)) (dss_one (ds_ret (dv 2))) dss_nil))) (dss_one (ds_ret de_non)))))
abbrev s_line_area : Stmt := top 26
theorem sc_line_area : FnScope N_line_area ["comers", "clerks"] (defScope s_line_area) := ⟨rfl, rfl, rfl, by decide +kernel, rfl, by decide +kernel, by decide +kernel⟩
theorem w_line_area (c_raw_served : Cal P w K mg base 1 "raw_served" ["comers", "clerks"] (liftP K sp_raw_served)) (c_waiting_at : Cal P w K mg base 1 "waiting_at" ["comers", "rows", "hour"] (liftP K sp_waiting_at)) (c_check_served : Cal P w K mg base 5 "check_served" ["comers", "clerks"] (liftP K sp_check_served)) (m_sorted : mg "sorted" = none) (m_zip : mg "zip" = none) : DOk P w K mg base 5 "line_area" s_line_area N_line_area t_line_area := fun f cdv A outer s H hg hr => by
  have S := sc_line_area
  exact (dss_cons (ds_expr (de_call c_check_served hg (hr.mono (by decide)) (da_cons (dv 0) (da_cons (dv 1) da_nil)))) (dss_cons (ds_set (i := 2) S.nd (de_call c_raw_served hg (hr.mono (by decide)) (da_cons (dv 0) (da_cons (dv 1) da_nil)))) (dss_cons (ds_set (i := 3) S.nd (de_callB (do_sortI false) rfl m_sorted bt_sorted (da_cons (de_op (do_add false) (de_lc false [("comer", 7)] rfl S.nd (di_seq (dv 0)) (by kernel_rfl) (fun _ => (dgw_name (i := 7) S.nd)) (fun _ => dts_nil) (fun _ => (de_ix (u1 hr) (dv 7) de_int))) (de_lc false [("told", 8)] rfl S.nd (di_seq (dv 2)) (by kernel_rfl) (fun _ => (dgw_name (i := 8) S.nd)) (fun _ => dts_nil) (fun _ => (de_ix (u1 hr) (dv 8) de_int)))) da_nil))) (dss_cons (ds_set (i := 4) S.nd de_int) (dss_cons (ds_for PassesOwn.never rfl (di_zip rfl m_zip (da_cons (dv 3) (da_cons (de_sl false (dv 3) (do_some de_int) do_none) da_nil))) (dg_tup rfl (dgs_cons (dg_name (i := 5) S.nd) (dgs_cons (dg_name (i := 6) S.nd) dgs_nil))) (dss_one (ds_addI (i := 4) S.nd (de_op (do_mul false) (de_op do_sub (dv 6) (dv 5)) (de_call c_waiting_at hg (hr.mono (by decide)) (da_cons (dv 0) (da_cons (dv 2) (da_cons (dv 5) da_nil)))))))) (dss_one (ds_ret (dv 4))))))))
abbrev s_next_shortest : Stmt := top 27
theorem sc_next_shortest : FnScope N_next_shortest ["comers", "left", "hour"] (defScope s_next_shortest) := ⟨rfl, rfl, rfl, by decide +kernel, rfl, by decide +kernel, by decide +kernel⟩
theorem w_next_shortest (m_len : mg "len" = none) (m_min : mg "min" = none) : DOk P w K mg base 0 "next_shortest" s_next_shortest N_next_shortest t_next_shortest := fun f cdv A outer s H hg hr => by
  have S := sc_next_shortest
  exact (dss_cons (ds_setLc false (i := 3) [("one", 4)] rfl S.nd (di_seq (dv 1)) (by kernel_rfl) (fun _ => (dgw_name (i := 4) S.nd)) (fun _ => (dts_one (dt_cmp do_le (de_ix (u1 hr) (de_ix (u1 hr) (dv 0) (dv 4)) de_int) (dv 2) (nomark _)))) (fun _ => (de_tup (da_cons (de_ix (u1 hr) (de_ix (u1 hr) (dv 0) (dv 4)) de_int) (da_cons (dv 4) da_nil))))) (dss_one (ds_ret (de_if (dt_cmp do_gt (de_callB do_len rfl m_len bt_len (da_cons (dv 3) da_nil)) de_int (nomark _)) (de_ix (u1 hr) (de_callB (do_minD rfl hr.units) rfl m_min bt_min (da_cons (dv 3) da_nil)) de_int) de_non))))
abbrev s_raw_shortest : Stmt := top 28
theorem sc_raw_shortest : FnScope N_raw_shortest ["comers"] (defScope s_raw_shortest) := ⟨rfl, rfl, rfl, by decide +kernel, rfl, by decide +kernel, by decide +kernel⟩
theorem w_raw_shortest (c_next_shortest : Cal P w K mg base 1 "next_shortest" ["comers", "left", "hour"] (liftP K sp_next_shortest)) (m_len : mg "len" = none) (m_list : mg "list" = none) (m_range : mg "range" = none) : DOk P w K mg base 1 "raw_shortest" s_raw_shortest N_raw_shortest t_raw_shortest := fun f cdv A outer s H hg hr => by
  have S := sc_raw_shortest
  exact (dss_cons (ds_par3 (i := 1) (j := 2) (l := 3) rfl S.nd (da_cons (de_lrg1 true rfl m_list m_range (de_callB do_len rfl m_len bt_len (da_cons (dv 0) da_nil))) (da_cons de_int (da_cons de_newK da_nil)))) (dss_cons (ds_while PassesOwn.never (dt_cmp do_gt (de_callB do_len rfl m_len bt_len (da_cons (dv 1) da_nil)) de_int (nomark _)) (dss_cons (ds_set (i := 4) S.nd (de_call c_next_shortest hg (hr.mono (by decide)) (da_cons (dv 0) (da_cons (dv 1) (da_cons (dv 2) da_nil))))) (dss_one (ds_if (dt_cmp do_is (dv 4) de_non (nomark _)) (dss_one (ds_set (i := 2) S.nd (de_ix (u1 hr) (de_ix (u1 hr) (dv 0) (de_ix (u1 hr) (dv 1) de_int)) de_int))) (dss_cons (ds_asg (dv 2) (dg_sub (u1 hr) (dv 3) (dv 4))) (dss_cons (ds_addI (i := 2) S.nd (de_ix (u1 hr) (de_ix (u1 hr) (dv 0) (dv 4)) de_int)) (dss_one (ds_expr (de_remove (dv 1) (dv 4)))))))))) (dss_one (ds_ret (dv 3)))))
abbrev s_shortest_first : Stmt := top 29
theorem sc_shortest_first : FnScope N_shortest_first ["comers"] (defScope s_shortest_first) := ⟨rfl, rfl, rfl, by decide +kernel, rfl, by decide +kernel, by decide +kernel⟩
theorem w_shortest_first (c_raw_shortest : Cal P w K mg base 2 "raw_shortest" ["comers"] (liftP K sp_raw_shortest)) (c_check_comers : Cal P w K mg base 4 "check_comers" ["comers"] (liftP K sp_check_comers)) (m_len : mg "len" = none) (m_range : mg "range" = none) (m_tuple : mg "tuple" = none) : DOk P w K mg base 4 "shortest_first" s_shortest_first N_shortest_first t_shortest_first := fun f cdv A outer s H hg hr => by
  have S := sc_shortest_first
  exact (dss_cons (ds_expr (de_call c_check_comers hg (hr.mono (by decide)) (da_cons (dv 0) da_nil))) (dss_cons (ds_set (i := 1) S.nd (de_call c_raw_shortest hg (hr.mono (by decide)) (da_cons (dv 0) da_nil))) (dss_one (ds_ret (de_callTy do_tuple rfl m_tuple bt_tuple (da_cons (de_lc false [("one", 2)] rfl S.nd (di_range1 rfl m_range (da_cons (de_callB do_len rfl m_len bt_len (da_cons (dv 0) da_nil)) da_nil)) (by kernel_rfl) (fun _ => (dgw_name (i := 2) S.nd)) (fun _ => dts_nil) (fun _ => (de_ix (u1 hr) (dv 1) (dv 2)))) da_nil))))))
abbrev s_are_begins : Stmt := top 30
theorem sc_are_begins : FnScope N_are_begins ["comers", "thing"] (defScope s_are_begins) := ⟨rfl, rfl, rfl, by decide +kernel, rfl, by decide +kernel, by decide +kernel⟩
theorem w_are_begins (c_is_integer : Cal P w K mg base 1 "is_integer" ["thing"] (liftP K sp_is_integer)) (c_is_tuple_of : Cal P w K mg base 1 "is_tuple_of" ["thing", "size"] (liftP K sp_is_tuple_of)) (m_all : mg "all" = none) (m_len : mg "len" = none) (m_zip : mg "zip" = none) : DOk P w K mg base 1 "are_begins" s_are_begins N_are_begins t_are_begins := fun f cdv A outer s H hg hr => by
  have S := sc_are_begins
  exact (dss_cons (ds_if (DW.dt (dw_or (dt_not (dt_val (de_call c_is_tuple_of hg (hr.mono (by decide)) (da_cons (dv 1) (da_cons (de_callB do_len rfl m_len bt_len (da_cons (dv 0) da_nil)) da_nil))))) (dw_or1 (dt_not (dt_val (de_callB (do_all rfl) rfl m_all bt_all (da_cons (de_lc false [("hour", 2)] rfl S.nd (di_seq (dv 1)) (by kernel_rfl) (fun _ => (dgw_name (i := 2) S.nd)) (fun _ => dts_nil) (fun _ => (de_call c_is_integer hg (hr.mono (by decide)) (da_cons (dv 2) da_nil)))) da_nil))))))) (dss_one (ds_ret de_bl)) dss_nil) (dss_one (ds_ret (de_callB (do_all rfl) rfl m_all bt_all (da_cons (de_lc false [("hour", 2), ("comer", 3)] rfl S.nd (di_zip rfl m_zip (da_cons (dv 1) (da_cons (dv 0) da_nil))) (by kernel_rfl) (fun _ => (dgw_tup rfl (dgws_cons (dgw_name (i := 2) S.nd) (dgws_cons (dgw_name (i := 3) S.nd) dgws_nil)))) (fun _ => dts_nil) (fun _ => (de_cmp do_ge (dv 2) (de_ix (u1 hr) (dv 3) de_int) (nomark _)))) da_nil)))))
abbrev s_sum_of_waits : Stmt := top 31
theorem sc_sum_of_waits : FnScope N_sum_of_waits ["comers", "begins"] (defScope s_sum_of_waits) := ⟨rfl, rfl, rfl, by decide +kernel, rfl, by decide +kernel, by decide +kernel⟩
theorem w_sum_of_waits (c_are_begins : Cal P w K mg base 2 "are_begins" ["comers", "thing"] (liftP K sp_are_begins)) (c_check_comers : Cal P w K mg base 4 "check_comers" ["comers"] (liftP K sp_check_comers)) (m_sum : mg "sum" = none) (m_zip : mg "zip" = none) : DOk P w K mg base 4 "sum_of_waits" s_sum_of_waits N_sum_of_waits t_sum_of_waits := fun f cdv A outer s H hg hr => by
  have S := sc_sum_of_waits
  exact (dss_cons (ds_expr (de_call c_check_comers hg (hr.mono (by decide)) (da_cons (dv 0) da_nil))) (dss_cons (ds_if (dt_not (dt_val (de_call c_are_begins hg (hr.mono (by decide)) (da_cons (dv 0) (da_cons (dv 1) da_nil))))) (dss_one ds_never) dss_nil) (dss_one (ds_ret (de_callB (do_sumS rfl) rfl m_sum bt_sum (da_cons (de_lc false [("hour", 2), ("comer", 3)] rfl S.nd (di_zip rfl m_zip (da_cons (dv 1) (da_cons (dv 0) da_nil))) (by kernel_rfl) (fun _ => (dgw_tup rfl (dgws_cons (dgw_name (i := 2) S.nd) (dgws_cons (dgw_name (i := 3) S.nd) dgws_nil)))) (fun _ => dts_nil) (fun _ => (de_op do_sub (dv 2) (de_ix (u1 hr) (dv 3) de_int)))) da_nil))))))
abbrev s__law_hand : Stmt := top 33
theorem sc__law_hand : FnScope N__law_hand ["script"] (defScope s__law_hand) := ⟨rfl, rfl, rfl, by decide +kernel, rfl, by decide +kernel, by decide +kernel⟩
theorem w__law_hand (m_abs : mg "abs" = none) (m_int : mg "int" = none) (m_len : mg "len" = none) : DOk P w K mg base 0 "_law_hand" s__law_hand N__law_hand t__law_hand := fun f cdv A outer s H hg hr => by
  have S := sc__law_hand
  exact (dss_cons (ds_setLc false (i := 1) [("cell", 2)] rfl S.nd (di_seq (de_sl false (dv 0) do_none (do_some de_int))) (by kernel_rfl) (fun _ => (dgw_name (i := 2) S.nd)) (fun _ => dts_nil) (fun _ => (de_op do_mod (de_callB do_abs rfl m_abs bt_abs (da_cons (de_callTy do_int rfl m_int bt_int (da_cons (dv 2) da_nil)) da_nil)) (de_op do_pow de_int de_int)))) (dss_one (ds_ret (de_lst true (da_cons (dv 1) (da_cons de_int (da_cons de_int (da_cons (de_op (do_add false) de_int (de_op (do_mul false) de_int (de_callB do_len rfl m_len bt_len (da_cons (dv 1) da_nil)))) (da_cons de_int da_nil)))))))))
abbrev s__law_draw : Stmt := top 34
theorem sc__law_draw : FnScope N__law_draw ["hand", "many"] (defScope s__law_draw) := ⟨rfl, rfl, rfl, by decide +kernel, rfl, by decide +kernel, by decide +kernel⟩
theorem w__law_draw (m_int : mg "int" = none) (m_len : mg "len" = none) : DOk P w K mg base 0 "_law_draw" s__law_draw N__law_draw t__law_draw := fun f cdv A outer s H hg hr => by
  have S := sc__law_draw
  exact (dss_cons (ds_if (DW.dt (dw_and (dt_cmp (do_eq hr.units) (de_ix (u1 hr) (dv 0) de_int) de_int (nomark _)) (dw_and1 (dt_cmp do_lt (de_ix (u1 hr) (dv 0) de_int) (de_callB do_len rfl m_len bt_len (da_cons (de_ix (u1 hr) (dv 0) de_int) da_nil)) (nomark _))))) (dss_cons (ds_set (i := 2) S.nd (de_ix (u1 hr) (de_ix (u1 hr) (dv 0) de_int) (de_ix (u1 hr) (dv 0) de_int))) (dss_cons (ds_asg (de_op (do_add false) (de_ix (u1 hr) (dv 0) de_int) de_int) (dg_sub (u1 hr) (dv 0) de_int)) (dss_cons (ds_asg (de_op do_mod (de_callTy do_int rfl m_int bt_int (da_cons (de_op (do_add false) (de_op (do_add false) (de_op (do_mul false) (de_ix (u1 hr) (dv 0) de_int) de_int) (de_op (do_mul false) (de_op do_mod (dv 2) de_int) de_int)) de_int) da_nil)) de_int) (dg_sub (u1 hr) (dv 0) de_int)) (dss_one (ds_if (dt_cmp do_ge (dv 2) (de_op do_pow de_int de_int) (nomark _)) (dss_one (ds_asg (dv 2) (dg_sub (u1 hr) (dv 0) de_int))) dss_nil))))) dss_nil) (dss_cons (ds_if (dt_cmp do_gt (de_ix (u1 hr) (dv 0) de_int) de_int (nomark _)) (dss_cons (ds_set (i := 3) S.nd (de_op do_mod (de_callTy do_int rfl m_int bt_int (da_cons (de_ix (u1 hr) (dv 0) de_int) da_nil)) (dv 1))) (dss_cons (ds_asg (de_op do_fdiv (de_callTy do_int rfl m_int bt_int (da_cons (de_ix (u1 hr) (dv 0) de_int) da_nil)) (dv 1)) (dg_sub (u1 hr) (dv 0) de_int)) (dss_one (ds_ret (dv 3))))) dss_nil) (dss_cons (ds_asg (de_op (do_add false) (de_ix (u1 hr) (dv 0) de_int) de_int) (dg_sub (u1 hr) (dv 0) de_int)) (dss_cons (ds_set (i := 4) S.nd (de_op do_mod (de_callTy do_int rfl m_int bt_int (da_cons (de_op (do_mul false) (de_callTy do_int rfl m_int bt_int (da_cons (de_op (do_add false) (de_ix (u1 hr) (dv 0) de_int) (de_op (do_mul false) de_int (de_ix (u1 hr) (dv 0) de_int))) da_nil)) de_int) da_nil)) de_int)) (dss_cons (ds_set (i := 4) S.nd (de_op do_mod (de_callTy do_int rfl m_int bt_int (da_cons (de_op (do_mul false) (dv 4) (de_op (do_add false) (de_op do_fdiv (dv 4) de_int) de_int)) da_nil)) de_int)) (dss_one (ds_ret (de_op do_mod (de_callTy do_int rfl m_int bt_int (da_cons (de_op do_fdiv (dv 4) de_int) da_nil)) (dv 1)))))))))
abbrev s__law_some : Stmt := top 35
theorem sc__law_some : FnScope N__law_some ["hand", "things"] (defScope s__law_some) := ⟨rfl, rfl, rfl, by decide +kernel, rfl, by decide +kernel, by decide +kernel⟩
theorem w__law_some (c__law_draw : Cal P w K mg base 1 "_law_draw" ["hand", "many"] (liftH K sp__law_draw)) (m_len : mg "len" = none) : DOk P w K mg base 1 "_law_some" s__law_some N__law_some t__law_some := fun f cdv A outer s H hg hr => by
  have S := sc__law_some
  exact (dss_one (ds_ret (de_ix (u1 hr) (dv 1) (de_callH c__law_draw hg (hr.mono (by decide)) (da_cons (dv 0) (da_cons (de_callB do_len rfl m_len bt_len (da_cons (dv 1) da_nil)) da_nil))))))
abbrev s__law_is : Stmt := top 36
theorem sc__law_is : FnScope N__law_is ["told", "due"] (defScope s__law_is) := ⟨rfl, rfl, rfl, by decide +kernel, rfl, by decide +kernel, by decide +kernel⟩
theorem w__law_is (m_repr : mg "repr" = none) : DOk P w K mg base 0 "_law_is" s__law_is N__law_is t__law_is := fun f cdv A outer s H hg hr => by
  have S := sc__law_is
  exact (dss_one (ds_ret (de_cmp (do_eq hr.units) (de_callB (do_repr hg hr.units) rfl m_repr bt_repr (da_cons (dv 0) da_nil)) (de_callB (do_repr hg hr.units) rfl m_repr bt_repr (da_cons (dv 1) da_nil)) (nomark _))))
abbrev s__law_mixed : Stmt := top 37
theorem sc__law_mixed : FnScope N__law_mixed ["hand", "some"] (defScope s__law_mixed) := ⟨rfl, rfl, rfl, by decide +kernel, rfl, by decide +kernel, by decide +kernel⟩
theorem w__law_mixed (c__law_draw : Cal P w K mg base 1 "_law_draw" ["hand", "many"] (liftH K sp__law_draw)) (m_len : mg "len" = none) (m_list : mg "list" = none) : DOk P w K mg base 1 "_law_mixed" s__law_mixed N__law_mixed t__law_mixed := fun f cdv A outer s H hg hr => by
  have S := sc__law_mixed
  exact (dss_cons (ds_par (i := 2) (j := 3) rfl S.nd (da_cons (de_callTy (do_list true) rfl m_list bt_list (da_cons (dv 1) da_nil)) (da_cons (de_lst true da_nil) da_nil))) (dss_cons (ds_while PassesOwn.never (dt_cmp do_gt (de_callB do_len rfl m_len bt_len (da_cons (dv 2) da_nil)) de_int (nomark _)) (dss_one (ds_expr (de_append (dv 3) (de_popAt (dv 2) (de_callH c__law_draw hg (hr.mono (by decide)) (da_cons (dv 0) (da_cons (de_callB do_len rfl m_len bt_len (da_cons (dv 2) da_nil)) da_nil)))))))) (dss_one (ds_ret (dv 3)))))
abbrev s__law_served : Stmt := top 38
theorem sc__law_served : FnScope N__law_served ["comers", "clerks"] (defScope s__law_served) := ⟨rfl, rfl, rfl, by decide +kernel, rfl, by decide +kernel, by decide +kernel⟩
theorem w__law_served (m_enumerate : mg "enumerate" = none) (m_max : mg "max" = none) (m_min : mg "min" = none) (m_tuple : mg "tuple" = none) : DOk P w K mg base 0 "_law_served" s__law_served N__law_served t__law_served := fun f cdv A outer s H hg hr => by
  have S := sc__law_served
  exact (dss_cons (ds_par (i := 2) (j := 3) rfl S.nd (da_cons (de_op (do_mul true) (de_lst false (da_cons de_int da_nil)) (dv 1)) (da_cons (de_lst true da_nil) da_nil))) (dss_cons (ds_for PassesOwn.never rfl (di_seq (dv 0)) (dg_tup rfl (dgs_cons (dg_name (i := 4) S.nd) (dgs_cons (dg_name (i := 5) S.nd) dgs_nil))) (dss_cons (ds_set (i := 6) S.nd (de_ix (u1 hr) (de_callB (do_minD rfl hr.units) rfl m_min bt_min (da_cons (de_lc false [("at", 8), ("end", 9)] rfl S.nd (di_enum rfl m_enumerate (da_cons (dv 2) da_nil)) (by kernel_rfl) (fun _ => (dgw_tup rfl (dgws_cons (dgw_name (i := 8) S.nd) (dgws_cons (dgw_name (i := 9) S.nd) dgws_nil)))) (fun _ => dts_nil) (fun _ => (de_tup (da_cons (dv 9) (da_cons (dv 8) da_nil))))) da_nil)) de_int)) (dss_cons (ds_set (i := 7) S.nd (de_callB (do_max2 rfl) rfl m_max bt_max (da_cons (de_ix (u1 hr) (dv 2) (dv 6)) (da_cons (dv 4) da_nil)))) (dss_cons (ds_asg (de_op (do_add false) (dv 7) (dv 5)) (dg_sub (u1 hr) (dv 2) (dv 6))) (dss_one (ds_expr (de_append (dv 3) (de_tup (da_cons (dv 6) (da_cons (dv 7) (da_cons (de_op (do_add false) (dv 7) (dv 5)) da_nil))))))))))) (dss_one (ds_ret (de_callTy do_tuple rfl m_tuple bt_tuple (da_cons (dv 3) da_nil))))))
abbrev s__law_line : Stmt := top 39
theorem sc__law_line : FnScope N__law_line ["comers", "rows"] (defScope s__law_line) := ⟨rfl, rfl, rfl, by decide +kernel, rfl, by decide +kernel, by decide +kernel⟩
theorem w__law_line (m_len : mg "len" = none) (m_max : mg "max" = none) (m_zip : mg "zip" = none) : DOk P w K mg base 0 "_law_line" s__law_line N__law_line t__law_line := fun f cdv A outer s H hg hr => by
  have S := sc__law_line
  exact (dss_cons (ds_set (i := 2) S.nd de_int) (dss_cons (ds_for PassesOwn.never rfl (di_seq (dv 0)) (dg_tup rfl (dgs_cons (dg_name (i := 3) S.nd) (dgs_cons (dg_name (i := 4) S.nd) dgs_nil))) (dss_one (ds_set (i := 2) S.nd (de_callB (do_max2 rfl) rfl m_max bt_max (da_cons (dv 2) (da_cons (de_callB do_len rfl m_len bt_len (da_cons (de_lc false [("came", 5), ("more", 6), ("row", 7)] rfl S.nd (di_zip rfl m_zip (da_cons (dv 0) (da_cons (dv 1) da_nil))) (by kernel_rfl) (fun _ => (dgw_tup rfl (dgws_cons (dgw_tup rfl (dgws_cons (dgw_name (i := 5) S.nd) (dgws_cons (dgw_name (i := 6) S.nd) dgws_nil))) (dgws_cons (dgw_name (i := 7) S.nd) dgws_nil)))) (fun _ => (dts_one (dt_chain do_le do_lt (dv 5) (dv 3) (de_ix (u1 hr) (dv 7) de_int) (by with_unfolding_all rfl)))) (fun _ => de_int)) da_nil)) da_nil)))))) (dss_one (ds_ret (dv 2)))))
abbrev s__law_short : Stmt := top 40
theorem sc__law_short : FnScope N__law_short ["comers"] (defScope s__law_short) := ⟨rfl, rfl, rfl, by decide +kernel, rfl, by decide +kernel, by decide +kernel⟩
theorem w__law_short (m_len : mg "len" = none) (m_list : mg "list" = none) (m_max : mg "max" = none) (m_min : mg "min" = none) (m_range : mg "range" = none) (m_tuple : mg "tuple" = none) : DOk P w K mg base 0 "_law_short" s__law_short N__law_short t__law_short := fun f cdv A outer s H hg hr => by
  have S := sc__law_short
  exact (dss_cons (ds_tup rfl (da_cons (de_lrg1 true rfl m_list m_range (de_callB do_len rfl m_len bt_len (da_cons (dv 0) da_nil))) (da_cons de_int (da_cons (de_op (do_mul true) (de_lst false (da_cons de_int da_nil)) (de_callB do_len rfl m_len bt_len (da_cons (dv 0) da_nil))) da_nil))) (dgs_cons (dg_name (i := 1) S.nd) (dgs_cons (dg_name (i := 2) S.nd) (dgs_cons (dg_name (i := 3) S.nd) dgs_nil)))) (dss_cons (ds_while PassesOwn.never (dt_cmp do_gt (de_callB do_len rfl m_len bt_len (da_cons (dv 1) da_nil)) de_int (nomark _)) (dss_cons (ds_set (i := 2) S.nd (de_callB (do_max2 rfl) rfl m_max bt_max (da_cons (dv 2) (da_cons (de_callB (do_minL rfl) rfl m_min bt_min (da_cons (de_lc false [("at", 4)] rfl S.nd (di_seq (dv 1)) (by kernel_rfl) (fun _ => (dgw_name (i := 4) S.nd)) (fun _ => dts_nil) (fun _ => (de_ix (u1 hr) (de_ix (u1 hr) (dv 0) (dv 4)) de_int))) da_nil)) da_nil)))) (dss_cons (ds_set (i := 4) S.nd (de_ix (u1 hr) (de_callB (do_minD rfl hr.units) rfl m_min bt_min (da_cons (de_lc false [("one", 5)] rfl S.nd (di_seq (dv 1)) (by kernel_rfl) (fun _ => (dgw_name (i := 5) S.nd)) (fun _ => (dts_one (dt_cmp do_le (de_ix (u1 hr) (de_ix (u1 hr) (dv 0) (dv 5)) de_int) (dv 2) (nomark _)))) (fun _ => (de_tup (da_cons (de_ix (u1 hr) (de_ix (u1 hr) (dv 0) (dv 5)) de_int) (da_cons (dv 5) da_nil))))) da_nil)) de_int)) (dss_cons (ds_asg (dv 2) (dg_sub (u1 hr) (dv 3) (dv 4))) (dss_cons (ds_set (i := 2) S.nd (de_op (do_add false) (dv 2) (de_ix (u1 hr) (de_ix (u1 hr) (dv 0) (dv 4)) de_int))) (dss_one (ds_expr (de_remove (dv 1) (dv 4))))))))) (dss_one (ds_ret (de_callTy do_tuple rfl m_tuple bt_tuple (da_cons (dv 3) da_nil))))))
abbrev s__law_comers : Stmt := top 41
theorem sc__law_comers : FnScope N__law_comers ["hand"] (defScope s__law_comers) := ⟨rfl, rfl, rfl, by decide +kernel, rfl, by decide +kernel, by decide +kernel⟩
theorem w__law_comers (c__law_draw : Cal P w K mg base 1 "_law_draw" ["hand", "many"] (liftH K sp__law_draw)) (c__law_some : Cal P w K mg base 2 "_law_some" ["hand", "things"] (liftH K sp__law_some)) (m_min : mg "min" = none) (m_range : mg "range" = none) (m_tuple : mg "tuple" = none) : DOk P w K mg base 2 "_law_comers" s__law_comers N__law_comers t__law_comers := fun f cdv A outer s H hg hr => by
  have S := sc__law_comers
  exact (dss_cons (ds_par3 (i := 1) (j := 2) (l := 3) rfl S.nd (da_cons (de_callH c__law_draw hg (hr.mono (by decide)) (da_cons (dv 0) (da_cons de_int da_nil))) (da_cons (de_callH c__law_draw hg (hr.mono (by decide)) (da_cons (dv 0) (da_cons de_int da_nil))) (da_cons (de_lst true da_nil) da_nil)))) (dss_cons (ds_for PassesOwn.never rfl (di_range1 rfl m_range (da_cons (de_callH c__law_some hg (hr.mono (by decide)) (da_cons (dv 0) (da_cons (de_lst false (da_cons de_int (da_cons de_int (da_cons de_int (da_cons de_int (da_cons de_int da_nil)))))) da_nil))) da_nil)) (dg_name (i := 4) S.nd) (dss_cons (ds_if (dt_cmp do_gt (dv 1) de_int (nomark _)) (dss_one (ds_set (i := 2) S.nd (de_op (do_add false) (dv 2) (de_callH c__law_some hg (hr.mono (by decide)) (da_cons (dv 0) (da_cons (de_lst false (da_cons de_int (da_cons de_int (da_cons de_int (da_cons (de_callH c__law_draw hg (hr.mono (by decide)) (da_cons (dv 0) (da_cons (de_ix (u1 hr) (de_lst false (da_cons de_int (da_cons de_int (da_cons de_int da_nil)))) (de_op do_sub (dv 1) de_int)) da_nil))) da_nil))))) da_nil)))))) dss_nil) (dss_one (ds_expr (de_append (dv 3) (de_tup (da_cons (de_callB (do_min2 rfl) rfl m_min bt_min (da_cons de_int (da_cons (dv 2) da_nil))) (da_cons (de_op (do_add false) de_int (de_callH c__law_draw hg (hr.mono (by decide)) (da_cons (dv 0) (da_cons (de_callH c__law_some hg (hr.mono (by decide)) (da_cons (dv 0) (da_cons (de_lst false (da_cons de_int (da_cons de_int (da_cons de_int da_nil)))) da_nil))) da_nil)))) da_nil)))))))) (dss_one (ds_ret (de_callTy do_tuple rfl m_tuple bt_tuple (da_cons (dv 3) da_nil))))))
abbrev s__law_is_right : Stmt := top 42
theorem sc__law_is_right : FnScope N__law_is_right ["hand", "comers"] (defScope s__law_is_right) := ⟨rfl, rfl, rfl, by decide +kernel, rfl, by decide +kernel, by decide +kernel⟩
theorem w__law_is_right (c__law_draw : Cal P w K mg base 1 "_law_draw" ["hand", "many"] (liftH K sp__law_draw)) (c__law_is : Cal P w K mg base 1 "_law_is" ["told", "due"] (liftP K sp__law_is)) (c__law_line : Cal P w K mg base 1 "_law_line" ["comers", "rows"] (liftP K sp__law_line)) (c__law_served : Cal P w K mg base 1 "_law_served" ["comers", "clerks"] (liftP K sp__law_served)) (c__law_short : Cal P w K mg base 1 "_law_short" ["comers"] (liftP K sp__law_short)) (c__law_mixed : Cal P w K mg base 2 "_law_mixed" ["hand", "some"] (liftH K sp__law_mixed)) (c__law_some : Cal P w K mg base 2 "_law_some" ["hand", "things"] (liftH K sp__law_some)) (c_fewest_clerks : Cal P w K mg base 5 "fewest_clerks" ["comers", "most"] (liftP K sp_fewest_clerks)) (c_shortest_first : Cal P w K mg base 5 "shortest_first" ["comers"] (liftP K sp_shortest_first)) (c_sum_of_waits : Cal P w K mg base 5 "sum_of_waits" ["comers", "begins"] (liftP K sp_sum_of_waits)) (c_line_area : Cal P w K mg base 6 "line_area" ["comers", "clerks"] (liftP K sp_line_area)) (c_longest_line : Cal P w K mg base 6 "longest_line" ["comers", "clerks"] (liftP K sp_longest_line)) (c_served : Cal P w K mg base 6 "served" ["comers", "clerks"] (liftP K sp_served)) (c_waits_of : Cal P w K mg base 6 "waits_of" ["comers", "clerks"] (liftP K sp_waits_of)) (m_any : mg "any" = none) (m_enumerate : mg "enumerate" = none) (m_len : mg "len" = none) (m_list : mg "list" = none) (m_max : mg "max" = none) (m_range : mg "range" = none) (m_sum : mg "sum" = none) (m_tuple : mg "tuple" = none) (m_zip : mg "zip" = none) : DOk P w K mg base 6 "_law_is_right" s__law_is_right N__law_is_right t__law_is_right := fun f cdv A outer s H hg hr => by
  have S := sc__law_is_right
  exact (dss_cons (ds_set (i := 2) S.nd (de_lst true da_nil)) (dss_cons (ds_for PassesOwn.never rfl (di_seq (de_tup (da_cons de_int (da_cons de_int (da_cons de_int (da_cons (de_op (do_add false) de_int (de_callH c__law_draw hg (hr.mono (by decide)) (da_cons (dv 0) (da_cons de_int da_nil)))) da_nil)))))) (dg_name (i := 3) S.nd) (dss_cons (ds_set (i := 4) S.nd (de_call c__law_served hg (hr.mono (by decide)) (da_cons (dv 1) (da_cons (dv 3) da_nil)))) (dss_cons (ds_set (i := 5) S.nd (de_callTy do_tuple rfl m_tuple bt_tuple (da_cons (de_lc false [("row", 18), ("comer", 19)] rfl S.nd (di_zip rfl m_zip (da_cons (dv 4) (da_cons (dv 1) da_nil))) (by kernel_rfl) (fun _ => (dgw_tup rfl (dgws_cons (dgw_name (i := 18) S.nd) (dgws_cons (dgw_name (i := 19) S.nd) dgws_nil)))) (fun _ => dts_nil) (fun _ => (de_op do_sub (de_ix (u1 hr) (dv 18) de_int) (de_ix (u1 hr) (dv 19) de_int)))) da_nil))) (dss_cons (ds_set (i := 6) S.nd (de_lst false (da_cons (de_call c_served hg (hr.mono (by decide)) (da_cons (dv 1) (da_cons (dv 3) da_nil))) (da_cons (de_call c_waits_of hg (hr.mono (by decide)) (da_cons (dv 1) (da_cons (dv 3) da_nil))) (da_cons (de_call c_line_area hg (hr.mono (by decide)) (da_cons (dv 1) (da_cons (dv 3) da_nil))) (da_cons (de_call c_longest_line hg (hr.mono (by decide)) (da_cons (dv 1) (da_cons (dv 3) da_nil))) da_nil)))))) (dss_cons (ds_if (dt_not (dt_val (de_call c__law_is hg (hr.mono (by decide)) (da_cons (dv 6) (da_cons (de_lst false (da_cons (dv 4) (da_cons (dv 5) (da_cons (de_callB (do_sumS rfl) rfl m_sum bt_sum (da_cons (dv 5) da_nil)) (da_cons (de_call c__law_line hg (hr.mono (by decide)) (da_cons (dv 1) (da_cons (dv 4) da_nil))) da_nil))))) da_nil))))) (dss_one (ds_ret de_bl)) dss_nil) (dss_cons (ds_set (i := 7) S.nd (de_callTy do_tuple rfl m_tuple bt_tuple (da_cons (de_lc false [("row", 18)] rfl S.nd (di_seq (dv 4)) (by kernel_rfl) (fun _ => (dgw_name (i := 18) S.nd)) (fun _ => dts_nil) (fun _ => (de_ix (u1 hr) (dv 18) de_int))) da_nil))) (dss_cons (ds_if (DW.dt (dw_and (dt_cmp (do_eq hr.units) (dv 3) de_int (nomark _)) (dw_and1 (dt_not (dt_val (de_call c__law_is hg (hr.mono (by decide)) (da_cons (de_call c_sum_of_waits hg (hr.mono (by decide)) (da_cons (dv 1) (da_cons (dv 7) da_nil))) (da_cons (de_callB (do_sumS rfl) rfl m_sum bt_sum (da_cons (dv 5) da_nil)) da_nil)))))))) (dss_one (ds_ret de_bl)) dss_nil) (dss_one (ds_expr (de_append (dv 2) (de_tup (da_cons (dv 3) (da_cons (de_callB (do_sumS rfl) rfl m_sum bt_sum (da_cons (dv 5) da_nil)) da_nil))))))))))))) (dss_cons (ds_for PassesOwn.never rfl (di_seq (dv 2)) (dg_tup rfl (dgs_cons (dg_name (i := 8) S.nd) (dgs_cons (dg_name (i := 9) S.nd) dgs_nil))) (dss_one (ds_if (dt_val (de_callB (do_any rfl) rfl m_any bt_any (da_cons (de_lc false [("more", 20), ("late", 21)] rfl S.nd (di_seq (dv 2)) (by kernel_rfl) (fun _ => (dgw_tup rfl (dgws_cons (dgw_name (i := 20) S.nd) (dgws_cons (dgw_name (i := 21) S.nd) dgws_nil)))) (fun _ => dts_nil) (fun _ => (de_and (de_cmp do_gt (dv 20) (dv 8) (nomark _)) (de_one (de_cmp do_gt (dv 21) (dv 9) (nomark _)))))) da_nil))) (dss_one (ds_ret de_bl)) dss_nil))) (dss_cons (ds_setLc false (i := 10) [("clerks", 3)] rfl S.nd (di_range2 rfl m_range (da_cons de_int (da_cons de_int da_nil))) (by kernel_rfl) (fun _ => (dgw_name (i := 3) S.nd)) (fun _ => dts_nil) (fun _ => (de_callB (do_maxL rfl) rfl m_max bt_max (da_cons (de_op (do_add false) (de_lst false (da_cons de_int da_nil)) (de_lc false [("row", 18), ("comer", 19)] rfl S.nd (di_zip rfl m_zip (da_cons (de_call c__law_served hg (hr.mono (by decide)) (da_cons (dv 1) (da_cons (dv 3) da_nil))) (da_cons (dv 1) da_nil))) (by kernel_rfl) (fun _ => (dgw_tup rfl (dgws_cons (dgw_name (i := 18) S.nd) (dgws_cons (dgw_name (i := 19) S.nd) dgws_nil)))) (fun _ => dts_nil) (fun _ => (de_op do_sub (de_ix (u1 hr) (dv 18) de_int) (de_ix (u1 hr) (dv 19) de_int))))) da_nil)))) (dss_cons (ds_for PassesOwn.never rfl (di_seq (de_tup (da_cons de_int (da_cons de_int (da_cons (de_callH c__law_some hg (hr.mono (by decide)) (da_cons (dv 0) (da_cons (dv 10) da_nil))) (da_cons (de_callB (do_max2 rfl) rfl m_max bt_max (da_cons de_int (da_cons (de_op do_sub (de_callH c__law_some hg (hr.mono (by decide)) (da_cons (dv 0) (da_cons (dv 10) da_nil))) de_int) da_nil))) da_nil)))))) (dg_name (i := 11) S.nd) (dss_cons (ds_setLc false (i := 12) [("at", 17), ("wait", 22)] rfl S.nd (di_enum rfl m_enumerate (da_cons (dv 10) da_nil)) (by kernel_rfl) (fun _ => (dgw_tup rfl (dgws_cons (dgw_name (i := 17) S.nd) (dgws_cons (dgw_name (i := 22) S.nd) dgws_nil)))) (fun _ => (dts_one (dt_cmp do_le (dv 22) (dv 11) (nomark _)))) (fun _ => (de_op (do_add false) (dv 17) de_int))) (dss_one (ds_if (DW.dt (dw_and (dt_cmp do_le (dv 11) de_int (nomark _)) (dw_and1 (dt_not (dt_val (de_call c__law_is hg (hr.mono (by decide)) (da_cons (de_call c_fewest_clerks hg (hr.mono (by decide)) (da_cons (dv 1) (da_cons (dv 11) da_nil))) (da_cons (de_if (dt_cmp do_gt (de_callB do_len rfl m_len bt_len (da_cons (dv 12) da_nil)) de_int (nomark _)) (de_ix (u1 hr) (dv 12) de_int) de_non) da_nil)))))))) (dss_one (ds_ret de_bl)) dss_nil)))) (dss_cons (ds_set (i := 13) S.nd (de_call c__law_short hg (hr.mono (by decide)) (da_cons (dv 1) da_nil))) (dss_cons (ds_set (i := 14) S.nd (de_callB (do_sumS rfl) rfl m_sum bt_sum (da_cons (de_lc false [("begin", 23), ("comer", 19)] rfl S.nd (di_zip rfl m_zip (da_cons (dv 13) (da_cons (dv 1) da_nil))) (by kernel_rfl) (fun _ => (dgw_tup rfl (dgws_cons (dgw_name (i := 23) S.nd) (dgws_cons (dgw_name (i := 19) S.nd) dgws_nil)))) (fun _ => dts_nil) (fun _ => (de_op do_sub (dv 23) (de_ix (u1 hr) (dv 19) de_int)))) da_nil))) (dss_cons (ds_if (dt_not (dt_val (de_call c__law_is hg (hr.mono (by decide)) (da_cons (de_lst false (da_cons (de_call c_shortest_first hg (hr.mono (by decide)) (da_cons (dv 1) da_nil)) (da_cons (de_call c_sum_of_waits hg (hr.mono (by decide)) (da_cons (dv 1) (da_cons (dv 13) da_nil))) da_nil))) (da_cons (de_lst false (da_cons (dv 13) (da_cons (dv 14) da_nil))) da_nil))))) (dss_one (ds_ret de_bl)) dss_nil) (dss_cons (ds_set (i := 15) S.nd (de_callTy do_tuple rfl m_tuple bt_tuple (da_cons (de_lc false [("hour", 24), ("length", 25)] rfl S.nd (di_seq (dv 1)) (by kernel_rfl) (fun _ => (dgw_tup rfl (dgws_cons (dgw_name (i := 24) S.nd) (dgws_cons (dgw_name (i := 25) S.nd) dgws_nil)))) (fun _ => dts_nil) (fun _ => (de_tup (da_cons de_int (da_cons (dv 25) da_nil))))) da_nil))) (dss_cons (ds_set (i := 7) S.nd (de_op (do_mul true) (de_lst false (da_cons de_int da_nil)) (de_callB do_len rfl m_len bt_len (da_cons (dv 15) da_nil)))) (dss_cons (ds_set (i := 16) S.nd de_int) (dss_cons (ds_for PassesOwn.never rfl (di_seq (de_callH c__law_mixed hg (hr.mono (by decide)) (da_cons (dv 0) (da_cons (de_lrg1 false rfl m_list m_range (de_callB do_len rfl m_len bt_len (da_cons (dv 15) da_nil))) da_nil)))) (dg_name (i := 17) S.nd) (dss_cons (ds_asg (dv 16) (dg_sub (u1 hr) (dv 7) (dv 17))) (dss_one (ds_set (i := 16) S.nd (de_op (do_add false) (dv 16) (de_ix (u1 hr) (de_ix (u1 hr) (dv 15) (dv 17)) de_int)))))) (dss_one (ds_ret (de_cmp do_ge (de_call c_sum_of_waits hg (hr.mono (by decide)) (da_cons (dv 15) (da_cons (de_callTy do_tuple rfl m_tuple bt_tuple (da_cons (dv 7) da_nil)) da_nil))) (de_call c_sum_of_waits hg (hr.mono (by decide)) (da_cons (dv 15) (da_cons (de_call c_shortest_first hg (hr.mono (by decide)) (da_cons (dv 15) da_nil)) da_nil))) (nomark _))))))))))))))))
abbrev s_law : Stmt := top 43
theorem sc_law : FnScope N_law ["script"] (defScope s_law) := ⟨rfl, rfl, rfl, by decide +kernel, rfl, by decide +kernel, by decide +kernel⟩
theorem w_law (c__law_hand : Cal P w K mg base 1 "_law_hand" ["script"] (liftN K 63)) (c__law_is : Cal P w K mg base 1 "_law_is" ["told", "due"] (liftP K sp__law_is)) (c__law_comers : Cal P w K mg base 3 "_law_comers" ["hand"] (liftH K sp__law_comers)) (c_shortest_first : Cal P w K mg base 5 "shortest_first" ["comers"] (liftP K sp_shortest_first)) (c_line_area : Cal P w K mg base 6 "line_area" ["comers", "clerks"] (liftP K sp_line_area)) (c_longest_line : Cal P w K mg base 6 "longest_line" ["comers", "clerks"] (liftP K sp_longest_line)) (c_served : Cal P w K mg base 6 "served" ["comers", "clerks"] (liftP K sp_served)) (c__law_is_right : Cal P w K mg base 7 "_law_is_right" ["hand", "comers"] (liftH K sp__law_is_right)) (m_all : mg "all" = none) (m_range : mg "range" = none) : DOk P w K mg base 7 "law" s_law N_law t_law := fun f cdv A outer s H hg hr => by
  have S := sc_law
  exact (dss_cons (ds_set (i := 1) S.nd (de_callN c__law_hand hg (hr.mono (by decide)) (da_cons (dv 0) da_nil))) (dss_cons (ds_set (i := 2) S.nd (de_tup (da_cons (de_tup (da_cons de_int (da_cons de_int da_nil))) (da_cons (de_tup (da_cons de_int (da_cons de_int da_nil))) (da_cons (de_tup (da_cons de_int (da_cons de_int da_nil))) da_nil))))) (dss_cons (ds_set (i := 3) S.nd (de_lst false (da_cons (de_call c_served hg (hr.mono (by decide)) (da_cons (dv 2) (da_cons de_int da_nil))) (da_cons (de_call c_longest_line hg (hr.mono (by decide)) (da_cons (dv 2) (da_cons de_int da_nil))) (da_cons (de_call c_shortest_first hg (hr.mono (by decide)) (da_cons (dv 2) da_nil)) (da_cons (de_call c_line_area hg (hr.mono (by decide)) (da_cons (dv 2) (da_cons de_int da_nil))) da_nil)))))) (dss_cons (ds_if (dt_not (dt_val (de_call c__law_is hg (hr.mono (by decide)) (da_cons (dv 3) (da_cons (de_lst false (da_cons (de_tup (da_cons (de_tup (da_cons de_int (da_cons de_int (da_cons de_int da_nil)))) (da_cons (de_tup (da_cons de_int (da_cons de_int (da_cons de_int da_nil)))) (da_cons (de_tup (da_cons de_int (da_cons de_int (da_cons de_int da_nil)))) da_nil)))) (da_cons de_int (da_cons (de_tup (da_cons de_int (da_cons de_int (da_cons de_int da_nil)))) (da_cons de_int da_nil))))) da_nil))))) (dss_one (ds_ret de_bl)) dss_nil) (dss_one (ds_ret (de_callB (do_all rfl) rfl m_all bt_all (da_cons (de_lc false [("turn", 4)] rfl S.nd (di_range1 rfl m_range (da_cons de_int da_nil)) (by kernel_rfl) (fun _ => (dgw_name (i := 4) S.nd)) (fun _ => dts_nil) (fun _ => (de_callH c__law_is_right hg (hr.mono (by decide)) (da_cons (dv 1) (da_cons (de_callH c__law_comers hg (hr.mono (by decide)) (da_cons (dv 1) da_nil)) da_nil))))) da_nil))))))))
end
end Q09

namespace Q09
open PySem L2 PyProof.Rows DL
open PySem.W (minD maxD)
open PySem.Spec
def d_is_integer : He.DefD := ⟨("is_integer", none), "is_integer", "is_integer", defArgs s_is_integer, defBody s_is_integer, defScope s_is_integer, [], []⟩
def d_is_within : He.DefD := ⟨("is_within", none), "is_within", "is_within", defArgs s_is_within, defBody s_is_within, defScope s_is_within, [], []⟩
def d_is_tuple_of : He.DefD := ⟨("is_tuple_of", none), "is_tuple_of", "is_tuple_of", defArgs s_is_tuple_of, defBody s_is_tuple_of, defScope s_is_tuple_of, [], []⟩
def d_is_comer : He.DefD := ⟨("is_comer", none), "is_comer", "is_comer", defArgs s_is_comer, defBody s_is_comer, defScope s_is_comer, [], []⟩
def d_check_comers : He.DefD := ⟨("check_comers", none), "check_comers", "check_comers", defArgs s_check_comers, defBody s_check_comers, defScope s_check_comers, [], []⟩
def d_check_served : He.DefD := ⟨("check_served", none), "check_served", "check_served", defArgs s_check_served, defBody s_check_served, defScope s_check_served, [], []⟩
def d_raw_served : He.DefD := ⟨("raw_served", none), "raw_served", "raw_served", defArgs s_raw_served, defBody s_raw_served, defScope s_raw_served, [], []⟩
def d_served : He.DefD := ⟨("served", none), "served", "served", defArgs s_served, defBody s_served, defScope s_served, [], []⟩
def d_raw_waits : He.DefD := ⟨("raw_waits", none), "raw_waits", "raw_waits", defArgs s_raw_waits, defBody s_raw_waits, defScope s_raw_waits, [], []⟩
def d_waits_of : He.DefD := ⟨("waits_of", none), "waits_of", "waits_of", defArgs s_waits_of, defBody s_waits_of, defScope s_waits_of, [], []⟩
def d_waiting_at : He.DefD := ⟨("waiting_at", none), "waiting_at", "waiting_at", defArgs s_waiting_at, defBody s_waiting_at, defScope s_waiting_at, [], []⟩
def d_longest_line : He.DefD := ⟨("longest_line", none), "longest_line", "longest_line", defArgs s_longest_line, defBody s_longest_line, defScope s_longest_line, [], []⟩
def d_fewest_clerks : He.DefD := ⟨("fewest_clerks", none), "fewest_clerks", "fewest_clerks", defArgs s_fewest_clerks, defBody s_fewest_clerks, defScope s_fewest_clerks, [], []⟩
def d_line_area : He.DefD := ⟨("line_area", none), "line_area", "line_area", defArgs s_line_area, defBody s_line_area, defScope s_line_area, [], []⟩
def d_next_shortest : He.DefD := ⟨("next_shortest", none), "next_shortest", "next_shortest", defArgs s_next_shortest, defBody s_next_shortest, defScope s_next_shortest, [], []⟩
def d_raw_shortest : He.DefD := ⟨("raw_shortest", none), "raw_shortest", "raw_shortest", defArgs s_raw_shortest, defBody s_raw_shortest, defScope s_raw_shortest, [], []⟩
def d_shortest_first : He.DefD := ⟨("shortest_first", none), "shortest_first", "shortest_first", defArgs s_shortest_first, defBody s_shortest_first, defScope s_shortest_first, [], []⟩
def d_are_begins : He.DefD := ⟨("are_begins", none), "are_begins", "are_begins", defArgs s_are_begins, defBody s_are_begins, defScope s_are_begins, [], []⟩
def d_sum_of_waits : He.DefD := ⟨("sum_of_waits", none), "sum_of_waits", "sum_of_waits", defArgs s_sum_of_waits, defBody s_sum_of_waits, defScope s_sum_of_waits, [], []⟩
def d__law_hand : He.DefD := ⟨("_law_hand", none), "_law_hand", "_law_hand", defArgs s__law_hand, defBody s__law_hand, defScope s__law_hand, [], []⟩
def d__law_draw : He.DefD := ⟨("_law_draw", none), "_law_draw", "_law_draw", defArgs s__law_draw, defBody s__law_draw, defScope s__law_draw, [], []⟩
def d__law_some : He.DefD := ⟨("_law_some", none), "_law_some", "_law_some", defArgs s__law_some, defBody s__law_some, defScope s__law_some, [], []⟩
def d__law_is : He.DefD := ⟨("_law_is", none), "_law_is", "_law_is", defArgs s__law_is, defBody s__law_is, defScope s__law_is, [], []⟩
def d__law_mixed : He.DefD := ⟨("_law_mixed", none), "_law_mixed", "_law_mixed", defArgs s__law_mixed, defBody s__law_mixed, defScope s__law_mixed, [], []⟩
def d__law_served : He.DefD := ⟨("_law_served", none), "_law_served", "_law_served", defArgs s__law_served, defBody s__law_served, defScope s__law_served, [], []⟩
def d__law_line : He.DefD := ⟨("_law_line", none), "_law_line", "_law_line", defArgs s__law_line, defBody s__law_line, defScope s__law_line, [], []⟩
def d__law_short : He.DefD := ⟨("_law_short", none), "_law_short", "_law_short", defArgs s__law_short, defBody s__law_short, defScope s__law_short, [], []⟩
def d__law_comers : He.DefD := ⟨("_law_comers", none), "_law_comers", "_law_comers", defArgs s__law_comers, defBody s__law_comers, defScope s__law_comers, [], []⟩
def d__law_is_right : He.DefD := ⟨("_law_is_right", none), "_law_is_right", "_law_is_right", defArgs s__law_is_right, defBody s__law_is_right, defScope s__law_is_right, [], []⟩
def d_law : He.DefD := ⟨("law", none), "law", "law", defArgs s_law, defBody s_law, defScope s_law, [], []⟩
def fns0 : List He.DefD := [d_is_integer, d_is_within, d_is_tuple_of, d_is_comer, d_check_comers, d_check_served, d_raw_served, d_served, d_raw_waits, d_waits_of, d_waiting_at, d_longest_line, d_fewest_clerks, d_line_area, d_next_shortest, d_raw_shortest, d_shortest_first, d_are_begins, d_sum_of_waits, d__law_hand, d__law_draw, d__law_some, d__law_is, d__law_mixed, d__law_served, d__law_line, d__law_short, d__law_comers, d__law_is_right, d_law]
def fns : List He.DefD := fns0
def fas0 : List He.Fa := [.glo "is_integer", .glo "is_within", .glo "is_tuple_of", .glo "is_comer", .glo "check_comers", .glo "check_served", .glo "raw_served", .glo "served", .glo "raw_waits", .glo "waits_of", .glo "waiting_at", .glo "longest_line", .glo "fewest_clerks", .glo "line_area", .glo "next_shortest", .glo "raw_shortest", .glo "shortest_first", .glo "are_begins", .glo "sum_of_waits", .glo "_law_hand", .glo "_law_draw", .glo "_law_some", .glo "_law_is", .glo "_law_mixed", .glo "_law_served", .glo "_law_line", .glo "_law_short", .glo "_law_comers", .glo "_law_is_right", .glo "law"]
def fas1 : List He.Fa := [.free "abs", .free "all", .free "any", .free "bool", .free "enumerate", .free "int", .free "isinstance", .free "len", .free "list", .free "max", .free "min", .free "range", .free "repr", .free "sorted", .free "sum", .free "tuple", .free "zip", .int "MOST_COMERS" 60, .int "MOST_HOUR" 10000, .int "MOST_LENGTH" 500, .int "MOST_CLERKS" 6, .int "MOST_WAIT" 10000]
def fas : List He.Fa := fas0 ++ fas1
def loose0 : List Str := ["is_integer", "is_within", "is_tuple_of", "StageError", "NoNumber", "NoComers", "NoClerks", "NoBegins", "MOST_COMERS", "MOST_HOUR", "MOST_LENGTH", "MOST_CLERKS", "MOST_WAIT", "is_comer", "check_comers", "check_served", "raw_served", "served", "raw_waits", "waits_of", "waiting_at", "longest_line", "fewest_clerks", "line_area", "next_shortest", "raw_shortest", "shortest_first", "are_begins", "sum_of_waits", "_law_hand"]
def loose1 : List Str := ["_law_draw", "_law_some", "_law_is", "_law_mixed", "_law_served", "_law_line", "_law_short", "_law_comers", "_law_is_right"]
def loose : List Str := loose0 ++ loose1
abbrev R : PySem.W.OpenRow := PySem.W.OpenLaw.row PySem.Challenge.rw_curtainrise_k09_whole_queues_of_sixty_an
abbrev hkk : PySem.W.Hook := He.hookD 4 fas fns
def obb (s : PySem.W.SharedT) : He.AlD := He.obsDG 4 fas fns (HandSHeadRun.getT s)
theorem obb_eq (s : PySem.W.SharedT) : obb s = hkk.obs s.abs := He.obsDG_eq (HandSHeadRun.getT_eq s)
theorem run (w : World) : HandSHeadRun.RunEq R (PySem.W.view R.prog [43]) hkk obb 2000 loose w := by
  intro os
  kernel_rfl
theorem facts {P : Program} {w : World} {K : PySem.W.Frag} {h : Heap} {mg : Str → Option Value} {f : Addr} (X : K.In h) (G : h.Ns mainGlobals mg) (hfa : mg ("law" : Str) = some (.ref f)) (c : He.SaysD fas fns K) : ∃ fd : FuncData, (∀ (s : Shared) (v : Value), BindsTo s fd ⟨[v], []⟩ [("script", v)]) ∧ ∀ base : Heap, K.In base → base.Ns mainGlobals mg → FnG P w K mg base 8 f fd ["script"] (spTop K 63) := by
  obtain ⟨fd_is_integer, F_is_integer⟩ := c.def_ 0 (d := d_is_integer) rfl
  obtain ⟨fd_is_within, F_is_within⟩ := c.def_ 1 (d := d_is_within) rfl
  obtain ⟨fd_is_tuple_of, F_is_tuple_of⟩ := c.def_ 2 (d := d_is_tuple_of) rfl
  obtain ⟨fd_is_comer, F_is_comer⟩ := c.def_ 3 (d := d_is_comer) rfl
  obtain ⟨fd_check_comers, F_check_comers⟩ := c.def_ 4 (d := d_check_comers) rfl
  obtain ⟨fd_check_served, F_check_served⟩ := c.def_ 5 (d := d_check_served) rfl
  obtain ⟨fd_raw_served, F_raw_served⟩ := c.def_ 6 (d := d_raw_served) rfl
  obtain ⟨fd_served, F_served⟩ := c.def_ 7 (d := d_served) rfl
  obtain ⟨fd_raw_waits, F_raw_waits⟩ := c.def_ 8 (d := d_raw_waits) rfl
  obtain ⟨fd_waits_of, F_waits_of⟩ := c.def_ 9 (d := d_waits_of) rfl
  obtain ⟨fd_waiting_at, F_waiting_at⟩ := c.def_ 10 (d := d_waiting_at) rfl
  obtain ⟨fd_longest_line, F_longest_line⟩ := c.def_ 11 (d := d_longest_line) rfl
  obtain ⟨fd_fewest_clerks, F_fewest_clerks⟩ := c.def_ 12 (d := d_fewest_clerks) rfl
  obtain ⟨fd_line_area, F_line_area⟩ := c.def_ 13 (d := d_line_area) rfl
  obtain ⟨fd_next_shortest, F_next_shortest⟩ := c.def_ 14 (d := d_next_shortest) rfl
  obtain ⟨fd_raw_shortest, F_raw_shortest⟩ := c.def_ 15 (d := d_raw_shortest) rfl
  obtain ⟨fd_shortest_first, F_shortest_first⟩ := c.def_ 16 (d := d_shortest_first) rfl
  obtain ⟨fd_are_begins, F_are_begins⟩ := c.def_ 17 (d := d_are_begins) rfl
  obtain ⟨fd_sum_of_waits, F_sum_of_waits⟩ := c.def_ 18 (d := d_sum_of_waits) rfl
  obtain ⟨fd__law_hand, F__law_hand⟩ := c.def_ 19 (d := d__law_hand) rfl
  obtain ⟨fd__law_draw, F__law_draw⟩ := c.def_ 20 (d := d__law_draw) rfl
  obtain ⟨fd__law_some, F__law_some⟩ := c.def_ 21 (d := d__law_some) rfl
  obtain ⟨fd__law_is, F__law_is⟩ := c.def_ 22 (d := d__law_is) rfl
  obtain ⟨fd__law_mixed, F__law_mixed⟩ := c.def_ 23 (d := d__law_mixed) rfl
  obtain ⟨fd__law_served, F__law_served⟩ := c.def_ 24 (d := d__law_served) rfl
  obtain ⟨fd__law_line, F__law_line⟩ := c.def_ 25 (d := d__law_line) rfl
  obtain ⟨fd__law_short, F__law_short⟩ := c.def_ 26 (d := d__law_short) rfl
  obtain ⟨fd__law_comers, F__law_comers⟩ := c.def_ 27 (d := d__law_comers) rfl
  obtain ⟨fd__law_is_right, F__law_is_right⟩ := c.def_ 28 (d := d__law_is_right) rfl
  obtain ⟨fd_law, F_law⟩ := c.def_ 29 (d := d_law) rfl
  have m_abs := He.free_ok X G (c.fact 30 (f := .free "abs") rfl)
  have m_all := He.free_ok X G (c.fact 31 (f := .free "all") rfl)
  have m_any := He.free_ok X G (c.fact 32 (f := .free "any") rfl)
  have m_bool := He.free_ok X G (c.fact 33 (f := .free "bool") rfl)
  have m_enumerate := He.free_ok X G (c.fact 34 (f := .free "enumerate") rfl)
  have m_int := He.free_ok X G (c.fact 35 (f := .free "int") rfl)
  have m_isinstance := He.free_ok X G (c.fact 36 (f := .free "isinstance") rfl)
  have m_len := He.free_ok X G (c.fact 37 (f := .free "len") rfl)
  have m_list := He.free_ok X G (c.fact 38 (f := .free "list") rfl)
  have m_max := He.free_ok X G (c.fact 39 (f := .free "max") rfl)
  have m_min := He.free_ok X G (c.fact 40 (f := .free "min") rfl)
  have m_range := He.free_ok X G (c.fact 41 (f := .free "range") rfl)
  have m_repr := He.free_ok X G (c.fact 42 (f := .free "repr") rfl)
  have m_sorted := He.free_ok X G (c.fact 43 (f := .free "sorted") rfl)
  have m_sum := He.free_ok X G (c.fact 44 (f := .free "sum") rfl)
  have m_tuple := He.free_ok X G (c.fact 45 (f := .free "tuple") rfl)
  have m_zip := He.free_ok X G (c.fact 46 (f := .free "zip") rfl)
  obtain ⟨t_MOST_COMERS, g_MOST_COMERS⟩ := He.int_ok X G (c.fact 47 (f := .int "MOST_COMERS" 60) rfl)
  obtain ⟨t_MOST_HOUR, g_MOST_HOUR⟩ := He.int_ok X G (c.fact 48 (f := .int "MOST_HOUR" 10000) rfl)
  obtain ⟨t_MOST_LENGTH, g_MOST_LENGTH⟩ := He.int_ok X G (c.fact 49 (f := .int "MOST_LENGTH" 500) rfl)
  obtain ⟨t_MOST_CLERKS, g_MOST_CLERKS⟩ := He.int_ok X G (c.fact 50 (f := .int "MOST_CLERKS" 6) rfl)
  obtain ⟨t_MOST_WAIT, g_MOST_WAIT⟩ := He.int_ok X G (c.fact 51 (f := .int "MOST_WAIT" 10000) rfl)
  have e := hfa.symm.trans (He.glo_ok X G (c.fact 29 (f := .glo "law") rfl))
  cases e
  have bl := FunD.bindsA (ps := ["script"]) F_law fun _ _ _ _ _ _ us hl => match us, hl with | [_], _ => rfl
  refine ⟨fd_law, fun s v => bl s [v] rfl, fun base _ _ => ?_⟩
  have c_is_integer := cal_pure (P := P) (w := w) (base := base) F_is_integer sc_is_integer (He.glo_ok X G (c.fact 0 (f := .glo "is_integer") rfl)) (F_is_integer.bindsN fun _ _ _ _ _ _ us hl => match us, hl with | [_], _ => rfl) (w_is_integer m_bool m_int m_isinstance) l_is_integer v_is_integer
  have c_is_tuple_of := cal_pure (P := P) (w := w) (base := base) F_is_tuple_of sc_is_tuple_of (He.glo_ok X G (c.fact 2 (f := .glo "is_tuple_of") rfl)) (F_is_tuple_of.bindsN fun _ _ _ _ _ _ us hl => match us, hl with | [_, _], _ => rfl) (w_is_tuple_of m_isinstance m_len m_tuple) l_is_tuple_of v_is_tuple_of
  have c_raw_served := cal_pure (P := P) (w := w) (base := base) F_raw_served sc_raw_served (He.glo_ok X G (c.fact 6 (f := .glo "raw_served") rfl)) (F_raw_served.bindsN fun _ _ _ _ _ _ us hl => match us, hl with | [_, _], _ => rfl) (w_raw_served m_enumerate m_max m_min) l_raw_served v_raw_served
  have c_waiting_at := cal_pure (P := P) (w := w) (base := base) F_waiting_at sc_waiting_at (He.glo_ok X G (c.fact 10 (f := .glo "waiting_at") rfl)) (F_waiting_at.bindsN fun _ _ _ _ _ _ us hl => match us, hl with | [_, _, _], _ => rfl) (w_waiting_at m_len m_zip) l_waiting_at v_waiting_at
  have c_next_shortest := cal_pure (P := P) (w := w) (base := base) F_next_shortest sc_next_shortest (He.glo_ok X G (c.fact 14 (f := .glo "next_shortest") rfl)) (F_next_shortest.bindsN fun _ _ _ _ _ _ us hl => match us, hl with | [_, _, _], _ => rfl) (w_next_shortest m_len m_min) l_next_shortest v_next_shortest
  have c__law_hand := cal_new (P := P) (w := w) (base := base) F__law_hand sc__law_hand (He.glo_ok X G (c.fact 19 (f := .glo "_law_hand") rfl)) (F__law_hand.bindsN fun _ _ _ _ _ _ us hl => match us, hl with | [_], _ => rfl) (w__law_hand m_abs m_int m_len) v__law_hand
  have c__law_draw := cal_draw (P := P) (w := w) (base := base) F__law_draw sc__law_draw (He.glo_ok X G (c.fact 20 (f := .glo "_law_draw") rfl)) (F__law_draw.bindsN fun _ _ _ _ _ _ us hl => match us, hl with | [_, _], _ => rfl) (w__law_draw m_int m_len) l__law_draw v__law_draw
  have c__law_is := cal_pure (P := P) (w := w) (base := base) F__law_is sc__law_is (He.glo_ok X G (c.fact 22 (f := .glo "_law_is") rfl)) (F__law_is.bindsN fun _ _ _ _ _ _ us hl => match us, hl with | [_, _], _ => rfl) (w__law_is m_repr) l__law_is v__law_is
  have c__law_served := cal_pure (P := P) (w := w) (base := base) F__law_served sc__law_served (He.glo_ok X G (c.fact 24 (f := .glo "_law_served") rfl)) (F__law_served.bindsN fun _ _ _ _ _ _ us hl => match us, hl with | [_, _], _ => rfl) (w__law_served m_enumerate m_max m_min m_tuple) l__law_served v__law_served
  have c__law_line := cal_pure (P := P) (w := w) (base := base) F__law_line sc__law_line (He.glo_ok X G (c.fact 25 (f := .glo "_law_line") rfl)) (F__law_line.bindsN fun _ _ _ _ _ _ us hl => match us, hl with | [_, _], _ => rfl) (w__law_line m_len m_max m_zip) l__law_line v__law_line
  have c__law_short := cal_pure (P := P) (w := w) (base := base) F__law_short sc__law_short (He.glo_ok X G (c.fact 26 (f := .glo "_law_short") rfl)) (F__law_short.bindsN fun _ _ _ _ _ _ us hl => match us, hl with | [_], _ => rfl) (w__law_short m_len m_list m_max m_min m_range m_tuple) l__law_short v__law_short
  have c_is_within := cal_pure (P := P) (w := w) (base := base) F_is_within sc_is_within (He.glo_ok X G (c.fact 1 (f := .glo "is_within") rfl)) (F_is_within.bindsN fun _ _ _ _ _ _ us hl => match us, hl with | [_, _, _], _ => rfl) (w_is_within c_is_integer) l_is_within v_is_within
  have c_raw_waits := cal_pure (P := P) (w := w) (base := base) F_raw_waits sc_raw_waits (He.glo_ok X G (c.fact 8 (f := .glo "raw_waits") rfl)) (F_raw_waits.bindsN fun _ _ _ _ _ _ us hl => match us, hl with | [_, _], _ => rfl) (w_raw_waits c_raw_served m_zip) l_raw_waits v_raw_waits
  have c_raw_shortest := cal_pure (P := P) (w := w) (base := base) F_raw_shortest sc_raw_shortest (He.glo_ok X G (c.fact 15 (f := .glo "raw_shortest") rfl)) (F_raw_shortest.bindsN fun _ _ _ _ _ _ us hl => match us, hl with | [_], _ => rfl) (w_raw_shortest c_next_shortest m_len m_list m_range) l_raw_shortest v_raw_shortest
  have c_are_begins := cal_pure (P := P) (w := w) (base := base) F_are_begins sc_are_begins (He.glo_ok X G (c.fact 17 (f := .glo "are_begins") rfl)) (F_are_begins.bindsN fun _ _ _ _ _ _ us hl => match us, hl with | [_, _], _ => rfl) (w_are_begins c_is_integer c_is_tuple_of m_all m_len m_zip) l_are_begins v_are_begins
  have c__law_some := cal_hand (P := P) (w := w) (base := base) F__law_some sc__law_some (He.glo_ok X G (c.fact 21 (f := .glo "_law_some") rfl)) (F__law_some.bindsN fun _ _ _ _ _ _ us hl => match us, hl with | [_, _], _ => rfl) (w__law_some c__law_draw m_len) l__law_some v__law_some
  have c__law_mixed := cal_hand (P := P) (w := w) (base := base) F__law_mixed sc__law_mixed (He.glo_ok X G (c.fact 23 (f := .glo "_law_mixed") rfl)) (F__law_mixed.bindsN fun _ _ _ _ _ _ us hl => match us, hl with | [_, _], _ => rfl) (w__law_mixed c__law_draw m_len m_list) l__law_mixed v__law_mixed
  have c_is_comer := cal_pure (P := P) (w := w) (base := base) F_is_comer sc_is_comer (He.glo_ok X G (c.fact 3 (f := .glo "is_comer") rfl)) (F_is_comer.bindsN fun _ _ _ _ _ _ us hl => match us, hl with | [_], _ => rfl) (w_is_comer c_is_tuple_of c_is_within g_MOST_HOUR g_MOST_LENGTH) l_is_comer v_is_comer
  have c__law_comers := cal_hand (P := P) (w := w) (base := base) F__law_comers sc__law_comers (He.glo_ok X G (c.fact 27 (f := .glo "_law_comers") rfl)) (F__law_comers.bindsN fun _ _ _ _ _ _ us hl => match us, hl with | [_], _ => rfl) (w__law_comers c__law_draw c__law_some m_min m_range m_tuple) l__law_comers v__law_comers
  have c_check_comers := cal_pure (P := P) (w := w) (base := base) F_check_comers sc_check_comers (He.glo_ok X G (c.fact 4 (f := .glo "check_comers") rfl)) (F_check_comers.bindsN fun _ _ _ _ _ _ us hl => match us, hl with | [_], _ => rfl) (w_check_comers c_is_comer m_all m_isinstance m_len m_tuple m_zip g_MOST_COMERS) l_check_comers v_check_comers
  have c_check_served := cal_pure (P := P) (w := w) (base := base) F_check_served sc_check_served (He.glo_ok X G (c.fact 5 (f := .glo "check_served") rfl)) (F_check_served.bindsN fun _ _ _ _ _ _ us hl => match us, hl with | [_, _], _ => rfl) (w_check_served c_is_within c_check_comers g_MOST_CLERKS) l_check_served v_check_served
  have c_fewest_clerks := cal_pure (P := P) (w := w) (base := base) F_fewest_clerks sc_fewest_clerks (He.glo_ok X G (c.fact 12 (f := .glo "fewest_clerks") rfl)) (F_fewest_clerks.bindsN fun _ _ _ _ _ _ us hl => match us, hl with | [_, _], _ => rfl) (w_fewest_clerks c_is_within c_raw_waits c_check_comers m_max m_range g_MOST_CLERKS g_MOST_WAIT) l_fewest_clerks v_fewest_clerks
  have c_shortest_first := cal_pure (P := P) (w := w) (base := base) F_shortest_first sc_shortest_first (He.glo_ok X G (c.fact 16 (f := .glo "shortest_first") rfl)) (F_shortest_first.bindsN fun _ _ _ _ _ _ us hl => match us, hl with | [_], _ => rfl) (w_shortest_first c_raw_shortest c_check_comers m_len m_range m_tuple) l_shortest_first v_shortest_first
  have c_sum_of_waits := cal_pure (P := P) (w := w) (base := base) F_sum_of_waits sc_sum_of_waits (He.glo_ok X G (c.fact 18 (f := .glo "sum_of_waits") rfl)) (F_sum_of_waits.bindsN fun _ _ _ _ _ _ us hl => match us, hl with | [_, _], _ => rfl) (w_sum_of_waits c_are_begins c_check_comers m_sum m_zip) l_sum_of_waits v_sum_of_waits
  have c_served := cal_pure (P := P) (w := w) (base := base) F_served sc_served (He.glo_ok X G (c.fact 7 (f := .glo "served") rfl)) (F_served.bindsN fun _ _ _ _ _ _ us hl => match us, hl with | [_, _], _ => rfl) (w_served c_raw_served c_check_served m_tuple) l_served v_served
  have c_waits_of := cal_pure (P := P) (w := w) (base := base) F_waits_of sc_waits_of (He.glo_ok X G (c.fact 9 (f := .glo "waits_of") rfl)) (F_waits_of.bindsN fun _ _ _ _ _ _ us hl => match us, hl with | [_, _], _ => rfl) (w_waits_of c_raw_waits c_check_served m_tuple) l_waits_of v_waits_of
  have c_longest_line := cal_pure (P := P) (w := w) (base := base) F_longest_line sc_longest_line (He.glo_ok X G (c.fact 11 (f := .glo "longest_line") rfl)) (F_longest_line.bindsN fun _ _ _ _ _ _ us hl => match us, hl with | [_, _], _ => rfl) (w_longest_line c_raw_served c_waiting_at c_check_served m_max) l_longest_line v_longest_line
  have c_line_area := cal_pure (P := P) (w := w) (base := base) F_line_area sc_line_area (He.glo_ok X G (c.fact 13 (f := .glo "line_area") rfl)) (F_line_area.bindsN fun _ _ _ _ _ _ us hl => match us, hl with | [_, _], _ => rfl) (w_line_area c_raw_served c_waiting_at c_check_served m_sorted m_zip) l_line_area v_line_area
  have c__law_is_right := cal_hand (P := P) (w := w) (base := base) F__law_is_right sc__law_is_right (He.glo_ok X G (c.fact 28 (f := .glo "_law_is_right") rfl)) (F__law_is_right.bindsN fun _ _ _ _ _ _ us hl => match us, hl with | [_, _], _ => rfl) (w__law_is_right c__law_draw c__law_is c__law_line c__law_served c__law_short c__law_mixed c__law_some c_fewest_clerks c_shortest_first c_sum_of_waits c_line_area c_longest_line c_served c_waits_of m_any m_enumerate m_len m_list m_max m_range m_sum m_tuple m_zip) l__law_is_right v__law_is_right
  exact fn_law F_law sc_law (w_law c__law_hand c__law_is c__law_comers c_shortest_first c_line_area c_longest_line c_served c__law_is_right m_all m_range) v_law
end Q09
open PySem PySem.W PySem.Calls PyProof.Rows
set_option maxHeartbeats 0 in
theorem PySem.Challenge.cw_curtainrise_k09_whole_queues_of_sixty_an_holds : PySem.Challenge.rw_curtainrise_k09_whole_queues_of_sixty_an.Holds := by
  w_on; o_law
  refine HandSHeadRun.head_any (r := PySem.W.OpenLaw.row PySem.Challenge.rw_curtainrise_k09_whole_queues_of_sixty_an) (q := PySem.W.view (PySem.W.OpenLaw.row PySem.Challenge.rw_curtainrise_k09_whole_queues_of_sixty_an).prog [43]) (H := Q09.hkk) (ob := Q09.obb) (M := 2000) (loose := Q09.loose) (d := HandSHeadRun.topDef (PySem.W.OpenLaw.row PySem.Challenge.rw_curtainrise_k09_whole_queues_of_sixty_an).prog 43) (kwd := [])
    Q09.obb_eq (by kernel_rfl) (fun s => by kernel_rfl) Q09.run (by kernel_rfl) (by kernel_rfl) (by kernel_rfl) (by rfl)
    (by first | assumption | decide +kernel) (by decide +kernel) ⟨rfl, rfl, rfl, rfl, rfl, by decide +kernel⟩ ?hw ?hc
  case hw => w_witness2
  case hc =>
    refine DL.walk_top (l := PySem.Challenge.rw_curtainrise_k09_whole_queues_of_sixty_an) (n := 63) (k := 8) (x := "script") rfl (by decide) (by kernel_rfl) ⟨rfl, by decide, by decide⟩ ?F
    intro w mg fa h Y G mg0
    obtain ⟨K, KX, c⟩ := Y
    have mg1 : mg ("law" : PySem.Str) = some (.ref fa) := by
      have e : (HandSHeadRun.topDef (PySem.W.OpenLaw.row PySem.Challenge.rw_curtainrise_k09_whole_queues_of_sixty_an).prog 43).name = ("law" : PySem.Str) := by kernel_rfl
      rw [← e]
      exact mg0
    obtain ⟨fd, hb, hF⟩ := Q09.facts (P := (PySem.Challenge.rw_curtainrise_k09_whole_queues_of_sixty_an).prog) (w := w) KX G mg1 c
    exact ⟨K, fd, KX, hb, hF⟩

