import PyProof.Rows.All
import Wide.All
import OpenK.AllK
import Wide.FinOn
import HandS.ForMost
import HandS.Exc
import KE.KDictKeyed
import HandS.TupAny
import HandS.Wide
import HandS.Deep
import HandS.Flow
import PyProof.Rows.InDataRows
import KE.SortData
import KE.DataMinMax
import HandS.Text
import HandS.TupLen
import HandS.More
import HandS.ExcOwn
import HandS.CallSlots
import HandS.Comp
import HandS.Iter
import HandS.IsInst
import PyProof.DictFindH
import PyProof.DictDisplay
import PyProof.EvalArms
import HandS.TryOnly
import HandS.TryMany
import HandS.ExcField
import HandS.ExcInit
import HandS.WordsExc
import HandS.Defaults
import HandS.HeadHook2
import HandS.Ends
import HandS.Head0
import HandS.Head1
import HandS.Head2
import PySem.Challenge.RW_rowferry_k48_numbered_orders
set_option Elab.async false
set_option linter.all false
set_option maxRecDepth 100000
set_option maxHeartbeats 4000000
set_option autoImplicit false
/-! FL1: plain values, objects by number, results; how they lie in the model's heap. -/
namespace FL
open PySem PySem.Spec PyProof.Rows L2

/-- a plain value: tuples by value, changing objects by number -/
inductive PV where
  | non | bl (b : Bool) | int (i : Int) | str (x : List Char) | tup (xs : List PV) | ref (n : Nat)
  | exc (c : Str) (xs : List PV)
  deriving Inhabited

theorem PV.ind {P : PV → Prop} (non : P .non) (bl : ∀ b, P (.bl b)) (int : ∀ i, P (.int i)) (str : ∀ x, P (.str x))
    (tup : ∀ xs, (∀ x ∈ xs, P x) → P (.tup xs)) (ref : ∀ n, P (.ref n)) (exc : ∀ c xs, (∀ x ∈ xs, P x) → P (.exc c xs)) (p : PV) : P p :=
  PV.rec (motive_1 := P) (motive_2 := fun xs => ∀ x ∈ xs, P x) non bl int str (fun xs h => tup xs h) ref (fun c xs h => exc c xs h)
    (fun _ h => absurd h (by simp)) (fun x xs hx hxs y hy => by
      rcases List.mem_cons.mp hy with rfl | hy
      · exact hx
      · exact hxs y hy) p

def S (l : List Char) : Str := ⟨(l.map Char.toNat).toArray⟩
theorem S_cps (l : List Char) : (S l).cps.toList = l.map Char.toNat := by simp [S]
theorem toNat_inj {a b : Char} (h : a.toNat = b.toNat) : a = b := Char.toNat_inj.mp h
theorem map_toNat_inj : ∀ {l m : List Char}, l.map Char.toNat = m.map Char.toNat → l = m
  | [], [], _ => rfl
  | [], _ :: _, h => by simp at h
  | _ :: _, [], h => by simp at h
  | a :: l, b :: m, h => by
    simp only [List.map_cons, List.cons.injEq] at h
    rw [toNat_inj h.1, map_toNat_inj h.2]
theorem S_inj {l m : List Char} (h : S l = S m) : l = m := by
  have := congrArg (fun x : Str => x.cps.toList) h
  simp only [S_cps] at this
  exact map_toNat_inj this
theorem S_eq {l m : List Char} : S l = S m ↔ l = m := ⟨S_inj, fun h => by rw [h]⟩
theorem S_length (l : List Char) : (S l).length = l.length := by simp [S, Str.length]

/-- objects that change -/
inductive MO where
  | lst (xs : List PV)
  | rls (xs : List PV)
  | dct (kvs : List (PV × PV))
  | dtp (kvs : List (PV × PV))
  deriving Inhabited
abbrev MH := List MO
def MO.wr : MO → Bool
  | .rls _ => false
  | _ => true

structure Exc where
  cls : Str
  args : List PV
  deriving Inhabited

inductive Res (α : Type) where
  | ok (a : α) (h : MH)
  | exc (c : Exc) (h : MH)
  | bad
abbrev M (α : Type) := MH → Res α
namespace M
def ret {α : Type} (a : α) : M α := fun h => .ok a h
def bad {α : Type} : M α := fun _ => .bad
def rz {α : Type} (c : Exc) : M α := fun h => .exc c h
def bind {α β : Type} (m : M α) (k : α → M β) : M β := fun h => match m h with
  | .ok a h' => k a h'
  | .exc c h' => .exc c h'
  | .bad => .bad
end M
instance : Monad M where
  pure := M.ret
  bind := M.bind
theorem bind_eq {α β : Type} (m : M α) (k : α → M β) (h : MH) : (m >>= k) h = match m h with
  | .ok a h' => k a h'
  | .exc c h' => .exc c h'
  | .bad => .bad := rfl
theorem pure_eq {α : Type} (a : α) (h : MH) : (pure a : M α) h = .ok a h := rfl

abbrev Fr := List (Option PV)

/-! ### a plain value and the layer's value -/
mutual
def Rv (K : PySem.W.Frag) (H : Hp) (ad : List Addr) : PV → V → Prop
  | .non, v => v = .non
  | .bl b, v => v = .bl b
  | .int i, v => v = .int i
  | .str l, v => v = .str (S l)
  | .tup ps, v => ∃ a vs, v = .ref a ∧ SqT K H a vs ∧ Rvs K H ad ps vs
  | .ref n, v => ∃ a, v = .ref a ∧ ad[n]? = some a
  | .exc _ _, v => ∃ a, v = .ref a
def Rvs (K : PySem.W.Frag) (H : Hp) (ad : List Addr) : List PV → List V → Prop
  | [], vs => vs = []
  | p :: ps, vs => ∃ v r, vs = v :: r ∧ Rv K H ad p v ∧ Rvs K H ad ps r
end

structure Ext (H : Hp) (ad : List Addr) (H' : Hp) (ad' : List Addr) : Prop where
  tups : ∀ b xs, H b = some (.tup xs) → H' b = some (.tup xs)
  frzs : ∀ b o u, H b = some (.frz o u) → H' b = some (.frz o u)
  xds : ∀ b fs, H b = some (.xd fs) → H' b = some (.xd fs)
  pre : ad <+: ad'
theorem Ext.refl (H : Hp) (ad : List Addr) : Ext H ad H ad := ⟨fun _ _ h => h, fun _ _ _ h => h, fun _ _ h => h, List.prefix_refl _⟩
theorem Ext.trans {H H1 H2 : Hp} {ad ad1 ad2 : List Addr} (a : Ext H ad H1 ad1) (b : Ext H1 ad1 H2 ad2) : Ext H ad H2 ad2 :=
  ⟨fun c xs h => b.tups c xs (a.tups c xs h), fun c o u h => b.frzs c o u (a.frzs c o u h), fun c fs h => b.xds c fs (a.xds c fs h), a.pre.trans b.pre⟩
theorem get_prefix {α : Type} {l l' : List α} (h : l <+: l') {n : Nat} {a : α} (e : l[n]? = some a) : l'[n]? = some a := by
  obtain ⟨t, rfl⟩ := h
  rw [List.getElem?_append_left (List.getElem?_eq_some_iff.mp e).1]; exact e
section
variable {K : PySem.W.Frag} {H H' : Hp} {ad ad' : List Addr}
theorem Ext.sqt (x : Ext H ad H' ad') {a : Addr} {vs : List V} (h : SqT K H a vs) : SqT K H' a vs := by
  rcases h with (h | ⟨o, h⟩) | h
  · exact .inl (.inl (x.tups _ _ h))
  · exact .inl (.inr ⟨o, x.frzs _ _ _ h⟩)
  · exact .inr h
theorem Rv.mono (x : Ext H ad H' ad') : ∀ (p : PV) (v : V), Rv K H ad p v → Rv K H' ad' p v := by
  intro p
  induction p using PV.ind with
  | non => intro v h; simpa [Rv] using h
  | bl b => intro v h; simpa [Rv] using h
  | int i => intro v h; simpa [Rv] using h
  | str l => intro v h; simpa [Rv] using h
  | ref n => intro v h; simp only [Rv] at h ⊢; obtain ⟨a, e, g⟩ := h; exact ⟨a, e, get_prefix x.pre g⟩
  | exc c xs _ => intro v h; simpa [Rv] using h
  | tup xs ih =>
    intro v h
    simp only [Rv] at h ⊢
    obtain ⟨a, vs, e, hs, hr⟩ := h
    refine ⟨a, vs, e, x.sqt hs, ?_⟩
    clear hs e
    induction xs generalizing vs with
    | nil => simpa [Rvs] using hr
    | cons y ys ihy =>
      simp only [Rvs] at hr ⊢
      obtain ⟨w, r, e, h1, h2⟩ := hr
      exact ⟨w, r, e, ih y (by simp) w h1, ihy (fun z hz => ih z (by simp [hz])) r h2⟩
theorem Rvs.mono (x : Ext H ad H' ad') : ∀ (ps : List PV) (vs : List V), Rvs K H ad ps vs → Rvs K H' ad' ps vs
  | [], vs, h => by simpa [Rvs] using h
  | p :: ps, vs, h => by
    simp only [Rvs] at h ⊢
    obtain ⟨w, r, e, h1, h2⟩ := h
    exact ⟨w, r, e, Rv.mono x p w h1, Rvs.mono x ps r h2⟩
theorem Rvs.nil : Rvs K H ad [] [] := by simp [Rvs]
theorem Rvs.cons {p : PV} {ps : List PV} {v : V} {vs : List V} (h : Rv K H ad p v) (t : Rvs K H ad ps vs) : Rvs K H ad (p :: ps) (v :: vs) := by
  simp only [Rvs]; exact ⟨v, vs, rfl, h, t⟩
theorem Rvs.length : ∀ {ps : List PV} {vs : List V}, Rvs K H ad ps vs → vs.length = ps.length
  | [], _, h => by simp [Rvs] at h; simp [h]
  | _ :: ps, _, h => by
    simp only [Rvs] at h
    obtain ⟨w, r, rfl, _, h2⟩ := h
    simp [Rvs.length h2]
theorem Rvs.get : ∀ {ps : List PV} {vs : List V} {i : Nat} {p : PV}, Rvs K H ad ps vs → ps[i]? = some p → ∃ v, vs[i]? = some v ∧ Rv K H ad p v
  | [], _, _, _, _, e => by simp at e
  | q :: ps, vs, 0, p, h, e => by
    simp only [Rvs] at h
    obtain ⟨w, r, rfl, h1, h2⟩ := h
    simp at e; subst e
    exact ⟨w, by simp, h1⟩
  | q :: ps, vs, i + 1, p, h, e => by
    simp only [Rvs] at h
    obtain ⟨w, r, rfl, h1, h2⟩ := h
    obtain ⟨v, e1, e2⟩ := Rvs.get (i := i) h2 (by simpa using e)
    exact ⟨v, by simpa using e1, e2⟩
theorem Rvs.get' {ps : List PV} {vs : List V} {i : Nat} {v : V} (h : Rvs K H ad ps vs) (e : vs[i]? = some v) : ∃ p, ps[i]? = some p ∧ Rv K H ad p v := by
  have hl := h.length
  obtain ⟨hi, _⟩ := List.getElem?_eq_some_iff.mp e
  have hp : ps[i]? = some (ps[i]'(by omega)) := by simp [List.getElem?_eq_getElem (show i < ps.length by omega)]
  obtain ⟨v', e1, e2⟩ := h.get hp
  rw [e] at e1; cases e1
  exact ⟨_, hp, e2⟩
theorem Rvs.append : ∀ {ps qs : List PV} {vs ws : List V}, Rvs K H ad ps vs → Rvs K H ad qs ws → Rvs K H ad (ps ++ qs) (vs ++ ws)
  | [], _, _, _, h, g => by simp [Rvs] at h; subst h; simpa using g
  | p :: ps, _, _, _, h, g => by
    simp only [Rvs] at h
    obtain ⟨w, r, rfl, h1, h2⟩ := h
    exact Rvs.cons h1 (Rvs.append h2 g)
theorem Rvs.take : ∀ {ps : List PV} {vs : List V} (n : Nat), Rvs K H ad ps vs → Rvs K H ad (ps.take n) (vs.take n)
  | [], _, n, h => by simp [Rvs] at h; subst h; simp [Rvs]
  | p :: ps, _, 0, h => by simp [Rvs]
  | p :: ps, _, n + 1, h => by
    simp only [Rvs] at h
    obtain ⟨w, r, rfl, h1, h2⟩ := h
    exact Rvs.cons h1 (Rvs.take n h2)
theorem Rvs.drop : ∀ {ps : List PV} {vs : List V} (n : Nat), Rvs K H ad ps vs → Rvs K H ad (ps.drop n) (vs.drop n)
  | [], _, n, h => by simp [Rvs] at h; subst h; simp [Rvs]
  | p :: ps, _, 0, h => by simpa using h
  | p :: ps, _, n + 1, h => by
    simp only [Rvs] at h
    obtain ⟨w, r, rfl, h1, h2⟩ := h
    simpa using Rvs.drop n h2
theorem Rvs.set {p : PV} {v : V} (hv : Rv K H ad p v) : ∀ {ps : List PV} {vs : List V} (n : Nat), Rvs K H ad ps vs → Rvs K H ad (ps.set n p) (vs.set n v)
  | [], _, n, h => by simp [Rvs] at h; subst h; simp [Rvs]
  | q :: ps, _, 0, h => by
    simp only [Rvs] at h
    obtain ⟨w, r, rfl, h1, h2⟩ := h
    exact Rvs.cons hv h2
  | q :: ps, _, n + 1, h => by
    simp only [Rvs] at h
    obtain ⟨w, r, rfl, h1, h2⟩ := h
    exact Rvs.cons h1 (Rvs.set hv n h2)
theorem Rvs.ints (ns : List Int) : Rvs K H ad (ns.map PV.int) (ns.map V.int) := by
  induction ns with
  | nil => simp [Rvs]
  | cons n ns ih => exact Rvs.cons (by simp [Rv]) ih
end

/-! ### keys of dicts -/
mutual
def nk : PV → Option NestedKey
  | .non => some NestedKey.none
  | .bl b => some (NestedKey.num (if b then 1 else 0))
  | .int i => some (NestedKey.num i)
  | .str l => some (NestedKey.text (S l))
  | .tup xs => (nks xs).map NestedKey.tup
  | .ref _ => none
  | .exc _ _ => none
def nks : List PV → Option (List NestedKey)
  | [] => some []
  | x :: xs => match nk x, nks xs with
    | some k, some ks => some (k :: ks)
    | _, _ => none
end
/-- a key of a plain dict -/
def pvK : Key → PV → Prop
  | .inl i, p => p = .int i
  | .inr x, p => ∃ l, p = .str l ∧ x = S l

/-! ### objects -/
/-- a list that is never written: locked, or an object of the module -/
def SqF (K : PySem.W.Frag) (H : Hp) (a : Addr) (xs : List V) : Prop := (∃ o, H a = some (.frz o (.lst xs))) ∨
    ∃ (o : Obj) (its : Array Value) (n : Nat), K.lookup a = some o ∧ o.cls = .type "list" ∧ o.dict = none ∧ o.data = .seq its n ∧ its.size ≤ sizeLine ∧ Vals xs its.toList
section
variable (P : Program) (w : World) (K : PySem.W.Frag)
def dtpO (a : Addr) (xs : List (NestedKey × Addr × V)) : HO := .ext fun h => ∃ ys : List (NestedKey × Addr × Value),
  Paired (fun (x : NestedKey × Addr × V) (y : NestedKey × Addr × Value) => x.1 = y.1 ∧ x.2.1 = y.2.1 ∧ RelV x.2.2 y.2.2) xs ys ∧
  ∃ o es ep, h.get? a = some o ∧ o.ExactDict ∧ o.data = .dict es ep ∧ es.toList = ys.map (entryOfKey (nestedKind P w))
def Ob (H : Hp) (ad : List Addr) (a : Addr) : MO → Prop
  | .lst xs => ∃ vs, H a = some (.lst vs) ∧ Rvs K H ad xs vs
  | .rls xs => ∃ vs, SqF K H a vs ∧ Rvs K H ad xs vs
  | .dct kvs => ∃ kws : List (Key × V), H a = some (.dK kws) ∧ Paired (fun (x : PV × PV) (y : Key × V) => pvK y.1 x.1 ∧ Rv K H ad x.2 y.2) kvs kws
  | .dtp kvs => (a == sysModules) = false ∧ kvs.length ≤ sizeLine ∧ ∃ xs : List (NestedKey × Addr × V), H a = some (dtpO P w a xs) ∧ (xs.map (·.1)).Nodup ∧
      Paired (fun (x : PV × PV) (y : NestedKey × Addr × V) => nk x.1 = some y.1 ∧ y.1.depth ≤ 8 ∧ Rv K H ad x.1 (.ref y.2.1) ∧ (∃ qs, x.1 = .tup qs) ∧ Rv K H ad x.2 y.2.2) kvs xs
structure Sim (H : Hp) (ad : List Addr) (mh : MH) : Prop where
  len : ad.length = mh.length
  ob : ∀ (n : Nat) (o : MO) (a : Addr), mh[n]? = some o → ad[n]? = some a → Ob P w K H ad a o
  inj : ∀ (n m : Nat) (a : Addr) (o u : MO), mh[n]? = some o → mh[m]? = some u → ad[n]? = some a → ad[m]? = some a → o.wr = true → u.wr = true → n = m
end
def FrR (K : PySem.W.Frag) (H : Hp) (ad : List Addr) (fr : Fr) (σ : L2.St) : Prop :=
  σ.length = fr.length ∧ ∀ (i : Nat) (p : PV), fr[i]? = some (some p) → ∃ v, σ[i]? = some (some v) ∧ Rv K H ad p v

section
variable {P : Program} {w : World} {K : PySem.W.Frag} {H H' : Hp} {ad ad' : List Addr} {mh : MH}
theorem FrR.mono (x : Ext H ad H' ad') {fr : Fr} {σ : L2.St} (h : FrR K H ad fr σ) : FrR K H' ad' fr σ :=
  ⟨h.1, fun i p e => let ⟨v, e1, e2⟩ := h.2 i p e; ⟨v, e1, e2.mono x⟩⟩
theorem FrR.set {fr : Fr} {σ : L2.St} {p : PV} {v : V} (h : FrR K H ad fr σ) (i : Nat) (r : Rv K H ad p v) : FrR K H ad (fr.set i (some p)) (σ.set i (some v)) := by
  refine ⟨by simp [h.1], fun j q e => ?_⟩
  by_cases hj : i = j
  · subst hj
    rw [List.getElem?_set] at e ⊢
    simp only [if_true] at e ⊢
    rw [h.1]
    by_cases hl : i < fr.length
    · rw [if_pos hl] at e ⊢
      simp only [Option.some.injEq] at e
      subst e; exact ⟨v, rfl, r⟩
    · rw [if_neg hl] at e; cases e
  · rw [List.getElem?_set_ne hj] at e ⊢
    exact h.2 j q e
theorem pimp {α β : Type} {F G : α → β → Prop} (f : ∀ a b, F a b → G a b) : ∀ {l : List α} {m : List β}, Paired F l m → Paired G l m
  | _, _, .nil => .nil
  | _, _, .cons h t => .cons (f _ _ h) (pimp f t)
/-- what an object is said to be stays, where its own entry in H stays -/
theorem Ob.keep (x : Ext H ad H' ad') {a : Addr} {o : MO} (hw : o.wr = true → H' a = H a) (h : Ob P w K H ad a o) : Ob P w K H' ad' a o := by
  cases o with
  | lst xs => obtain ⟨vs, e, r⟩ := h; exact ⟨vs, (hw rfl).trans e, r.mono x⟩
  | rls xs =>
    obtain ⟨vs, e, r⟩ := h
    refine ⟨vs, ?_, r.mono x⟩
    rcases e with ⟨ob, e⟩ | e
    · exact .inl ⟨ob, x.frzs _ _ _ e⟩
    · exact .inr e
  | dct kvs =>
    obtain ⟨vs, e, r⟩ := h
    exact ⟨vs, (hw rfl).trans e, pimp (fun a b q => ⟨q.1, q.2.mono x⟩) r⟩
  | dtp kvs =>
    obtain ⟨h1, h2, xs, e, h3, r⟩ := h
    exact ⟨h1, h2, xs, (hw rfl).trans e, h3, pimp (fun a b q => ⟨q.1, q.2.1, q.2.2.1.mono x, q.2.2.2.1, q.2.2.2.2.mono x⟩) r⟩

/-- the entry of H that an object owns -/
theorem Ob.some {a : Addr} {o : MO} (h : Ob P w K H ad a o) (hw : o.wr = true) : ∃ u, H a = some u ∧ L2.Mut (some u) := by
  cases o with
  | lst xs => obtain ⟨vs, e, _⟩ := h; exact ⟨_, e, trivial⟩
  | rls xs => simp [MO.wr] at hw
  | dct kvs => obtain ⟨vs, e, _⟩ := h; exact ⟨_, e, trivial⟩
  | dtp kvs => obtain ⟨_, _, xs, e, _⟩ := h; exact ⟨_, e, trivial⟩

/-- a new object -/
theorem Sim.push (s : Sim P w K H ad mh) {p : Addr} {u : HO} {o : MO} (hp : H p = none) (new : Ext H ad (upd H p u) (ad ++ [p]) → Ob P w K (upd H p u) (ad ++ [p]) p o) :
    Ext H ad (upd H p u) (ad ++ [p]) ∧ Sim P w K (upd H p u) (ad ++ [p]) (mh ++ [o]) := by
  have x : Ext H ad (upd H p u) (ad ++ [p]) := ⟨fun b xs e => by rw [upd_ne (ne_of_none e hp)]; exact e, fun b ob xs e => by rw [upd_ne (ne_of_none e hp)]; exact e, fun b xs e => by rw [upd_ne (ne_of_none e hp)]; exact e, List.prefix_append _ _⟩
  refine ⟨x, ?_, ?_, ?_⟩
  · simp [s.len]
  · intro n ob a e1 e2
    by_cases hn : n < mh.length
    · rw [List.getElem?_append_left hn] at e1
      rw [List.getElem?_append_left (by rw [s.len]; exact hn)] at e2
      have := s.ob n ob a e1 e2
      refine this.keep x fun hw => ?_
      obtain ⟨v, e, _⟩ := this.some hw
      rw [upd_ne (ne_of_none e hp)]
    · have hn' : n = mh.length := by
        have := (List.getElem?_eq_some_iff.mp e1).1
        simp at this; omega
      subst hn'
      rw [List.getElem?_append_right (Nat.le_refl _)] at e1
      rw [List.getElem?_append_right (by rw [s.len]; exact Nat.le_refl _)] at e2
      simp [s.len] at e1 e2
      subst e1; subst e2
      exact new x
  · intro n m a ob v e1 e2 e3 e4 w1 w2
    have key : ∀ {n : Nat} {ob : MO} {a : Addr}, (mh ++ [o])[n]? = some ob → (ad ++ [p])[n]? = some a → (n < mh.length ∧ mh[n]? = some ob ∧ ad[n]? = some a) ∨ (n = mh.length ∧ a = p) := by
      intro n ob a e1 e2
      by_cases hn : n < mh.length
      · rw [List.getElem?_append_left hn] at e1
        rw [List.getElem?_append_left (by rw [s.len]; exact hn)] at e2
        exact .inl ⟨hn, e1, e2⟩
      · have hn' : n = mh.length := by
          have := (List.getElem?_eq_some_iff.mp e1).1
          simp at this; omega
        subst hn'
        rw [List.getElem?_append_right (by rw [s.len]; exact Nat.le_refl _)] at e2
        simp [s.len] at e2
        exact .inr ⟨rfl, e2.symm⟩
    rcases key e1 e3 with ⟨_, a1, a2⟩ | ⟨a1, a2⟩
    · rcases key e2 e4 with ⟨_, b1, b2⟩ | ⟨b1, b2⟩
      · exact s.inj n m a ob v a1 b1 a2 b2 w1 w2
      · subst b2
        obtain ⟨u', e, _⟩ := (s.ob n ob a a1 a2).some w1
        rw [hp] at e; cases e
    · rcases key e2 e4 with ⟨_, b1, b2⟩ | ⟨b1, b2⟩
      · subst a2
        obtain ⟨u', e, _⟩ := (s.ob m v a b1 b2).some w2
        rw [hp] at e; cases e
      · rw [a1, b1]

/-- an object is written -/
theorem Sim.write (s : Sim P w K H ad mh) {n : Nat} {a : Addr} {o o' : MO} {u : HO} (e1 : mh[n]? = some o) (e2 : ad[n]? = some a) (hw : o.wr = true)
    (new : Ext H ad (upd H a u) ad → Ob P w K (upd H a u) ad a o') :
    Ext H ad (upd H a u) ad ∧ Sim P w K (upd H a u) ad (mh.set n o') := by
  obtain ⟨v0, e0, mu⟩ := (s.ob n o a e1 e2).some hw
  have x : Ext H ad (upd H a u) ad := ⟨fun b xs e => by
      rw [upd_ne]; exact e
      rintro rfl; rw [e] at e0; cases e0; exact mu, fun b ob xs e => by
      rw [upd_ne]; exact e
      rintro rfl; rw [e] at e0; cases e0; exact mu, fun b xs e => by
      rw [upd_ne]; exact e
      rintro rfl; rw [e] at e0; cases e0; exact mu, List.prefix_refl _⟩
  have hn := (List.getElem?_eq_some_iff.mp e1).1
  refine ⟨x, ?_, ?_, ?_⟩
  · simp [s.len]
  · intro m ob b f1 f2
    by_cases hm : n = m
    · subst hm
      rw [List.getElem?_set_self hn] at f1
      rw [e2] at f2
      cases f1; cases f2
      exact new x
    · rw [List.getElem?_set_ne hm] at f1
      refine (s.ob m ob b f1 f2).keep x fun hwo => ?_
      rw [upd_ne]
      rintro rfl
      exact hm (s.inj n m b o ob e1 f1 e2 f2 hw hwo)
  · have key : ∀ {m : Nat} {ob : MO}, (mh.set n o')[m]? = some ob → ob.wr = true → ∃ ob', mh[m]? = some ob' ∧ ob'.wr = true := by
      intro m ob f hb
      by_cases hm : n = m
      · subst hm; exact ⟨o, e1, hw⟩
      · rw [List.getElem?_set_ne hm] at f; exact ⟨ob, f, hb⟩
    intro m k b ob v f1 f2 f3 f4 w1 w2
    obtain ⟨ob', g1, g2⟩ := key f1 w1
    obtain ⟨v', g3, g4⟩ := key f2 w2
    exact s.inj m k b ob' v' g1 g3 f3 f4 g2 g4
end
/-- the items of a list -/
def lget (mh : MH) (n : Nat) : Option (List PV) := match mh[n]? with
  | some (.lst xs) => some xs
  | some (.rls xs) => some xs
  | _ => none
section
variable {P : Program} {w : World} {K : PySem.W.Frag} {H H' : Hp} {ad ad' : List Addr} {mh : MH}
theorem SqF.seq {a : Addr} {vs : List V} (h : SqF K H a vs) : SqL K H a vs := by
  rcases h with ⟨o, h⟩ | h
  · exact .inl (.inr ⟨o, h⟩)
  · exact .inr h
theorem Sim.addr (s : Sim P w K H ad mh) {n : Nat} {o : MO} (e : mh[n]? = some o) : ∃ a, ad[n]? = some a := by
  have hn := (List.getElem?_eq_some_iff.mp e).1
  exact ⟨ad[n]'(by rw [s.len]; exact hn), List.getElem?_eq_getElem (by rw [s.len]; exact hn)⟩
theorem Sim.list (s : Sim P w K H ad mh) {n : Nat} {xs : List PV} {a : Addr} (e : lget mh n = some xs) (ha : ad[n]? = some a) : ∃ vs, SqL K H a vs ∧ Rvs K H ad xs vs := by
  unfold lget at e
  split at e
  · rename_i e1; cases e
    obtain ⟨vs, h, r⟩ := s.ob n _ a e1 ha
    exact ⟨vs, .inl (.inl h), r⟩
  · rename_i e1; cases e
    obtain ⟨vs, h, r⟩ := s.ob n _ a e1 ha
    exact ⟨vs, h.seq, r⟩
  · cases e
end
end FL
/-! FL2: what is wanted of a result; operators by plain values. -/
namespace FL
open PySem PySem.Spec PyProof.Rows L2

abbrev big : Nat := 16777216
theorem big_eq : sizeLine = big := sizeLine_eq

theorem S_append (a b : List Char) : S (a ++ b) = S a ++ S b := by
  show (⟨_⟩ : Str) = ⟨_⟩
  congr 1
  apply Array.ext'
  simp [S]
/-- the program as plain data -/
structure GG where
  fns : Str → Option (List PV → M PV)
  cons : Str → Option PV
  exs : Str → Option (List Str)
  sub : Str → Str → Bool
  hcs : Str → Bool

abbrev SimX (X : Cx) (H : Hp) (ad : List Addr) (mh : MH) : Prop := Sim X.prog X.w X.K H ad mh
/-- a new tuple -/
theorem ext_tup {H : Hp} {ad : List Addr} {p : Addr} {u : HO} (hp : H p = none) : Ext H ad (upd H p u) ad :=
  ⟨fun b xs e => by rw [upd_ne (ne_of_none e hp)]; exact e, fun b ob xs e => by rw [upd_ne (ne_of_none e hp)]; exact e, fun b xs e => by rw [upd_ne (ne_of_none e hp)]; exact e, List.prefix_refl _⟩
theorem Sim.tup {P : Program} {w : World} {K : PySem.W.Frag} {H : Hp} {ad : List Addr} {mh : MH} (s : Sim P w K H ad mh) {p : Addr} {u : HO} (hp : H p = none) : Sim P w K (upd H p u) ad mh := by
  refine ⟨s.len, fun n o a e1 e2 => ?_, s.inj⟩
  have h := s.ob n o a e1 e2
  refine h.keep (ext_tup hp) fun hw => ?_
  obtain ⟨v, e, _⟩ := h.some hw
  rw [upd_ne (ne_of_none e hp)]

/-! ### what is wanted of a result, no error -/
def G0 {α β : Type} (X : Cx) (R : Hp → List Addr → α → β → Prop) (H : Hp) (ad : List Addr) (r : Res α) (Q : β → Hp → Prop) : Prop :=
  match r with
  | .ok a mh' => ∀ b H' ad', Ext H ad H' ad' → SimX X H' ad' mh' → R H' ad' a b → Q b H'
  | .exc _ _ => False
  | .bad => False
abbrev RvX (X : Cx) (H : Hp) (ad : List Addr) (p : PV) (v : V) : Prop := Rv X.K H ad p v
/-- an operator of two values by its plain rule -/
def OpM (X : Cx) (f : Value → Value → Sem Value) (m : PV → PV → M PV) : Prop :=
  ∀ (pins : List (Addr × Obj)) (s : Shared) (σ : L2.St) (H : Hp) (x y : V) (v u : Value) (Q : VK) (px py : PV) (mh : MH) (ad : List Addr), Inv X pins σ H s → RelV x v → RelV y u →
    SimX X H ad mh → Rv X.K H ad px x → Rv X.K H ad py y → G0 X (RvX X) H ad (m px py mh) Q → wpAny (model X.prog X.w) X.A (f v u) (EP X pins σ Q) X.xe s
def rM (X : Cx) (m : PV → PV → M PV) : R2 := fun x y H Q => ∃ px py mh ad, SimX X H ad mh ∧ Rv X.K H ad px x ∧ Rv X.K H ad py y ∧ G0 X (RvX X) H ad (m px py mh) Q
theorem OpM.op {X : Cx} {f : Value → Value → Sem Value} {m : PV → PV → M PV} (h : OpM X f m) : OpR X f (rM X m) :=
  fun pins s σ H x y v u Q I rx ry ⟨px, py, mh, ad, hs, h1, h2, g⟩ => h pins s σ H x y v u Q px py mh ad I rx ry hs h1 h2 g

section
variable {X : Cx} {H : Hp} {ad : List Addr} {mh : MH}
theorem G0.pure {α β : Type} {R : Hp → List Addr → α → β → Prop} {a : α} {Q : β → Hp → Prop} (g : G0 X R H ad (.ok a mh) Q) (s : SimX X H ad mh) {b : β} (r : R H ad a b) : Q b H :=
  g b H ad (Ext.refl _ _) s r
/-- a new list -/
theorem G0.newL {vs : List V} {ps : List PV} {Q : VK} (g : G0 X (RvX X) H ad (.ok (.ref mh.length) (mh ++ [.lst ps])) Q) (s : SimX X H ad mh) (r : Rvs X.K H ad ps vs) :
    ∀ p, H p = none → Q (.ref p) (upd H p (.lst vs)) := fun p hp => by
  obtain ⟨x, s'⟩ := s.push (o := .lst ps) (u := .lst vs) hp fun x => ⟨vs, upd_same, r.mono x⟩
  refine g _ _ _ x s' ?_
  simp only [RvX, Rv]
  exact ⟨p, rfl, by rw [← s.len]; simp⟩
/-- a new tuple -/
theorem G0.newT {vs : List V} {ps : List PV} {Q : VK} (g : G0 X (RvX X) H ad (.ok (.tup ps) mh) Q) (s : SimX X H ad mh) (r : Rvs X.K H ad ps vs) :
    ∀ p, H p = none → Q (.ref p) (upd H p (.tup vs)) := fun p hp => by
  refine g _ _ ad (ext_tup hp) (s.tup hp) ?_
  simp only [RvX, Rv]
  exact ⟨p, vs, rfl, SqT.of upd_same, r.mono (ext_tup hp)⟩
end

/-! ### the operators -/
def okLen (n : Nat) {α : Type} (m : M α) : M α := if n ≤ big then m else M.bad
def newL (xs : List PV) : M PV := fun h => .ok (.ref h.length) (h ++ [.lst xs])
def wl (h : MH) (n : Nat) : Option (List PV) := match h[n]? with
  | some (.lst xs) => some xs
  | _ => none
theorem wl_get {h : MH} {n : Nat} {xs : List PV} (e : wl h n = some xs) : h[n]? = some (.lst xs) := by
  unfold wl at e
  split at e
  · rename_i e1; cases e; exact e1
  · cases e
theorem wl_lget {h : MH} {n : Nat} {xs : List PV} (e : wl h n = some xs) : lget h n = some xs := by
  rw [lget, wl_get e]

def addM : PV → PV → M PV
  | .int i, .int j => M.ret (.int (i + j))
  | .str a, .str b => okLen (a.length + b.length) (M.ret (.str (a ++ b)))
  | .tup a, .tup b => okLen (a.length + b.length) (M.ret (.tup (a ++ b)))
  | .ref a, .ref b => fun h => match wl h a, wl h b with
    | some xs, some ys => okLen (xs.length + ys.length) (newL (xs ++ ys)) h
    | _, _ => .bad
  | _, _ => M.bad
def subM : PV → PV → M PV
  | .int i, .int j => M.ret (.int (i - j))
  | _, _ => M.bad
def small64 (i : Int) : Bool := decide (-(2 ^ 64) < i ∧ i < 2 ^ 64)
def mulM : PV → PV → M PV
  | .int i, .int j => if small64 i || small64 j then M.ret (.int (i * j)) else M.bad
  | .ref a, .int k => fun h => match wl h a with
    | some xs => if -(2 ^ 63) ≤ k ∧ k < 2 ^ 63 then okLen (xs.length * k.toNat) (newL (List.replicate k.toNat xs).flatten) h else .bad
    | _ => .bad
  | _, _ => M.bad
def divM : PV → PV → M PV
  | .int i, .int j => if 0 < j ∧ j.natAbs.log2 < 9000 then M.ret (.int (i / j)) else M.bad
  | _, _ => M.bad
def modM : PV → PV → M PV
  | .int i, .int j => if 0 < j then M.ret (.int (i % j)) else M.bad
  | _, _ => M.bad
def powM : PV → PV → M PV
  | .int i, .int j => if 0 ≤ j ∧ (Builtin.Int.intBits i : Int) * j ≤ 2 ^ 27 then M.ret (.int (i ^ j.toNat)) else M.bad
  | _, _ => M.bad
def shlM : PV → PV → M PV
  | .int i, .int j => if 0 ≤ j ∧ j ≤ 1000000 ∧ i.natAbs < 2 ^ 64 then M.ret (.int (i * 2 ^ j.toNat)) else M.bad
  | _, _ => M.bad
def shrM : PV → PV → M PV
  | .int i, .int j => if 0 ≤ j then M.ret (.int (i / 2 ^ j.toNat)) else M.bad
  | _, _ => M.bad
def andM : PV → PV → M PV
  | .int i, .int j => M.ret (.int (Builtin.bitAnd i j))
  | _, _ => M.bad
def binM : Operator → PV → PV → M PV
  | .Add => addM
  | .Sub => subM
  | .Mult => mulM
  | .FloorDiv => divM
  | .Mod => modM
  | .Pow => powM
  | .LShift => shlM
  | .RShift => shrM
  | .BitAnd => andM
  | _ => fun _ _ => M.bad

section
variable {X : Cx}
theorem bin_int {f : Value → Value → Sem Value} {r : R2} (h : OpR X f r) {pins : List (Addr × Obj)} {s : Shared} {σ : L2.St} {H : Hp} {x y : V} {v u : Value} {Q : VK} (I : Inv X pins σ H s) (rx : RelV x v) (ry : RelV y u)
    (g : r x y H Q) : wpAny (model X.prog X.w) X.A (f v u) (EP X pins σ Q) X.xe s := h pins s σ H x y v u Q I rx ry g
theorem add_ok : OpM X (binaryOp .Add) addM := by
  intro pins s σ H x y v u Q px py mh ad I rx ry hs h1 h2 g
  unfold addM at g
  split at g
  · simp only [Rv] at h1 h2; subst h1; subst h2
    exact op_add pins s σ H _ _ v u Q I rx ry ⟨_, _, rfl, rfl, g.pure hs (by simp [RvX, Rv])⟩
  · simp only [Rv] at h1 h2; subst h1; subst h2
    rename_i a b
    unfold okLen at g
    split at g
    · rename_i hl
      refine op_add_str pins s σ H _ _ v u Q I rx ry ⟨_, _, rfl, rfl, by rw [S_length, S_length, big_eq]; exact hl, ?_⟩
      refine g.pure hs ?_
      simp only [RvX, Rv, V.str.injEq]
      exact (S_append a b).symm
    · exact g.elim
  · simp only [Rv] at h1 h2
    obtain ⟨a, vs, rfl, ha, ra⟩ := h1
    obtain ⟨b, ws, rfl, hb, rb⟩ := h2
    rename_i xs ys
    unfold okLen at g
    split at g
    · rename_i hl
      refine op_catA pins s σ H _ _ v u Q I rx ry ⟨a, b, vs, ws, rfl, rfl, ha, hb, by rw [ra.length, rb.length, big_eq]; exact hl, fun e => ?_, fun _ e => ?_, fun _ _ => ?_⟩
      · refine g.pure hs ?_
        have : xs = [] := by have := ra.length; rw [e] at this; exact List.length_eq_zero_iff.mp this.symm
        subst this
        simp only [RvX, Rv]; exact ⟨b, ws, rfl, hb, rb⟩
      · refine g.pure hs ?_
        have : ys = [] := by have := rb.length; rw [e] at this; exact List.length_eq_zero_iff.mp this.symm
        subst this
        simp only [RvX, Rv, List.append_nil]; exact ⟨a, vs, rfl, ha, ra⟩
      · exact g.newT hs (ra.append rb)
    · exact g.elim
  · simp only [Rv] at h1 h2
    obtain ⟨a, rfl, ha⟩ := h1
    obtain ⟨b, rfl, hb⟩ := h2
    split at g
    · rename_i xs ys e1 e2
      obtain ⟨vs, k1, r1⟩ := hs.ob _ _ _ (wl_get e1) ha
      obtain ⟨ws, k2, r2⟩ := hs.ob _ _ _ (wl_get e2) hb
      unfold okLen at g
      split at g
      · rename_i hl
        exact op_cat pins s σ H _ _ v u Q I rx ry ⟨a, b, vs, ws, rfl, rfl, k1, k2, by rw [r1.length, r2.length, big_eq]; exact hl, g.newL hs (r1.append r2)⟩
      · exact g.elim
    · exact g.elim
  · exact g.elim
theorem sub_ok : OpM X (binaryOp .Sub) subM := by
  intro pins s σ H x y v u Q px py mh ad I rx ry hs h1 h2 g
  unfold subM at g
  split at g
  · simp only [Rv] at h1 h2; subst h1; subst h2
    exact op_sub pins s σ H _ _ v u Q I rx ry ⟨_, _, rfl, rfl, g.pure hs (by simp [RvX, Rv])⟩
  · exact g.elim
theorem flatten_rvs {K : PySem.W.Frag} {H : Hp} {ad : List Addr} {ps : List PV} {vs : List V} (r : Rvs K H ad ps vs) : ∀ n, Rvs K H ad (List.replicate n ps).flatten (List.replicate n vs).flatten
  | 0 => by simp [Rvs]
  | n + 1 => by
    simp only [List.replicate_succ, List.flatten_cons]
    exact r.append (flatten_rvs r n)
theorem mul_ok : OpM X (binaryOp .Mult) mulM := by
  intro pins s σ H x y v u Q px py mh ad I rx ry hs h1 h2 g
  unfold mulM at g
  split at g
  · simp only [Rv] at h1 h2; subst h1; subst h2
    split at g
    · rename_i hc
      refine op_mul pins s σ H _ _ v u Q I rx ry ⟨_, _, rfl, rfl, ?_, g.pure hs (by simp [RvX, Rv])⟩
      unfold CMul
      rcases Bool.or_eq_true_iff.mp hc with h | h
      · exact .inl (of_decide_eq_true h)
      · exact .inr (of_decide_eq_true h)
    · exact g.elim
  · simp only [Rv] at h1 h2; subst h2
    obtain ⟨a, rfl, ha⟩ := h1
    split at g
    · rename_i xs e1
      obtain ⟨vs, k1, r1⟩ := hs.ob _ _ _ (wl_get e1) ha
      split at g
      · rename_i hk
        unfold okLen at g
        split at g
        · rename_i hl
          exact op_rep pins s σ H _ _ v u Q I rx ry ⟨a, _, vs, rfl, rfl, k1, hk.1, hk.2, by rw [r1.length, big_eq]; exact hl, g.newL hs (flatten_rvs r1 _)⟩
        · exact g.elim
      · exact g.elim
    · exact g.elim
  · exact g.elim
theorem div_ok : OpM X (binaryOp .FloorDiv) divM := by
  intro pins s σ H x y v u Q px py mh ad I rx ry hs h1 h2 g
  unfold divM at g
  split at g
  · simp only [Rv] at h1 h2; subst h1; subst h2
    split at g
    · rename_i hc
      exact op_fdivW pins s σ H _ _ v u Q I rx ry ⟨_, _, rfl, rfl, hc, g.pure hs (by simp [RvX, Rv])⟩
    · exact g.elim
  · exact g.elim
theorem mod_ok : OpM X (binaryOp .Mod) modM := by
  intro pins s σ H x y v u Q px py mh ad I rx ry hs h1 h2 g
  unfold modM at g
  split at g
  · simp only [Rv] at h1 h2; subst h1; subst h2
    split at g
    · rename_i hc
      exact op_mod pins s σ H _ _ v u Q I rx ry ⟨_, _, rfl, rfl, hc, g.pure hs (by simp [RvX, Rv])⟩
    · exact g.elim
  · exact g.elim
theorem pow_ok : OpM X (binaryOp .Pow) powM := by
  intro pins s σ H x y v u Q px py mh ad I rx ry hs h1 h2 g
  unfold powM at g
  split at g
  · simp only [Rv] at h1 h2; subst h1; subst h2
    split at g
    · rename_i hc
      obtain ⟨t, rfl⟩ := rx
      obtain ⟨t', rfl⟩ := ry
      exact pow_int hc.1 hc.2 ⟨.int _, H, I.tok _, ⟨_, rfl⟩, g.pure hs (by simp [RvX, Rv])⟩
    · exact g.elim
  · exact g.elim
theorem shl_ok : OpM X (binaryOp .LShift) shlM := by
  intro pins s σ H x y v u Q px py mh ad I rx ry hs h1 h2 g
  unfold shlM at g
  split at g
  · simp only [Rv] at h1 h2; subst h1; subst h2
    split at g
    · rename_i hc
      exact op_shl pins s σ H _ _ v u Q I rx ry ⟨_, _, rfl, rfl, hc, g.pure hs (by simp [RvX, Rv])⟩
    · exact g.elim
  · exact g.elim
theorem shr_ok : OpM X (binaryOp .RShift) shrM := by
  intro pins s σ H x y v u Q px py mh ad I rx ry hs h1 h2 g
  unfold shrM at g
  split at g
  · simp only [Rv] at h1 h2; subst h1; subst h2
    split at g
    · rename_i hc
      exact op_shr pins s σ H _ _ v u Q I rx ry ⟨_, _, rfl, rfl, hc, g.pure hs (by simp [RvX, Rv])⟩
    · exact g.elim
  · exact g.elim
theorem and_ok : OpM X (binaryOp .BitAnd) andM := by
  intro pins s σ H x y v u Q px py mh ad I rx ry hs h1 h2 g
  unfold andM at g
  split at g
  · simp only [Rv] at h1 h2; subst h1; subst h2
    exact op_and pins s σ H _ _ v u Q I rx ry ⟨_, _, rfl, rfl, g.pure hs (by simp [RvX, Rv])⟩
  · exact g.elim
theorem bin_ok (op : Operator) : OpM X (binaryOp op) (binM op) := by
  cases op <;> first | exact add_ok | exact sub_ok | exact mul_ok | exact div_ok | exact mod_ok | exact pow_ok | exact shl_ok | exact shr_ok | exact and_ok | (intro pins s σ H x y v u Q px py mh ad I rx ry hs h1 h2 g; exact g.elim)
end
end FL
/-! FLS: order of data that are alike up to the first place that differs. -/
namespace FL
open PySem PySem.Calls PyProof.Rows PySem.W PySem.SeqAt
open AutoSeq1 (wpAny_loadPart')
open MeetsSeq MeetsSeq2 MeetsSeq3 SeqRoads2

mutual
/-- a < b never meets two kinds -/
def soft : PyData → PyData → Bool
  | .none, .none => true
  | .bool _, .bool _ => true
  | .int _, .int _ => true
  | .str _, .str _ => true
  | .tuple us, .tuple ws => softs us ws
  | .list us, .list ws => softs us ws
  | _, _ => false
def softs : List PyData → List PyData → Bool
  | u :: us, w :: ws => soft u w && (!PyData.eqv u w || softs us ws)
  | [], _ => true
  | _ :: _, [] => true
end
theorem softs_hd {u w : PyData} {us ws : List PyData} (q : softs (u :: us) (w :: ws) = true) : soft u w = true ∧ (PyData.eqv u w = true → softs us ws = true) := by
  rw [softs, Bool.and_eq_true, Bool.or_eq_true, Bool.not_eq_true'] at q
  refine ⟨q.1, fun e => ?_⟩
  rcases q.2 with z | z
  · rw [e] at z; cases z
  · exact z
abbrev LX := PyProof.Rows.lexLt itemOrd
mutual
theorem sft_toks : ∀ (u w : PyData), soft u w = true → (PyData.eqv u w = true → keyToks u = keyToks w) ∧ (PyData.eqv u w = false → ∀ l m, LX (keyToks u ++ l) (keyToks w ++ m) = LX (keyToks u) (keyToks w))
  | .none, w, q => by
    cases w with
    | none => exact toks_eqv .none .none (by simp [alike])
    | _ => exact absurd q (by simp [soft])
  | .bool a, w, q => by
    cases w with
    | bool b => exact toks_eqv (.bool a) (.bool b) (by simp [alike])
    | _ => exact absurd q (by simp [soft])
  | .int a, w, q => by
    cases w with
    | int b => exact toks_eqv (.int a) (.int b) (by simp [alike])
    | _ => exact absurd q (by simp [soft])
  | .str a, w, q => by
    cases w with
    | str b => exact toks_eqv (.str a) (.str b) (by simp [alike])
    | _ => exact absurd q (by simp [soft])
  | .list us, w, q => by
    cases w with
    | list ws =>
      have t := sft_toksAll us ws (by simpa [soft] using q)
      simp only [keyToks, PyData.eqv]; exact t
    | _ => exact absurd q (by simp [soft])
  | .tuple us, w, q => by
    cases w with
    | tuple ws =>
      have t := sft_toksAll us ws (by simpa [soft] using q)
      simp only [keyToks, PyData.eqv]; exact t
    | _ => exact absurd q (by simp [soft])
  | .dict _, w, q => absurd q (by cases w <;> simp [soft])
theorem sft_toksAll : ∀ (us ws : List PyData), softs us ws = true → (PyData.eqvAll us ws = true → keyToksAll us = keyToksAll ws) ∧ (PyData.eqvAll us ws = false → ∀ l m, LX (keyToksAll us ++ l) (keyToksAll ws ++ m) = LX (keyToksAll us) (keyToksAll ws))
  | [], [], _ => toksAll_eqv [] [] (by simp [alikeAll])
  | [], w :: ws, _ => toksAll_eqv [] (w :: ws) (by simp [alikeAll])
  | u :: us, [], _ => toksAll_eqv (u :: us) [] (by simp [alikeAll])
  | u :: us, w :: ws, q => by
    obtain ⟨q1, q2⟩ := softs_hd q
    obtain ⟨a1, a2⟩ := sft_toks u w q1
    rw [eqv_all_cons, toks_all_cons, toks_all_cons]
    cases hx : PyData.eqv u w with
    | true =>
      obtain ⟨b1, b2⟩ := sft_toksAll us ws (q2 hx)
      rw [a1 hx, Bool.true_and]
      refine ⟨fun e => by rw [b1 e], fun e l m => ?_⟩
      simp only [List.cons_append, List.append_assoc, LX]
      rw [lex_self (O := itemOrd), lex_pre, lex_self (O := itemOrd), lex_pre]
      exact b2 e l m
    | false =>
      rw [Bool.false_and]
      refine ⟨fun e => absurd e Bool.false_ne_true, fun _ l m => ?_⟩
      simp only [List.cons_append, List.append_assoc, LX]
      rw [lex_self (O := itemOrd), lex_self (O := itemOrd)]
      exact (a2 hx _ _).trans (a2 hx _ _).symm
end
theorem sft_yes {u w : PyData} {us ws : List PyData} (q : soft u w = true) (e : PyData.eqv u w = true) : LX (keyToksAll (u :: us)) (keyToksAll (w :: ws)) = LX (keyToksAll us) (keyToksAll ws) := by
  rw [toks_all_cons, toks_all_cons, (sft_toks u w q).1 e]
  show LX _ _ = _
  simp only [LX]
  rw [lex_self (O := itemOrd), lex_pre]
theorem sft_no {u w : PyData} {us ws : List PyData} (q : soft u w = true) (e : PyData.eqv u w = false) : LX (keyToksAll (u :: us)) (keyToksAll (w :: ws)) = dataLt u w := by
  rw [toks_all_cons, toks_all_cons]
  simp only [LX]
  rw [lex_self (O := itemOrd)]
  exact (sft_toks u w q).2 e _ _
theorem sft_first : ∀ (us ws : List PyData), softs us ws = true →
    firstLt (pairEq us ws) (fun j => dataLt (us.getD j .none) (ws.getD j .none)) (decide (us.length < ws.length)) (List.range (min us.length ws.length)) = LX (keyToksAll us) (keyToksAll ws)
  | [], [], _ => firstLt_toks [] [] (by simp [alikeAll])
  | [], w :: ws, _ => firstLt_toks [] (w :: ws) (by simp [alikeAll])
  | u :: us, [], _ => firstLt_toks (u :: us) [] (by simp [alikeAll])
  | u :: us, w :: ws, q => by
    obtain ⟨q1, q2⟩ := softs_hd q
    rw [show min (u :: us).length (w :: ws).length = min us.length ws.length + 1 by simp only [List.length_cons]; omega, show decide ((u :: us).length < (w :: ws).length) = decide (us.length < ws.length) by simp, List.range_succ_eq_map]
    cases hx : PyData.eqv u w with
    | true =>
      rw [firstLt_yes (show pairEq (u :: us) (w :: ws) 0 = true from hx), firstLt_map, sft_yes q1 hx, ← sft_first us ws (q2 hx)]
      rfl
    | false =>
      rw [firstLt_no (show pairEq (u :: us) (w :: ws) 0 = false from hx), sft_no q1 hx]
      rfl

/-! ### < of two sequences, the places compared only up to the first that differs -/

/-- what is known of the places -/
def PlEq (A : Around) (s : Shared) (xs ys : Array Value) (e : Nat → Bool) : Prop := ∀ j (p : j < xs.size) (q : j < ys.size), EqAt A s xs[j] ys[j] (e j)
def PlLt (A : Around) (s : Shared) (xs ys : Array Value) (e r : Nat → Bool) : Prop := ∀ j (p : j < xs.size) (q : j < ys.size), (∀ i, i < j → e i = true) → e j = false → RcLt A s xs[j] ys[j] (r j)
abbrev sqO (T : String) (dd : Option Addr) (xs : Array Value) (n : Nat) (sl : Array (Option Value)) : Obj := { cls := .type T, dict := dd, data := .seq xs n, slots := sl }
abbrev lxR (xs ys : Array Value) (e r : Nat → Bool) (i : Nat) : Bool := firstLt e r (decide (xs.size < ys.size)) ((List.range (min xs.size ys.size)).drop i)
theorem upto {e : Nat → Bool} {i : Nat} (g : ∀ k, k < i → e k = true) (h : e i = true) : ∀ k, k < i + 1 → e k = true := fun k hk => by
  rcases Nat.lt_or_ge k i with z | z
  · exact g k z
  · have : k = i := by omega
    rw [this]; exact h
theorem drop_range {i m : Nat} (h : i < m) : (List.range m).drop i = i :: (List.range m).drop (i + 1) := by simp [List.drop_eq_getElem_cons, h]
theorem tupLtG (a c : Addr) (xs ys : Array Value) (n k : Nat) (d1 d2 : Option Addr) (s1 s2 : Array (Option Value)) (e r : Nat → Bool) : Meets (Builtin.«tuple.__lt__» ⟨[.ref a, .ref c], []⟩)
    (fun A R s => s.heap.get? a = some (sqO "tuple" d1 xs n s1) ∧ s.heap.get? c = some (sqO "tuple" d2 ys k s2) ∧ PlEq A.in1 s xs ys e ∧ PlLt A.in1 s xs ys e r ∧ R (.ok (.ret (.bool (lxR xs ys e r 0)))) s) :=
  .of_wp fun prog w A R s h => by
    obtain ⟨hp, g, dr, tk, os⟩ := s
    obtain ⟨ha, hc, he, hr, h⟩ := h
    have f2 := AutoSeq1.sub_tuple_tuple
    have hZ : (xs.toList.zip ys.toList).length = min xs.size ys.size := by simp
    wp_walk using wpAny_loadPart' ha, wpAny_loadPart' hc, wpAny_forIn_list _ (fun rest b s' => b.1 = none ∧ s' = ⟨hp, g, dr, tk, os⟩ ∧ ∃ i, (∀ k, k < i → e k = true) ∧ rest = (xs.toList.zip ys.toList).drop i ∧ R (.ok (.ret (.bool (lxR xs ys e r i)))) ⟨hp, g, dr, tk, os⟩) _
    case turn =>
      rintro ⟨y, x⟩ rest b s' ⟨hb', rfl, i, hup, hz, hR⟩
      have hlt : i < (xs.toList.zip ys.toList).length := by
        rcases Nat.lt_or_ge i (xs.toList.zip ys.toList).length with z | z
        · exact z
        · rw [List.drop_of_length_le z] at hz; cases hz
      have hm : i < min xs.size ys.size := hZ ▸ hlt
      have p1 : i < xs.size := by omega
      have p2 : i < ys.size := by omega
      rw [List.drop_eq_getElem_cons hlt] at hz
      injection hz with hyx hrest
      obtain rfl : y = xs[i] := by simpa using congrArg Prod.fst hyx
      obtain rfl : x = ys[i] := by simpa using congrArg Prod.snd hyx
      unfold lxR at hR
      rw [drop_range hm] at hR
      refine wpAny_bind (he i p1 p2 prog w _ _ ?_)
      cases hy : e i with
      | true =>
        rw [firstLt_yes hy] at hR
        wp_walk
        exact ⟨rfl, rfl, i + 1, upto hup hy, hrest, hR⟩
      | false =>
        rw [firstLt_no hy] at hR
        have hr' := hr i p1 p2 hup hy prog w
        generalize richCompare CmpOp.Lt xs[i] ys[i] = rc at hr' ⊢
        wp_walk
        refine hr' _ _ ?_
        wp_walk
        exact ⟨_, rfl, hR⟩
    case fin =>
      rintro ⟨b1, b2⟩ s' ⟨hb', rfl, i, hup, hz, hR⟩
      simp only at hb'
      subst hb'
      have hge : min xs.size ys.size ≤ i := by
        rcases Nat.lt_or_ge i (xs.toList.zip ys.toList).length with z | z
        · rw [List.drop_eq_getElem_cons z] at hz; cases hz
        · exact hZ ▸ z
      unfold lxR at hR
      rw [List.drop_of_length_le (by simpa using hge)] at hR
      wp_walk
      exact ⟨_, rfl, by simpa [Builtin.Tuple.tupleCompareSizes, firstLt] using hR⟩
    case h =>
      exact ⟨rfl, rfl, 0, fun k z => absurd z (Nat.not_lt_zero _), rfl, by simpa using h⟩
theorem lstLoopG (a c : Addr) (xs ys : Array Value) (n k : Nat) (d1 d2 : Option Addr) (s1 s2 : Array (Option Value)) (e r : Nat → Bool) : ∀ (f i : Nat), min xs.size ys.size - i = f → Meets (Builtin.«list.__eq__.loop» ⟨[.ref a, .ref c, rawInt i, rawInt 0], []⟩)
    (fun A R s => s.heap.get? a = some (sqO "list" d1 xs n s1) ∧ s.heap.get? c = some (sqO "list" d2 ys k s2) ∧ PlEq A.in1 s xs ys e ∧ PlLt A.in1 s xs ys e r ∧ (∀ k, k < i → e k = true) ∧ R (.ok (.ret (.bool (lxR xs ys e r i)))) s)
  | 0, i, hk => by
    intro prog w A R s h
    obtain ⟨hp, g, dr, tk, os⟩ := s
    obtain ⟨ha, hc, he, hr, hup, h⟩ := h
    have hd : (List.range (min xs.size ys.size)).drop i = [] := by simp; omega
    unfold lxR at h
    rw [hd] at h
    wp_walk using wpAny_loadPart' ha, wpAny_loadPart' hc
    by_cases h1 : xs.size ≤ i
    · rw [show xs[((i : Nat) : Int).toNat]? = none by simp; omega]
      wp_walk using wpAny_loadPart' ha, wpAny_loadPart' hc
      exact h
    · have hlt : i < xs.size := by omega
      rw [show xs[((i : Nat) : Int).toNat]? = some xs[i] by simp [hlt], show ys[((i : Nat) : Int).toNat]? = none by simp; omega]
      wp_walk using wpAny_loadPart' ha, wpAny_loadPart' hc
      exact h
  | f + 1, i, hk => by
    intro prog w A R s h
    obtain ⟨hp, g, dr, tk, os⟩ := s
    obtain ⟨ha, hc, he, hr, hup, h⟩ := h
    wp_walk using wpAny_loadPart' ha, wpAny_loadPart' hc
    have hm : i < min xs.size ys.size := by omega
    have p1 : i < xs.size := by omega
    have p2 : i < ys.size := by omega
    have g1 : xs[((i : Nat) : Int).toNat]? = some xs[i] := by simp [p1]
    have g2 : ys[((i : Nat) : Int).toNat]? = some ys[i] := by simp [p2]
    have hcast : ((i : Int) + 1) = ((i + 1 : Nat) : Int) := by push_cast; rfl
    unfold lxR at h
    rw [drop_range hm] at h
    rw [g1, g2]
    refine wpAny_bind (he i p1 p2 prog w _ _ ?_)
    cases hy : e i with
    | true =>
      rw [firstLt_yes hy] at h
      wp_walk
      rw [hcast]
      exact ⟨plainId_quiet plain_eq_loop _, codeAny_builtin entry_eq_loop (by
        rw [Around.under_plainId plain_eq_loop _]
        exact lstLoopG a c xs ys n k d1 d2 s1 s2 e r f (i + 1) (by omega) prog w A R _ ⟨ha, hc, he, hr, upto hup hy, h⟩)⟩
    | false =>
      rw [firstLt_no hy] at h
      wp_walk using wpAny_loadPart' ha, wpAny_loadPart' hc
      rw [g1, g2]
      have hr' := hr i p1 p2 hup hy prog w
      dsimp only
      generalize richCompare CmpOp.Lt xs[i] ys[i] = rc at hr' ⊢
      wp_walk
      refine hr' _ _ ?_
      wp_walk
      exact h
theorem lstLtG (a c : Addr) (xs ys : Array Value) (n k : Nat) (d1 d2 : Option Addr) (s1 s2 : Array (Option Value)) (e r : Nat → Bool) : Meets (Builtin.«list.__lt__» ⟨[.ref a, .ref c], []⟩)
    (fun A R s => s.heap.get? a = some (sqO "list" d1 xs n s1) ∧ s.heap.get? c = some (sqO "list" d2 ys k s2) ∧ PlEq A.in1 s xs ys e ∧ PlLt A.in1 s xs ys e r ∧ R (.ok (.ret (.bool (lxR xs ys e r 0)))) s) := by
  intro prog w A R s h
  obtain ⟨hp, g, dr, tk, os⟩ := s
  obtain ⟨ha, hc, he, hr, h⟩ := h
  have f3 := AutoSeq1.sub_list_list
  wp_walk using wpAny_loadPart' ha, wpAny_loadPart' hc
  exact ⟨plainId_quiet plain_eq_loop _, codeAny_builtin entry_eq_loop (by
    rw [Around.under_plainId plain_eq_loop _]
    exact lstLoopG a c xs ys n k d1 d2 s1 s2 e r _ 0 rfl prog w A R _ ⟨ha, hc, he, hr, fun k z => absurd z (Nat.not_lt_zero _), by simpa using h⟩)⟩
section
variable {A : Around} {s : Shared} {a c : Addr} {xs ys : Array Value} {e r : Nat → Bool}
theorem rcTupG (ha : s.heap.IsTuple a xs) (hc : s.heap.IsTuple c ys) (hu : A.units < cLine) (he : PlEq A.in1 s xs ys e) (hr : PlLt A.in1 s xs ys e r) : RcLt A s (.ref a) (.ref c) (lxR xs ys e r 0) := fun prog w E Q h => by
  obtain ⟨⟨cls, dd, data, sl⟩, ho, k1, n, k2⟩ := id ha
  obtain ⟨⟨cls2, dd2, data2, sl2⟩, ho2, k3, n2, k4⟩ := id hc
  dsimp only at k1 k2 k3 k4
  subst k1 k2 k3 k4
  refine richCompare_meets_room (op := .Lt) ⟨_, ho, rfl⟩ ⟨_, ho2, rfl⟩ F.slot_tuple_lt F.entry_tuple_lt (F.args_tuple_lt_2 _ _) (tupLtG a c xs ys n n2 dd dd2 sl sl2 e r) ?_ hu
  exact ⟨ho, ho2, he, hr, show Value.bool (lxR xs ys e r 0) ≠ Value.notImplemented ∧ Q (.bool (lxR xs ys e r 0)) s from ⟨(fun z => nomatch z), h⟩⟩
theorem rcLstG (ha : s.heap.IsList a xs) (hc : s.heap.IsList c ys) (hu : A.units < cLine) (he : PlEq A.in1 s xs ys e) (hr : PlLt A.in1 s xs ys e r) : RcLt A s (.ref a) (.ref c) (lxR xs ys e r 0) := fun prog w E Q h => by
  obtain ⟨⟨cls, dd, data, sl⟩, ho, k1, n, k2⟩ := id ha
  obtain ⟨⟨cls2, dd2, data2, sl2⟩, ho2, k3, n2, k4⟩ := id hc
  dsimp only at k1 k2 k3 k4
  subst k1 k2 k3 k4
  refine richCompare_meets_room (op := .Lt) ⟨_, ho, rfl⟩ ⟨_, ho2, rfl⟩ F.slot_list_lt F.entry_list_lt (F.args_list_lt_2 _ _) (lstLtG a c xs ys n n2 dd dd2 sl sl2 e r) ?_ hu
  exact ⟨ho, ho2, he, hr, show Value.bool (lxR xs ys e r 0) ≠ Value.notImplemented ∧ Q (.bool (lxR xs ys e r 0)) s from ⟨(fun z => nomatch z), h⟩⟩
theorem callLstG {prog : Program} {w : World} {E : Value → Shared → Prop} {Q : Value → Shared → Prop} (ha : s.heap.IsList a xs) (hc : s.heap.IsList c ys) (he : PlEq A.in1 s xs ys e) (hr : PlLt A.in1 s xs ys e r) (h : Q (.bool (lxR xs ys e r 0)) s) :
    wpAny (model prog w) A (call (.builtin "list.__lt__") [.ref a, .ref c]) Q E s := by
  obtain ⟨⟨cls, dd, data, sl⟩, ho, k1, n, k2⟩ := id ha
  obtain ⟨⟨cls2, dd2, data2, sl2⟩, ho2, k3, n2, k4⟩ := id hc
  dsimp only at k1 k2 k3 k4
  subst k1 k2 k3 k4
  exact call_meets F.slot_list_lt ⟨_, ho, rfl⟩ F.entry_list_lt (F.args_list_lt_2 _ _) (lstLtG a c xs ys n n2 dd dd2 sl sl2 e r) ⟨ho, ho2, he, hr, h⟩
end
/-! ### < of such data -/
def clay (d : PyData) : Prop := d.canLay0 = true
theorem sft_none {u w : PyData} (h : soft u w = true) (e : PyData.eqv u w = false) : u ≠ .none := by
  rintro rfl
  cases w with
  | none => exact absurd e (by simp [PyData.eqv])
  | _ => exact absurd h (by simp [soft])
theorem pl_eq {A : Around} {s : Shared} {us ws : List PyData} {xs ys : Array Value} {as bs : List Addr} (ra : ReadsAll s.heap xs.toList us as) (rb : ReadsAll s.heap ys.toList ws bs) (cu : PyData.canLayAll0 us = true) (cw : PyData.canLayAll0 ws = true)
    (hu : A.units + min (PyData.depthAll us) (PyData.depthAll ws) < cLine) : PlEq A s xs ys (pairEq us ws) := fun j p q => by
  have := eqAt_readsAll us ws A s xs.toList ys.toList _ _ ra rb cu cw hu j (by simpa using p) (by simpa using q)
  simpa using this
theorem lxR0 {us ws : List PyData} {xs ys : Array Value} (n1 : xs.size = us.length) (n2 : ys.size = ws.length) (h : softs us ws = true) :
    lxR xs ys (pairEq us ws) (fun j => dataLt (us.getD j .none) (ws.getD j .none)) 0 = LX (keyToksAll us) (keyToksAll ws) := by
  rw [← sft_first us ws h, ← n1, ← n2]; rfl
theorem pairEq_succ {u w : PyData} {us ws : List PyData} (j : Nat) : pairEq (u :: us) (w :: ws) (j + 1) = pairEq us ws j := rfl
mutual
theorem rcSoft : ∀ (u w : PyData) (A : Around) (s : Shared) (a b : Value) (as bs : List Addr), Reads s.heap a u as → Reads s.heap b w bs → soft u w = true → clay u → clay w → u ≠ .none → A.units + min u.depth w.depth < cLine → RcLt A s a b (dataLt u w)
  | .none, _, _, _, _, _, _, _, _, _, _, _, _, hn, _ => absurd rfl hn
  | .bool x, w, A, s, a, b, as, bs, ra, rb, h, _, _, hn, hu => by
    cases w with
    | bool y => exact rcLt_alike (.bool x) (.bool y) A s a b as bs ra rb (by simp [alike]) hn hu
    | _ => exact absurd h (by simp [soft])
  | .int x, w, A, s, a, b, as, bs, ra, rb, h, _, _, hn, hu => by
    cases w with
    | int y => exact rcLt_alike (.int x) (.int y) A s a b as bs ra rb (by simp [alike]) hn hu
    | _ => exact absurd h (by simp [soft])
  | .str x, w, A, s, a, b, as, bs, ra, rb, h, _, _, hn, hu => by
    cases w with
    | str y => exact rcLt_alike (.str x) (.str y) A s a b as bs ra rb (by simp [alike]) hn hu
    | _ => exact absurd h (by simp [soft])
  | .list us, w, A, s, a, b, as, bs, ra, rb, h, cu, cw, _, hu => by
    cases w with
    | list ws =>
      have hs : softs us ws = true := by simpa [soft] using h
      have du : PyData.canLayAll0 us = true := by simpa [clay, PyData.canLay0] using cu
      have dw : PyData.canLayAll0 ws = true := by simpa [clay, PyData.canLay0] using cw
      cases ra with
      | list h1 h2 h3 h4 =>
        cases rb with
        | list k1 k2 k3 k4 =>
          have n1 := ReadsAll.length _ _ _ h4
          have n2 := ReadsAll.length _ _ _ k4
          rw [Array.length_toList] at n1 n2
          rw [dataLt_list, ← show _ = PyProof.Rows.lexLt itemOrd (keyToksAll us) (keyToksAll ws) from lxR0 n1 n2 hs]
          refine rcLstG ⟨_, h1, h2, _, h3⟩ ⟨_, k1, k2, _, k3⟩ (room_here hu) (pl_eq h4 k4 du dw (room_in hu)) fun j p q up hj => ?_
          have := rcSofts us ws A.in1 s _ _ _ _ h4 k4 hs du dw (room_in hu) j (by simpa using p) (by simpa using q) up hj
          simpa using this
    | _ => exact absurd h (by simp [soft])
  | .tuple us, w, A, s, a, b, as, bs, ra, rb, h, cu, cw, _, hu => by
    cases w with
    | tuple ws =>
      have hs : softs us ws = true := by simpa [soft] using h
      have du : PyData.canLayAll0 us = true := by simpa [clay, PyData.canLay0] using cu
      have dw : PyData.canLayAll0 ws = true := by simpa [clay, PyData.canLay0] using cw
      cases ra with
      | tuple h1 h2 h3 h4 =>
        cases rb with
        | tuple k1 k2 k3 k4 =>
          have n1 := ReadsAll.length _ _ _ h4
          have n2 := ReadsAll.length _ _ _ k4
          rw [Array.length_toList] at n1 n2
          rw [dataLt_tuple, ← show _ = PyProof.Rows.lexLt itemOrd (keyToksAll us) (keyToksAll ws) from lxR0 n1 n2 hs]
          refine rcTupG ⟨_, h1, h2, _, h3⟩ ⟨_, k1, k2, _, k3⟩ (room_here hu) (pl_eq h4 k4 du dw (room_in hu)) fun j p q up hj => ?_
          have := rcSofts us ws A.in1 s _ _ _ _ h4 k4 hs du dw (room_in hu) j (by simpa using p) (by simpa using q) up hj
          simpa using this
    | _ => exact absurd h (by simp [soft])
  | .dict _, w, _, _, _, _, _, _, _, _, h, _, _, _, _ => absurd h (by cases w <;> simp [soft])
theorem rcSofts : ∀ (us ws : List PyData) (A : Around) (s : Shared) (vs xs : List Value) (as bs : List Addr), ReadsAll s.heap vs us as → ReadsAll s.heap xs ws bs → softs us ws = true → PyData.canLayAll0 us = true → PyData.canLayAll0 ws = true →
    A.units + min (PyData.depthAll us) (PyData.depthAll ws) < cLine → ∀ j (p : j < vs.length) (q : j < xs.length), (∀ i, i < j → pairEq us ws i = true) → pairEq us ws j = false → RcLt A s vs[j] xs[j] (dataLt (us.getD j .none) (ws.getD j .none))
  | [], _, _, _, _, _, _, _, ra, _, _, _, _, _, j, p, _, _, _ => by cases ra; exact absurd p (Nat.not_lt_zero _)
  | _ :: _, [], _, _, _, _, _, _, _, rb, _, _, _, _, j, _, q, _, _ => by cases rb; exact absurd q (Nat.not_lt_zero _)
  | u :: us, w :: ws, A, s, _, _, _, _, ra, rb, h, cu, cw, hu, j, p, q, up, hj => by
    obtain ⟨c1, c2⟩ : u.canLay0 = true ∧ PyData.canLayAll0 us = true := by simpa [PyData.canLayAll0] using cu
    obtain ⟨d1, d2⟩ : w.canLay0 = true ∧ PyData.canLayAll0 ws = true := by simpa [PyData.canLayAll0] using cw
    cases ra with
    | cons r rs =>
      cases rb with
      | cons r' rs' =>
        cases j with
        | zero => exact rcSoft u w A s _ _ _ _ r r' (softs_hd h).1 c1 d1 (sft_none (softs_hd h).1 hj) (room_head hu)
        | succ j => exact rcSofts us ws A s _ _ _ _ rs rs' ((softs_hd h).2 (up 0 (Nat.succ_pos j))) c2 d2 (room_tail hu) j (Nat.lt_of_succ_lt_succ p) (Nat.lt_of_succ_lt_succ q) (fun i hi => up (i + 1) (Nat.succ_lt_succ hi)) hj
end

/-! ### as sorting compares -/
section
variable {prog : Program} {w : World} {A : Around} {E : Value → Shared → Prop} {s : Shared}
theorem oneSoft {f : Bool} {d e : PyData} {a b : Value} {as bs : List Addr} {Q : Bool → Shared → Prop} (hf : f = true → ∀ xs, d ≠ .tuple xs) (ra : Reads s.heap a d as) (rb : Reads s.heap b e bs) (h : soft d e = true) (cd : clay d) (ce : clay e) (hn : d ≠ .none)
    (hu : A.units + min d.depth e.depth < cLine) (hq : Q (dataLt d e) s) : wpAny (model prog w) A (oneLt' f a b) Q E s := by
  cases f with
  | false =>
    rw [oneLt'_eq, if_neg Bool.false_ne_true]
    exact wpAny_bind (rcSoft d e A s a b as bs ra rb h cd ce hn hu prog w E _ (wpAny_truthy_bool hq))
  | true =>
    cases d with
    | list us =>
      cases e with
      | list ws =>
        have hs : softs us ws = true := by simpa [soft] using h
        have du : PyData.canLayAll0 us = true := by simpa [clay, PyData.canLay0] using cd
        have dw : PyData.canLayAll0 ws = true := by simpa [clay, PyData.canLay0] using ce
        cases ra with
        | list h1 h2 h3 h4 =>
          cases rb with
          | list k1 k2 k3 k4 =>
            have n1 := ReadsAll.length _ _ _ h4
            have n2 := ReadsAll.length _ _ _ k4
            rw [Array.length_toList] at n1 n2
            rw [dataLt_list, ← show _ = PyProof.Rows.lexLt itemOrd (keyToksAll us) (keyToksAll ws) from lxR0 n1 n2 hs] at hq
            rw [oneLt'_eq, if_pos rfl]
            refine wpAny_bind (wpAny_cRoomFor (room_here hu) (wpAny_bind ?_))
            refine wpAny_callSpecialIfBound?_slot (T := "list") ⟨_, h1, h2⟩ F.slot_list_lt (callLstG (r := fun j => dataLt (us.getD j .none) (ws.getD j .none)) ⟨_, h1, h2, _, h3⟩ ⟨_, k1, k2, _, k3⟩ (pl_eq h4 k4 du dw (room_in hu)) (fun j p q up hj => ?_) ?_)
            · have := rcSofts us ws A.in1 s _ _ _ _ h4 k4 hs du dw (room_in hu) j (by simpa using p) (by simpa using q) up hj
              simpa using this
            · exact wpAny_truthy_bool hq
      | _ => exact absurd h (by simp [soft])
    | tuple us => exact absurd rfl (hf rfl us)
    | none => exact absurd rfl hn
    | dict _ => exact absurd h (by cases e <;> simp [soft])
    | bool x =>
      cases e with
      | bool y => exact oneLt_alike hf ra rb (by simp [alike]) hn hu hq
      | _ => exact absurd h (by simp [soft])
    | int x =>
      cases e with
      | int y => exact oneLt_alike hf ra rb (by simp [alike]) hn hu hq
      | _ => exact absurd h (by simp [soft])
    | str x =>
      cases e with
      | str y => exact oneLt_alike hf ra rb (by simp [alike]) hn hu hq
      | _ => exact absurd h (by simp [soft])
theorem katSoft {b fin : Bool} {Q : Bool → Shared → Prop} : ∀ (us ws : List PyData) (i : Nat) (vs xs : List Value) (as bs : List Addr), ReadsAll s.heap vs us as → ReadsAll s.heap xs ws bs → softs us ws = true → PyData.canLayAll0 us = true → PyData.canLayAll0 ws = true →
    A.units + min (PyData.depthAll us) (PyData.depthAll ws) < cLine → (b = true → i = 0 → ∀ x r t, us = x :: r → x ≠ .tuple t) → fin = decide (us.length < ws.length) → Q (LX (keyToksAll us) (keyToksAll ws)) s → KatLex prog w A b fin Q (vs.zip xs) i s
  | [], [], i, vs, xs, as, bs, ra, rb, _, _, _, hu, hb, hf, hq => katLex_alike [] [] i vs xs as bs ra rb (by simp [alikeAll]) hu hb hf hq
  | [], v :: vs', i, vs, xs, as, bs, ra, rb, _, _, _, hu, hb, hf, hq => katLex_alike [] (v :: vs') i vs xs as bs ra rb (by simp [alikeAll]) hu hb hf hq
  | v :: vs', [], i, vs, xs, as, bs, ra, rb, _, _, _, hu, hb, hf, hq => katLex_alike (v :: vs') [] i vs xs as bs ra rb (by simp [alikeAll]) hu hb hf hq
  | u :: us, v :: ws, i, _, _, _, _, ra, rb, h, cu, cw, hu, hb, hf, hq => by
    obtain ⟨q1, q2⟩ := softs_hd h
    obtain ⟨c1, c2⟩ : u.canLay0 = true ∧ PyData.canLayAll0 us = true := by simpa [PyData.canLayAll0] using cu
    obtain ⟨d1, d2⟩ : v.canLay0 = true ∧ PyData.canLayAll0 ws = true := by simpa [PyData.canLayAll0] using cw
    have hf' : fin = decide (us.length < ws.length) := by rw [hf]; simp
    cases ra with
    | cons r rs =>
      cases rb with
      | cons r' rs' =>
        rw [List.zip_cons_cons]
        refine kat_cons (eqAt_reads u v A s _ _ _ _ r r' c1 d1 (room_head hu) prog w _ _ ?_)
        cases hx : PyData.eqv u v with
        | true =>
          rw [sft_yes q1 hx] at hq
          exact kat_yes (katSoft us ws (i + 1) _ _ _ _ rs rs' (q2 hx) c2 d2 (room_tail hu) (fun _ z => absurd z (Nat.succ_ne_zero i)) hf' hq)
        | false =>
          rw [sft_no q1 hx] at hq
          refine kat_no (oneSoft (fun z t => ?_) r r' q1 c1 d1 (sft_none q1 hx) (room_head hu) hq)
          rw [Bool.and_eq_true] at z
          exact hb z.1 (by simpa using z.2) u us t rfl
end

/-! ### sorting -/
mutual
theorem reads_one {h : Heap} : ∀ (d e : PyData) (v : Value) (as bs : List Addr), clay d → clay e → Reads h v d as → Reads h v e bs → d = e
  | .none, _, _, _, _, _, _, r, q => by cases r; cases q; rfl
  | .bool _, _, _, _, _, _, _, r, q => by cases r; cases q; rfl
  | .int _, _, _, _, _, _, _, r, q => by cases r; cases q; rfl
  | .str _, _, _, _, _, _, _, r, q => by cases r; cases q; rfl
  | .list us, e, _, _, _, cd, ce, r, q => by
    cases r with
    | list h1 h2 h3 h4 =>
      cases q with
      | list k1 k2 k3 k4 =>
        rw [h1] at k1; cases k1
        rw [h3] at k3; cases k3
        rw [reads_ones us _ _ _ _ (by simpa [clay, PyData.canLay0] using cd) (by simpa [clay, PyData.canLay0] using ce) h4 k4]
      | tuple k1 k2 k3 k4 =>
        rw [h1] at k1; cases k1
        rw [h2] at k2
        injection k2 with k2
        exact absurd k2 (by decide)
      | dict k1 k2 k3 k4 k5 => exact absurd ce (by simp [clay, PyData.canLay0])
  | .tuple us, e, _, _, _, cd, ce, r, q => by
    cases r with
    | tuple h1 h2 h3 h4 =>
      cases q with
      | tuple k1 k2 k3 k4 =>
        rw [h1] at k1; cases k1
        rw [h3] at k3; cases k3
        rw [reads_ones us _ _ _ _ (by simpa [clay, PyData.canLay0] using cd) (by simpa [clay, PyData.canLay0] using ce) h4 k4]
      | list k1 k2 k3 k4 =>
        rw [h1] at k1; cases k1
        rw [h2] at k2
        injection k2 with k2
        exact absurd k2 (by decide)
      | dict k1 k2 k3 k4 k5 => exact absurd ce (by simp [clay, PyData.canLay0])
  | .dict _, _, _, _, _, cd, _, _, _ => absurd cd (by simp [clay, PyData.canLay0])
theorem reads_ones {h : Heap} : ∀ (us ws : List PyData) (vs : List Value) (as bs : List Addr), PyData.canLayAll0 us = true → PyData.canLayAll0 ws = true → ReadsAll h vs us as → ReadsAll h vs ws bs → us = ws
  | [], _, _, _, _, _, _, r, q => by cases r; cases q; rfl
  | u :: us, [], _, _, _, _, _, r, q => by cases q; cases r
  | u :: us, w :: ws, _, _, _, cu, cw, r, q => by
    obtain ⟨c1, c2⟩ : u.canLay0 = true ∧ PyData.canLayAll0 us = true := by simpa [PyData.canLayAll0] using cu
    obtain ⟨d1, d2⟩ : w.canLay0 = true ∧ PyData.canLayAll0 ws = true := by simpa [PyData.canLayAll0] using cw
    cases r with
    | cons h1 h2 =>
      cases q with
      | cons k1 k2 => rw [reads_one u w _ _ _ c1 d1 h1 k1, reads_ones us ws _ _ _ c2 d2 h2 k2]
end
/-- each two may be compared -/
structure AllSoft (ds : List PyData) : Prop where
  two : ∀ d, d ∈ ds → ∀ e, e ∈ ds → soft d e = true
  lay : ∀ d, d ∈ ds → clay d
theorem kindSoft {h : Heap} {ds : List PyData} (al : AllSoft ds) {v : Value} {d : PyData} {as : List Addr} (hd : d ∈ ds) (r : Reads h v d as) : (dataKind h ds).keyOf v = some (keyToks d) := by
  have ex : ∃ d, d ∈ ds ∧ ∃ as, Reads h v d as := ⟨d, hd, as, r⟩
  cases e : (dataKind h ds).keyOf v with
  | none =>
    have e2 : (dataKind h ds).keyOf v = some (keyToks ex.choose) := by
      show (open Classical in if q : ∃ d, d ∈ ds ∧ ∃ as, Reads h v d as then some (keyToks q.choose) else none) = _
      rw [dif_pos ex]
    rw [e] at e2; cases e2
  | some k =>
    obtain ⟨d2, as2, m2, r2, rfl⟩ := dataKind_inv e
    have e3 := reads_one d2 d _ _ _ (al.lay _ m2) (al.lay _ hd) r2 r
    subst e3
    rfl
theorem type_soft {u w : PyData} (h : soft u w = true) : dataType u = dataType w := by
  cases u <;> cases w <;> first | rfl | exact absurd h (by simp [soft])
section
variable {prog : Program} {w : World} {A : Around} {s : Shared} {β : Type} {vs : List Value} {bs : List β} {enc : β → PyData} {R : Value → β → Prop}
theorem sortsSoft {vs : List Value} {ds : List PyData} (e : EachIs (fun v d => ∃ as, Reads s.heap v d as) vs ds) (al : AllSoft ds) (hk : Sortable ds) (hu : ∀ d, d ∈ ds → A.units + d.depth < cLine) : SortsAt prog w A s (dataKind s.heap ds) vs := by
  have room : ∀ {d d' : PyData}, d ∈ ds → A.units + min d.depth d'.depth < cLine := fun {d d'} hd => by have := hu d hd; have := Nat.min_le_left d.depth d'.depth; omega
  refine ⟨fun v hv => ?_, ?_⟩
  · obtain ⟨d, hd, as, r⟩ := e.left v hv
    exact ⟨_, kindSoft al hd r⟩
  · rcases hk with ht | hn
    · cases ds with
      | nil =>
        cases e
        exact ⟨general', fun E x y a b Q ha _ _ => (by
          obtain ⟨d, _, hd, _⟩ := dataKind_inv ha
          cases hd), fun h2 => absurd h2 (by simp)⟩
      | cons d0 dr =>
        obtain ⟨x0, r0, e0⟩ := ht d0 (List.mem_cons_self ..)
        have hfirst : ∀ x r, PyData.tuple (x :: r) ∈ d0 :: dr → soft x x0 = true := fun x r hm => by
          have q := al.two _ hm d0 (List.mem_cons_self ..)
          rw [e0] at q
          exact (softs_hd (by simpa [soft] using q)).1
        refine ⟨tuples' (dataType x0 != Value.type "tuple"), ?_, fun h2 E Q hq => ?_⟩
        · intro E x y a b Q ha hb hq
          obtain ⟨d, as, hd, ra, rfl⟩ := dataKind_inv ha
          obtain ⟨d', as', hd', rb, rfl⟩ := dataKind_inv hb
          have hdd := al.two d hd d' hd'
          have hroom := room (d' := d') hd
          have c1 := al.lay _ hd
          have c2 := al.lay _ hd'
          obtain ⟨x1, r1, rfl⟩ := ht d hd
          obtain ⟨x2, r2, rfl⟩ := ht d' hd'
          have hq' : Q (dataLt (.tuple (x1 :: r1)) (.tuple (x2 :: r2))) s := hq
          rw [dataLt_tuple] at hq'
          cases ra with
          | tuple h1 h2 h3 h4 =>
            cases rb with
            | tuple k1 k2 k3 k4 =>
              have n1 := ReadsAll.length _ _ _ h4
              have n2 := ReadsAll.length _ _ _ k4
              rw [Array.length_toList] at n1 n2
              refine kat_lt h1 h3 k1 k3 (katSoft (x1 :: r1) (x2 :: r2) 0 _ _ _ _ h4 k4 (by simpa [soft] using hdd) (by simpa [clay, PyData.canLay0] using c1) (by simpa [clay, PyData.canLay0] using c2) (by have q := room_in hroom; omega) (fun hb _ x r t ex => ?_) (by rw [n1, n2]) hq')
              obtain ⟨rfl, rfl⟩ := List.cons.inj ex
              rw [← type_soft (hfirst _ _ hd)] at hb
              exact dataType_tuple hb t
        · obtain ⟨fs, t1, t2, t3⟩ := each_katTups e ht
          refine kat_kind (T := dataType x0) t1 (by omega) (fun f hf => ?_) (beq_self_eq_true _) hq
          obtain ⟨x, r, as, m1, m2⟩ := t3 f hf
          rw [← type_soft (hfirst x r m1)]
          exact looks_reads m2
    · refine ⟨oneType', ?_, fun h2 E Q hq => ?_⟩
      · intro E x y a b Q ha hb hq
        obtain ⟨d, as, hd, ra, rfl⟩ := dataKind_inv ha
        obtain ⟨d', as', hd', rb, rfl⟩ := dataKind_inv hb
        rw [keyLt'_oneType]
        exact oneSoft (fun _ => (hn d hd).2) ra rb (al.two d hd d' hd') (al.lay _ hd) (al.lay _ hd') (hn d hd).1 (room hd) hq
      · cases ds with
        | nil => cases e; exact absurd h2 (by simp)
        | cons d0 dr =>
          refine kas_kind (T := dataType d0) h2 (fun v hv => ?_) (dataType_other (hn d0 (List.mem_cons_self ..)).2) (beq_self_eq_true _) hq
          obtain ⟨d, hd, as, r⟩ := e.left v hv
          rw [← type_soft (al.two _ hd d0 (List.mem_cons_self ..))]
          exact looks_reads r
theorem keysSoft {h : Heap} {ds : List PyData} (al : AllSoft ds) : ∀ {vs : List Value} {es : List PyData}, (∀ d ∈ es, d ∈ ds) → EachIs (fun v d => ∃ as, Reads h v d as) vs es → EachIs (fun v d => (dataKind h ds).keyOf v = some (keyToks d)) vs es
  | _, _, _, .nil => .nil
  | _, _, hsub, .cons ⟨as, r⟩ t => .cons (kindSoft al (hsub _ (List.mem_cons_self ..)) r) (keysSoft al (fun d hd => hsub d (List.mem_cons_of_mem _ hd)) t)
/-- sorted(xs): a new list -/
theorem sortedSoft {l : Addr} {E : Value → Shared → Prop} {Q : Value → Shared → Prop} (hl : s.heap.IsList l vs.toArray) (e : EachIs R vs bs) (er : EachIs (fun v b => ∃ as, Reads s.heap v (enc b) as) vs bs) (al : AllSoft (bs.map enc)) (hk : Sortable (bs.map enc)) (hL : bs.length ≤ sizeLine)
    (hu : ∀ b, b ∈ bs → A.units + 2 + (enc b).depth < cLine) (h : ∀ out, out.length = bs.length → EachIs R out (bs.mergeSort (dataLe false enc)) → Q (.ref (s.heap.objs.size + 1)) { s with heap := sortedAll s.heap vs (List.toArray out) }) :
    wpAny (model prog w) A (call (.builtin "sorted") [.ref l]) Q E s := by
  have er' : EachIs (fun v b => ∃ as, Reads (sortingHeap (copyHeap s.heap vs) (s.heap.objs.size + 1) vs) v (enc b) as) vs bs := er.mono fun _ _ ⟨as, r⟩ => ⟨as, PyProof.Rows.Reads.keeps (fun _ _ => sorting_copy_old) r⟩
  have em := each_map (R := fun v d => ∃ as, Reads (sortingHeap (copyHeap s.heap vs) (s.heap.objs.size + 1) vs) v d as) enc er'
  refine sorted_vals hl (sortsSoft (s := { s with heap := sortingHeap (copyHeap s.heap vs) (s.heap.objs.size + 1) vs }) em al hk (fun d hd => ?_)) (by rw [e.length]; exact hL) (h _ (by rw [sortVals_length false rfl]; exact e.length) ?_)
  · obtain ⟨b, hb, rfl⟩ := List.mem_map.mp hd
    exact hu b hb
  · exact sortVals_each (κ := dataKind (sortingHeap (copyHeap s.heap vs) (s.heap.objs.size + 1) vs) (bs.map enc)) (fun b => keyToks (enc b)) e (each_of_map enc (keysSoft al (fun _ z => z) em))
end
end FL
/-! FL3: equality, order, membership, items and slices by plain values. -/
namespace FL
open PySem PySem.Spec PyProof.Rows L2

/-! ### what a value is as data -/
def mapO {α β : Type} (f : α → Option β) : List α → Option (List β)
  | [] => some []
  | x :: xs => match f x with
    | some y => match mapO f xs with
      | some ys => some (y :: ys)
      | none => none
    | none => none
def snap (h : MH) : Nat → PV → Option PyData
  | _, .non => some .none
  | _, .bl b => some (.bool b)
  | _, .int i => some (.int i)
  | _, .str l => some (.str (S l))
  | n + 1, .tup xs => (mapO (snap h n) xs).map .tuple
  | n + 1, .ref k => match lget h k with
    | some xs => (mapO (snap h n) xs).map .list
    | none => none
  | _, _ => none
abbrev dp : Nat := 60
def snaps (h : MH) (xs : List PV) : Option (List PyData) := mapO (snap h dp) xs

theorem strOk_S (l : List Char) : PyData.strOk (S l) = true := by
  simp only [PyData.strOk, S, ← Array.all_toList, List.all_map, List.all_eq_true]
  intro c _
  have := c.valid
  simp only [Function.comp_apply, decide_eq_true_eq]
  rcases this with h | h
  · show c.val.toNat < _; omega
  · show c.val.toNat < _; omega

section
variable {P : Program} {w : World} {K : PySem.W.Frag} {H : Hp} {ad : List Addr} {mh : MH}
theorem snap_all {n : Nat} (s : Sim P w K H ad mh) (ih : ∀ (p : PV) (v : V) (d : PyData), Rv K H ad p v → snap mh n p = some d → Dp K H v d ∧ d.canLay0 = true ∧ d.depth ≤ n) :
    ∀ (ps : List PV) (vs : List V) (ds : List PyData), Rvs K H ad ps vs → mapO (snap mh n) ps = some ds → DpAll K H vs ds ∧ PyData.canLayAll0 ds = true ∧ PyData.depthAll ds ≤ n
  | [], vs, ds, r, e => by
    simp only [Rvs] at r; subst r
    simp only [mapO, Option.some.injEq] at e; subst e
    exact ⟨.nil, rfl, by simp [PyData.depthAll]⟩
  | p :: ps, vs, ds, r, e => by
    simp only [Rvs] at r
    obtain ⟨v, vr, rfl, h1, h2⟩ := r
    unfold mapO at e
    split at e
    · rename_i d e1
      split at e
      · rename_i ds' e2
        cases e
        obtain ⟨a1, a2, a3⟩ := ih p v d h1 e1
        obtain ⟨b1, b2, b3⟩ := snap_all s ih ps vr ds' h2 e2
        exact ⟨.cons a1 b1, by simp [PyData.canLayAll0, a2, b2], by simp only [PyData.depthAll]; omega⟩
      · cases e
    · cases e
theorem snap_ok (s : Sim P w K H ad mh) : ∀ (n : Nat) (p : PV) (v : V) (d : PyData), Rv K H ad p v → snap mh n p = some d → Dp K H v d ∧ d.canLay0 = true ∧ d.depth ≤ n
  | n, .non, v, d, r, e => by
    simp only [Rv] at r; subst r; simp only [snap, Option.some.injEq] at e; subst e; exact ⟨.non, rfl, by simp [PyData.depth]⟩
  | n, .bl b, v, d, r, e => by
    simp only [Rv] at r; subst r; simp only [snap, Option.some.injEq] at e; subst e; exact ⟨.bl _, rfl, by simp [PyData.depth]⟩
  | n, .int b, v, d, r, e => by
    simp only [Rv] at r; subst r; simp only [snap, Option.some.injEq] at e; subst e; exact ⟨.int _, rfl, by simp [PyData.depth]⟩
  | n, .str b, v, d, r, e => by
    simp only [Rv] at r; subst r; simp only [snap, Option.some.injEq] at e; subst e; exact ⟨.str _, strOk_S b, by simp [PyData.depth]⟩
  | 0, .tup xs, v, d, r, e => by simp [snap] at e
  | n + 1, .tup xs, v, d, r, e => by
    simp only [snap, Option.map_eq_some_iff] at e
    obtain ⟨ds, e, rfl⟩ := e
    simp only [Rv] at r
    obtain ⟨a, vs, rfl, hs, hr⟩ := r
    obtain ⟨a1, a2, a3⟩ := snap_all s (snap_ok s n) xs vs ds hr e
    exact ⟨.tup hs a1, by simpa [PyData.canLay0] using a2, by simp only [PyData.depth]; omega⟩
  | 0, .ref k, v, d, r, e => by simp [snap] at e
  | n + 1, .ref k, v, d, r, e => by
    simp only [snap] at e
    split at e
    · rename_i xs e1
      simp only [Option.map_eq_some_iff] at e
      obtain ⟨ds, e, rfl⟩ := e
      simp only [Rv] at r
      obtain ⟨a, rfl, ha⟩ := r
      obtain ⟨vs, hs, hr⟩ := s.list e1 ha
      obtain ⟨a1, a2, a3⟩ := snap_all s (snap_ok s n) xs vs ds hr e
      exact ⟨.lst hs a1, by simpa [PyData.canLay0] using a2, by simp only [PyData.depth]; omega⟩
    · cases e
  | n, .exc c xs, v, d, r, e => by cases n <;> simp [snap] at e
theorem snap_sh (s : Sim P w K H ad mh) {p : PV} {v : V} {d : PyData} (r : Rv K H ad p v) (e : snap mh dp p = some d) : Dp K H v d ∧ SeqAt.shaped d = true := by
  obtain ⟨a1, a2, a3⟩ := snap_ok s dp p v d r e
  refine ⟨a1, ?_⟩
  rw [SeqAt.shaped, a2, Bool.true_and]
  exact decide_eq_true (by unfold dp at a3; omega)
theorem snaps_sh (s : Sim P w K H ad mh) {ps : List PV} {vs : List V} {ds : List PyData} (r : Rvs K H ad ps vs) (e : snaps mh ps = some ds) : DpAll K H vs ds ∧ PyData.canLayAll0 ds = true ∧ PyData.depthAll ds ≤ dp :=
  snap_all s (snap_ok s dp) ps vs ds r e
end

def eqM (x y : PV) : M PV := fun h => match snap h dp x, snap h dp y with
  | some d, some e => .ok (.bl (PyData.eqv d e)) h
  | _, _ => .bad
def neM (x y : PV) : M PV := fun h => match snap h dp x, snap h dp y with
  | some d, some e => .ok (.bl (!PyData.eqv d e)) h
  | _, _ => .bad
def lexC : List Char → List Char → Bool
  | [], [] => false
  | [], _ :: _ => true
  | _ :: _, [] => false
  | a :: l, b :: m => if a.toNat < b.toNat then true else if b.toNat < a.toNat then false else lexC l m
theorem lexC_eq : ∀ l m : List Char, decide (l.map Char.toNat < m.map Char.toNat) = lexC l m
  | [], [] => by simp [lexC]
  | [], _ :: _ => by simp [lexC]
  | _ :: _, [] => by simp [lexC]
  | a :: l, b :: m => by
    have ih := lexC_eq l m
    simp only [List.map_cons, lexC]
    by_cases h1 : a.toNat < b.toNat
    · rw [if_pos h1]; simp [List.cons_lt_cons_iff, h1]
    · rw [if_neg h1]
      by_cases h2 : b.toNat < a.toNat
      · rw [if_pos h2]; simp [List.cons_lt_cons_iff, h1]; omega
      · rw [if_neg h2, ← ih]
        have e : a.toNat = b.toNat := by omega
        simp [List.cons_lt_cons_iff, e]
/-- all data that the library's order knows: alike -/
def ltM (x y : PV) : M PV := fun h => match x, y with
  | .int i, .int j => .ok (.bl (decide (i < j))) h
  | .str a, .str b => .ok (.bl (lexC a b)) h
  | .tup _, .tup _ => match snap h dp x, snap h dp y with
    | some d, some e => if soft d e then .ok (.bl (PySem.W.dataLt d e)) h else .bad
    | _, _ => .bad
  | _, _ => .bad
def leM : PV → PV → M PV
  | .int i, .int j => M.ret (.bl (decide (i ≤ j)))
  | _, _ => M.bad
def gtM : PV → PV → M PV
  | .int i, .int j => M.ret (.bl (decide (j < i)))
  | _, _ => M.bad
def geM : PV → PV → M PV
  | .int i, .int j => M.ret (.bl (decide (j ≤ i)))
  | _, _ => M.bad
def isM : PV → PV → M PV
  | .non, .non => M.ret (.bl true)
  | .bl _, .non => M.ret (.bl false)
  | .int _, .non => M.ret (.bl false)
  | .str _, .non => M.ret (.bl false)
  | .tup _, .non => M.ret (.bl false)
  | .ref _, .non => M.ret (.bl false)
  | _, _ => M.bad
def isnM : PV → PV → M PV
  | .non, .non => M.ret (.bl false)
  | .bl _, .non => M.ret (.bl true)
  | .int _, .non => M.ret (.bl true)
  | .str _, .non => M.ret (.bl true)
  | .tup _, .non => M.ret (.bl true)
  | .ref _, .non => M.ret (.bl true)
  | _, _ => M.bad
/-- a dict's value at a key -/
def kvAt (kvs : List (PV × PV)) (k : PV) : Option PV := (kvs.find? fun kv => decide (nk kv.1 = nk k)).map (·.2)
def flatK : PV → Bool
  | .int _ => true
  | .str _ => true
  | _ => false
def tupK : PV → Bool
  | .tup _ => true
  | _ => false
def nkd (k : PV) : Bool := match nk k with
  | some n => decide (n.depth ≤ 8)
  | none => false
def hasM (x : PV) (n : Nat) : M Bool := fun h => match h[n]? with
  | some (.dct kvs) => if flatK x then .ok (kvAt kvs x).isSome h else .bad
  | some (.dtp kvs) => if tupK x && nkd x then .ok (kvAt kvs x).isSome h else .bad
  | some (.lst xs) => match snap h dp x, snap h dp (.ref n) with
    | some d, some (.list ds) => .ok (ds.any fun z => PyData.eqv z d) h
    | _, _ => .bad
  | some (.rls xs) => match snap h dp x, snap h dp (.ref n) with
    | some d, some (.list ds) => .ok (ds.any fun z => PyData.eqv z d) h
    | _, _ => .bad
  | _ => .bad
def inB (x y : PV) : M Bool := fun h => match x, y with
  | .str [c], .str l => .ok (decide (c ∈ l)) h
  | _, .tup ys => match snap h dp x, snap h dp y with
    | some d, some (.tuple ds) => .ok (ds.any fun z => PyData.eqv z d) h
    | _, _ => .bad
  | _, .ref n => hasM x n h
  | _, _ => .bad
def inM (x y : PV) : M PV := do let b ← inB x y; M.ret (.bl b)
def ninM (x y : PV) : M PV := do let b ← inB x y; M.ret (.bl (!b))
def cmpM : CmpOp → PV → PV → M PV
  | .Eq => eqM
  | .NotEq => neM
  | .Lt => ltM
  | .LtE => leM
  | .Gt => gtM
  | .GtE => geM
  | .In => inM
  | .NotIn => ninM
  | .Is => isM
  | .IsNot => isnM
end FL
/-! FL4: comparisons by plain values. -/
namespace FL
open PySem PySem.Spec PyProof.Rows L2
section
variable {X : Cx}
theorem rvbl {H : Hp} {ad : List Addr} (b : Bool) : RvX X H ad (.bl b) (.bl b) := by simp [RvX, Rv]
theorem clay_of {d : PyData} (h : SeqAt.shaped d = true) : clay d := by
  rw [SeqAt.shaped, Bool.and_eq_true] at h
  exact h.1
theorem eq_ok (hu : X.A.units + 65 < cLine) : OpM X (compareOp .Eq) eqM := by
  intro pins s σ H x y v u Q px py mh ad I rx ry hs h1 h2 g
  unfold eqM at g
  split at g
  · rename_i d e e1 e2
    obtain ⟨a1, a2⟩ := snap_sh hs h1 e1
    obtain ⟨b1, b2⟩ := snap_sh hs h2 e2
    exact op_eqD (by omega) pins s σ H x y v u Q I rx ry ⟨d, e, a1, b1, a2, b2, g.pure hs (rvbl _)⟩
  · exact g.elim
theorem ne_ok (hu : X.A.units + 65 < cLine) : OpM X (compareOp .NotEq) neM := by
  intro pins s σ H x y v u Q px py mh ad I rx ry hs h1 h2 g
  unfold neM at g
  split at g
  · rename_i d e e1 e2
    obtain ⟨a1, a2⟩ := snap_sh hs h1 e1
    obtain ⟨b1, b2⟩ := snap_sh hs h2 e2
    exact op_neD (by omega) pins s σ H x y v u Q I rx ry ⟨d, e, a1, b1, a2, b2, g.pure hs (rvbl _)⟩
  · exact g.elim
theorem lt_ok (hu : X.A.units + 65 < cLine) : OpM X (compareOp .Lt) ltM := by
  intro pins s σ H x y v u Q px py mh ad I rx ry hs h1 h2 g
  unfold ltM at g
  split at g
  · simp only [Rv] at h1 h2; subst h1; subst h2
    exact op_lt pins s σ H _ _ v u Q I rx ry ⟨_, _, rfl, rfl, g.pure hs (rvbl _)⟩
  · simp only [Rv] at h1 h2; subst h1; subst h2
    refine op_lt_str pins s σ H _ _ v u Q I rx ry ⟨_, _, rfl, rfl, ?_⟩
    rw [S_cps, S_cps, lexC_eq]
    exact g.pure hs (rvbl _)
  · split at g
    · rename_i xs ys _ _ d e e1 e2
      split at g
      · rename_i hal
        obtain ⟨a1, a2⟩ := snap_sh hs h1 e1
        obtain ⟨b1, b2⟩ := snap_sh hs h2 e2
        obtain ⟨as, r1⟩ := Dp.reads I d x v a1 rx
        obtain ⟨bs, r2⟩ := Dp.reads I e y u b1 ry
        have hd := SeqAt.depth_of_shaped a2
        have hn : d ≠ .none := by
          rintro rfl
          simp only [snap, Option.map_eq_some_iff] at e1
          obtain ⟨_, _, e1⟩ := e1
          cases e1
        exact rcSoft d e X.A s v u as bs r1 r2 hal (clay_of a2) (clay_of b2) hn (by omega) X.prog X.w _ _ ⟨.bl _, H, I, rfl, g.pure hs (rvbl _)⟩
      · exact g.elim
    · exact g.elim
  · exact g.elim
theorem le_ok : OpM X (compareOp .LtE) leM := by
  intro pins s σ H x y v u Q px py mh ad I rx ry hs h1 h2 g
  unfold leM at g
  split at g
  · simp only [Rv] at h1 h2; subst h1; subst h2
    exact op_le pins s σ H _ _ v u Q I rx ry ⟨_, _, rfl, rfl, g.pure hs (rvbl _)⟩
  · exact g.elim
theorem gt_ok : OpM X (compareOp .Gt) gtM := by
  intro pins s σ H x y v u Q px py mh ad I rx ry hs h1 h2 g
  unfold gtM at g
  split at g
  · simp only [Rv] at h1 h2; subst h1; subst h2
    exact op_gt pins s σ H _ _ v u Q I rx ry ⟨_, _, rfl, rfl, g.pure hs (rvbl _)⟩
  · exact g.elim
theorem ge_ok : OpM X (compareOp .GtE) geM := by
  intro pins s σ H x y v u Q px py mh ad I rx ry hs h1 h2 g
  unfold geM at g
  split at g
  · simp only [Rv] at h1 h2; subst h1; subst h2
    exact op_ge pins s σ H _ _ v u Q I rx ry ⟨_, _, rfl, rfl, g.pure hs (rvbl _)⟩
  · exact g.elim
theorem is_ok : OpM X (compareOp .Is) isM := by
  intro pins s σ H x y v u Q px py mh ad I rx ry hs h1 h2 g
  refine op_isN pins s σ H x y v u Q I rx ry ?_
  unfold isM at g
  split at g
  all_goals first
    | exact g.elim
    | (simp only [Rv] at h1 h2
       subst h2
       first | subst h1 | (obtain ⟨a, vs, rfl, _, _⟩ := h1) | (obtain ⟨a, rfl, _⟩ := h1)
       exact ⟨rfl, g.pure hs (rvbl _)⟩)
theorem isn_ok : OpM X (compareOp .IsNot) isnM := by
  intro pins s σ H x y v u Q px py mh ad I rx ry hs h1 h2 g
  refine op_notN pins s σ H x y v u Q I rx ry ?_
  unfold isnM at g
  split at g
  all_goals first
    | exact g.elim
    | (simp only [Rv] at h1 h2
       subst h2
       first | subst h1 | (obtain ⟨a, vs, rfl, _, _⟩ := h1) | (obtain ⟨a, rfl, _⟩ := h1)
       exact ⟨rfl, g.pure hs (rvbl _)⟩)
end
end FL
/-! FL5: dicts by plain values. -/
namespace FL
open PySem PySem.Spec PyProof.Rows L2
section
variable {X : Cx} {pins : List (Addr × Obj)} {σ : L2.St} {H : Hp} {s : Shared} {ad : List Addr} {mh : MH}
mutual
theorem nk_is (I : Inv X pins σ H s) : ∀ (p : PV) (v : V) (u : Value) (k : NestedKey), Rv X.K H ad p v → RelV v u → nk p = some k → NestedIs s.heap k u
  | .non, v, u, k, r, ru, e => by
    simp only [Rv] at r; subst r; cases ru; simp only [nk, Option.some.injEq] at e; subst e; exact .none
  | .bl b, v, u, k, r, ru, e => by
    simp only [Rv] at r; subst r; cases ru; simp only [nk, Option.some.injEq] at e; subst e; exact .bool rfl
  | .int i, v, u, k, r, ru, e => by
    simp only [Rv] at r; subst r; obtain ⟨t, rfl⟩ := ru; simp only [nk, Option.some.injEq] at e; subst e; exact .int i t
  | .str l, v, u, k, r, ru, e => by
    simp only [Rv] at r; subst r; obtain ⟨t, rfl⟩ := ru; simp only [nk, Option.some.injEq] at e; subst e; exact .text _ t
  | .tup xs, v, u, k, r, ru, e => by
    simp only [Rv] at r
    obtain ⟨a, vs, rfl, hs, hr⟩ := r
    cases ru
    simp only [nk, Option.map_eq_some_iff] at e
    obtain ⟨ks, e, rfl⟩ := e
    obtain ⟨its, rv, ⟨o, ho, hc, n, hd⟩, _⟩ := I.tuple hs
    exact .tup ho hc hd (nks_is I xs vs its ks hr rv e)
  | .ref n, v, u, k, r, ru, e => by simp [nk] at e
  | .exc c xs, v, u, k, r, ru, e => by simp [nk] at e
theorem nks_is (I : Inv X pins σ H s) : ∀ (ps : List PV) (vs : List V) (us : List Value) (ks : List NestedKey), Rvs X.K H ad ps vs → Vals vs us → nks ps = some ks → NestedAll s.heap ks us
  | [], vs, us, ks, r, ru, e => by
    simp only [Rvs] at r; subst r; cases ru; simp only [nks, Option.some.injEq] at e; subst e; exact .nil
  | p :: ps, vs, us, ks, r, ru, e => by
    simp only [Rvs] at r
    obtain ⟨v, vr, rfl, h1, h2⟩ := r
    cases ru with
    | cons r1 r2 =>
      unfold nks at e
      split at e
      · rename_i k ks' e1 e2
        cases e
        exact .cons (nk_is I p v _ k h1 r1 e1) (nks_is I ps vr _ ks' h2 r2 e2)
      · cases e
end
end
/-- the pairs of a dict with tuple keys, as the library reads it -/
theorem Paired.mem_r {α β : Type} {F : α → β → Prop} : ∀ {l : List α} {m : List β}, Paired F l m → ∀ y ∈ m, ∃ x, x ∈ l ∧ F x y
  | _, _, .nil, y, hy => by simp at hy
  | _, _, .cons h t, y, hy => by
    rcases List.mem_cons.mp hy with rfl | hy
    · exact ⟨_, by simp, h⟩
    · obtain ⟨x, hx, hf⟩ := Paired.mem_r t y hy
      exact ⟨x, by simp [hx], hf⟩
theorem Paired.map_eq {α β γ : Type} {F : α → β → Prop} {f : α → γ} {g : β → γ} (h : ∀ a b, F a b → f a = g b) : ∀ {l : List α} {m : List β}, Paired F l m → l.map f = m.map g
  | _, _, .nil => rfl
  | _, _, .cons q t => by simp [h _ _ q, Paired.map_eq h t]
section
variable {X : Cx} {pins : List (Addr × Obj)} {σ : L2.St} {H : Hp} {s : Shared} {ad : List Addr} {mh : MH} {a : Addr} {kvs : List (PV × PV)}
abbrev KRel (K : PySem.W.Frag) (H : Hp) (ad : List Addr) : PV × PV → NestedKey × Addr × V → Prop := fun x y => nk x.1 = some y.1 ∧ y.1.depth ≤ 8 ∧ Rv K H ad x.1 (.ref y.2.1) ∧ (∃ qs, x.1 = .tup qs) ∧ Rv K H ad x.2 y.2.2
abbrev YRel : NestedKey × Addr × V → NestedKey × Addr × Value → Prop := fun x y => x.1 = y.1 ∧ x.2.1 = y.2.1 ∧ RelV x.2.2 y.2.2
theorem dtp_read (I : Inv X pins σ H s) {xs : List (NestedKey × Addr × V)} (e : H a = some (dtpO X.prog X.w a xs)) (nd : (xs.map (·.1)).Nodup) (r : Paired (KRel X.K H ad) kvs xs) :
    ∃ ys, Paired YRel xs ys ∧ s.heap.DictOfH (nestedKind X.prog X.w) a ys := by
  obtain ⟨⟨ys, py, o, es, ep, h1, h2, h3, h4⟩, _, _⟩ := I.hok a _ e
  refine ⟨ys, py, o, es, ep, h1, h2, h3, h4, fun y hy => ?_, ?_⟩
  · obtain ⟨x, hx, f1, f2, f3⟩ := Paired.mem_r py y hy
    obtain ⟨kv, _, g1, g2, g3, g4, g5⟩ := Paired.mem_r r x hx
    rw [← f1, ← f2]
    exact ⟨nk_is I _ _ _ _ g3 rfl g1, g2⟩
  · rw [← Paired.map_eq (f := fun x : NestedKey × Addr × V => x.1) (g := fun y : NestedKey × Addr × Value => y.1) (fun a b q => q.1) py]
    exact nd
theorem kv_find {K : PySem.W.Frag} {k : PV} {n : NestedKey} (hk : nk k = some n) : ∀ {kvs : List (PV × PV)} {xs : List (NestedKey × Addr × V)} {ys : List (NestedKey × Addr × Value)}, Paired (KRel K H ad) kvs xs → Paired YRel xs ys →
    (kvAt kvs k = none ∧ atKey ys n = none) ∨ ∃ p v b u, kvAt kvs k = some p ∧ atKey ys n = some (b, u) ∧ Rv K H ad p v ∧ RelV v u
  | _, _, _, .nil, .nil => .inl ⟨rfl, rfl⟩
  | _, _, _, .cons (a := kv) (b := x) q t, .cons (b := y) q' t' => by
    obtain ⟨g1, g2, g3, g4, g5⟩ := q
    obtain ⟨f1, f2, f3⟩ := q'
    unfold kvAt atKey
    simp only [List.find?_cons]
    rw [g1, hk]
    by_cases hx : x.1 = n
    · have hy : y.1 = n := f1 ▸ hx
      simp only [hx, hy, decide_true]
      exact .inr ⟨kv.2, x.2.2, y.2.1, y.2.2, rfl, rfl, g5, f3⟩
    · have hy : ¬ y.1 = n := f1 ▸ hx
      have hx' : ¬ (some x.1 = some n) := fun z => hx (Option.some.inj z)
      simp only [hx', hy, decide_false]
      have := kv_find hk t t'
      unfold kvAt atKey at this
      rw [hk] at this
      exact this
theorem dct_find {K : PySem.W.Frag} {k : PV} {n : Key} (hk : pvK n k) : ∀ {kvs : List (PV × PV)} {ws : List (Key × V)}, Paired (fun (x : PV × PV) (y : Key × V) => pvK y.1 x.1 ∧ Rv K H ad x.2 y.2) kvs ws →
    (kvAt kvs k = none ∧ valV ws n = none) ∨ ∃ p v, kvAt kvs k = some p ∧ valV ws n = some v ∧ Rv K H ad p v
  | _, _, .nil => .inl ⟨rfl, rfl⟩
  | _, _, .cons (a := kv) (b := y) q t => by
    have key : ∀ {m : Key} {p : PV}, pvK m p → (decide (nk p = nk k)) = decide (m = n) := by
      intro m p hm
      cases m with
      | inl i =>
        have hp : p = .int i := hm
        subst hp
        cases n with
        | inl j =>
          have : k = .int j := hk
          subst this
          simp [nk]
        | inr x =>
          obtain ⟨l, rfl, rfl⟩ := hk
          simp [nk]
      | inr x =>
        obtain ⟨l, rfl, rfl⟩ := hm
        cases n with
        | inl j =>
          have : k = .int j := hk
          subst this
          simp [nk]
        | inr x =>
          obtain ⟨m, rfl, rfl⟩ := hk
          simp [nk]
    unfold kvAt valV
    simp only [List.find?_cons]
    rw [key q.1]
    by_cases hx : y.1 = n
    · simp only [hx, decide_true]
      exact .inr ⟨kv.2, y.2, rfl, rfl, q.2⟩
    · simp only [hx, decide_false]
      have := dct_find hk t
      unfold kvAt valV at this
      exact this
theorem flat_key {K : PySem.W.Frag} {p : PV} {v : V} (r : Rv K H ad p v) (h : flatK p = true) : ∃ n : Key, pvK n p ∧ v = kV n := by
  cases p with
  | int i => simp only [Rv] at r; exact ⟨.inl i, rfl, r⟩
  | str l => simp only [Rv] at r; exact ⟨.inr (S l), ⟨l, rfl, rfl⟩, r⟩
  | _ => simp [flatK] at h
theorem has_ok (hu : X.A.units + 65 < cLine) (I : Inv X pins σ H s) (hs : SimX X H ad mh) {px : PV} {x : V} {v : Value} {n : Nat} {a : Addr} {Q : Bool → Hp → Prop} (rx : RelV x v) (h1 : Rv X.K H ad px x) (ha : ad[n]? = some a)
    (g : G0 X (fun _ _ (b : Bool) c => b = c) H ad (hasM px n mh) Q) :
    wpAny (model X.prog X.w) X.A (compareOp .In v (.ref a)) (EP X pins σ (fun z H' => ∃ b, z = .bl b ∧ Q b H')) X.xe s ∧
    wpAny (model X.prog X.w) X.A (compareOp .NotIn v (.ref a)) (EP X pins σ (fun z H' => ∃ b, z = .bl (!b) ∧ Q b H')) X.xe s := by
  have hu1 : X.A.units + 1 < cLine := by omega
  unfold hasM at g
  split at g
  · rename_i kvs e
    split at g
    · rename_i hf
      obtain ⟨ws, ew, rw_⟩ := hs.ob _ _ _ e ha
      obtain ⟨k, hk, rfl⟩ := flat_key h1 hf
      have hb : (kvAt kvs px).isSome = (valV ws k).isSome := by
        rcases dct_find hk rw_ with ⟨q1, q2⟩ | ⟨p, v', q1, q2, _⟩ <;> simp [q1, q2]
      rw [hb] at g
      have q := g.pure hs rfl
      exact ⟨d_in hu1 I (DGet.k ew) rx fun s' I' => ⟨.bl _, H, I', rfl, _, rfl, q⟩, d_notIn hu1 I (DGet.k ew) rx fun s' I' => ⟨.bl _, H, I', rfl, _, rfl, q⟩⟩
    · exact g.elim
  · rename_i kvs e
    split at g
    · rename_i hf
      simp only [Bool.and_eq_true] at hf
      obtain ⟨hf1, hf2⟩ := hf
      obtain ⟨hsm, _, xs, ex, nd, r⟩ := hs.ob _ _ _ e ha
      obtain ⟨ys, py, hd⟩ := dtp_read I ex nd r
      unfold nkd at hf2
      cases ek : nk px with
      | none => rw [ek] at hf2; cases hf2
      | some k =>
        rw [ek] at hf2
        have hdep : k.depth ≤ 8 := of_decide_eq_true hf2
        cases px with
        | tup qs =>
          simp only [Rv] at h1
          obtain ⟨b, vs, rfl, hq, hr⟩ := h1
          cases rx
          have his : (nestedKind X.prog X.w).is s.heap k b := ⟨nk_is I (.tup qs) (.ref b) (.ref b) k (by simp only [Rv]; exact ⟨b, vs, rfl, hq, hr⟩) rfl ek, hdep⟩
          have hroom : (nestedKind X.prog X.w).room X.A.in1 := by
            show X.A.units + 1 + 8 < cLine
            omega
          have hb : (kvAt kvs (.tup qs)).isSome = (valueAt (pairsH ys) k).isSome := by
            rw [valueAt_pairsH]
            rcases kv_find ek r py with ⟨q1, q2⟩ | ⟨p, v', b', u', q1, q2, _⟩ <;> simp [q1, q2]
          rw [hb] at g
          have q := g.pure hs rfl
          exact ⟨in_keyed hroom his hsm ⟨ys, hd, rfl⟩ ⟨.bl _, H, I.tok _, rfl, _, rfl, q⟩, notIn_keyed hroom his hsm ⟨ys, hd, rfl⟩ ⟨.bl _, H, I.tok _, rfl, _, rfl, q⟩⟩
        | _ => simp [tupK] at hf1
    · exact g.elim
  all_goals first
    | exact g.elim
    | (split at g
       · rename_i d ds e1 e2
         obtain ⟨a1, a2⟩ := snap_sh hs h1 e1
         obtain ⟨b1, b2⟩ := snap_sh hs (p := .ref n) (v := .ref a) (by simp only [Rv]; exact ⟨a, rfl, ha⟩) e2
         have q := g.pure hs rfl
         exact ⟨op_inD hu pins s σ H x (.ref a) v (.ref a) _ I rx rfl ⟨d, ds, a1, b1, a2, b2, _, rfl, q⟩, op_notInD hu pins s σ H x (.ref a) v (.ref a) _ I rx rfl ⟨d, ds, a1, b1, a2, b2, _, rfl, q⟩⟩
       · exact g.elim)
end
end FL
/-! FL6: membership as an operator, items, slices, stores. -/
namespace FL
open PySem PySem.Spec PyProof.Rows L2
section
variable {X : Cx}
theorem inB_ok (hu : X.A.units + 65 < cLine) {pins : List (Addr × Obj)} {s : Shared} {σ : L2.St} {H : Hp} {x y : V} {v u : Value} {px py : PV} {mh : MH} {ad : List Addr} {Q : Bool → Hp → Prop} (I : Inv X pins σ H s) (rx : RelV x v) (ry : RelV y u)
    (hs : SimX X H ad mh) (h1 : Rv X.K H ad px x) (h2 : Rv X.K H ad py y) (g : G0 X (fun _ _ (b : Bool) c => b = c) H ad (inB px py mh) Q) :
    wpAny (model X.prog X.w) X.A (compareOp .In v u) (EP X pins σ (fun z H' => ∃ b, z = .bl b ∧ Q b H')) X.xe s ∧
    wpAny (model X.prog X.w) X.A (compareOp .NotIn v u) (EP X pins σ (fun z H' => ∃ b, z = .bl (!b) ∧ Q b H')) X.xe s := by
  unfold inB at g
  split at g
  · rename_i c l
    simp only [Rv] at h1 h2; subst h1; subst h2
    have q := g.pure hs rfl
    have e : decide (c.toNat ∈ (S l).cps.toList) = decide (c ∈ l) := by
      rw [S_cps]
      by_cases hc : c ∈ l
      · rw [decide_eq_true hc]; exact decide_eq_true (List.mem_map.mpr ⟨c, hc, rfl⟩)
      · rw [decide_eq_false hc]
        refine decide_eq_false fun z => ?_
        obtain ⟨d, hd, e⟩ := List.mem_map.mp z
        exact hc (toNat_inj e ▸ hd)
    have ec : S [c] = ⟨#[c.toNat]⟩ := rfl
    rw [ec] at rx
    refine ⟨op_in_sign pins s σ H _ _ v u _ I rx ry ⟨c.toNat, S l, rfl, rfl, ?_⟩, op_notIn_sign pins s σ H _ _ v u _ I rx ry ⟨c.toNat, S l, rfl, rfl, ?_⟩⟩
    · rw [e]; exact ⟨_, rfl, q⟩
    · rw [e]; exact ⟨_, rfl, q⟩
  · rename_i ys _
    split at g
    · rename_i d ds e1 e2
      obtain ⟨a1, a2⟩ := snap_sh hs h1 e1
      obtain ⟨b1, b2⟩ := snap_sh hs h2 e2
      obtain ⟨as, r1⟩ := Dp.reads I d x v a1 rx
      obtain ⟨bs, r2⟩ := Dp.reads I _ y u b1 ry
      have q := g.pure hs rfl
      have ca := SeqAt.canLay_of_shaped a2
      have cb : PyData.canLayAll0 ds = true := SeqAt.canLay_of_shaped b2
      exact ⟨SeqAt.in_tuple_reads r2 r1 cb ca (room_in_shaped a2 hu) ⟨.bl _, H, I, rfl, _, rfl, q⟩, SeqAt.notIn_tuple_reads r2 r1 cb ca (room_in_shaped a2 hu) ⟨.bl _, H, I, rfl, _, rfl, q⟩⟩
    · exact g.elim
  · simp only [Rv] at h2
    obtain ⟨a, rfl, ha⟩ := h2
    cases ry
    exact has_ok hu I hs rx h1 ha g
  · exact g.elim
theorem in_ok (hu : X.A.units + 65 < cLine) : OpM X (compareOp .In) inM := by
  intro pins s σ H x y v u Q px py mh ad I rx ry hs h1 h2 g
  have g' : G0 X (fun _ _ (b : Bool) c => b = c) H ad (inB px py mh) (fun b H' => Q (.bl b) H') := by
    have e : inM px py mh = match inB px py mh with | .ok a h' => .ok (.bl a) h' | .exc c h' => .exc c h' | .bad => .bad := by
      unfold inM; rw [bind_eq]; cases inB px py mh <;> rfl
    rw [e] at g
    cases hb : inB px py mh with
    | ok b h' =>
      rw [hb] at g
      intro c H' ad' x s r
      subst r
      exact g _ H' ad' x s (rvbl _)
    | exc c h' => rw [hb] at g; exact g.elim
    | bad => rw [hb] at g; exact g.elim
  exact thn (inB_ok hu I rx ry hs h1 h2 g').1 fun a s' ⟨z, H', I', r, b, e, q⟩ => ⟨z, H', I', r, by rw [e]; exact q⟩
theorem nin_ok (hu : X.A.units + 65 < cLine) : OpM X (compareOp .NotIn) ninM := by
  intro pins s σ H x y v u Q px py mh ad I rx ry hs h1 h2 g
  have g' : G0 X (fun _ _ (b : Bool) c => b = c) H ad (inB px py mh) (fun b H' => Q (.bl (!b)) H') := by
    have e : ninM px py mh = match inB px py mh with | .ok a h' => .ok (.bl (!a)) h' | .exc c h' => .exc c h' | .bad => .bad := by
      unfold ninM; rw [bind_eq]; cases inB px py mh <;> rfl
    rw [e] at g
    cases hb : inB px py mh with
    | ok b h' =>
      rw [hb] at g
      intro c H' ad' x s r
      subst r
      exact g _ H' ad' x s (rvbl _)
    | exc c h' => rw [hb] at g; exact g.elim
    | bad => rw [hb] at g; exact g.elim
  exact thn (inB_ok hu I rx ry hs h1 h2 g').2 fun a s' ⟨z, H', I', r, b, e, q⟩ => ⟨z, H', I', r, by rw [e]; exact q⟩
theorem cmp_ok (hu : X.A.units + 65 < cLine) (op : CmpOp) : OpM X (compareOp op) (cmpM op) := by
  cases op
  · exact eq_ok hu
  · exact ne_ok hu
  · exact lt_ok hu
  · exact le_ok
  · exact gt_ok
  · exact ge_ok
  · exact is_ok
  · exact isn_ok
  · exact in_ok hu
  · exact nin_ok hu

/-! ### items -/
def ixM (x y : PV) : M PV := fun h => match x, y with
  | .tup xs, .int i => match atI xs i with
    | some p => .ok p h
    | none => .bad
  | .str l, .int i => if l.length ≤ big then match atI l i with
      | some c => .ok (.str [c]) h
      | none => .bad
    else .bad
  | .ref n, k => match h[n]? with
    | some (.dct kvs) => if flatK k then match kvAt kvs k with
        | some p => .ok p h
        | none => .bad
      else .bad
    | some (.dtp kvs) => if tupK k && nkd k then match kvAt kvs k with
        | some p => .ok p h
        | none => .bad
      else .bad
    | some (.lst xs) => match k with
      | .int i => match atI xs i with
        | some p => .ok p h
        | none => .bad
      | _ => .bad
    | some (.rls xs) => match k with
      | .int i => match atI xs i with
        | some p => .ok p h
        | none => .bad
      | _ => .bad
    | none => .bad
  | _, _ => .bad
theorem sub_tail {prog : Program} {w : World} {A : Around} {E : Value → Shared → Prop} {s : Shared} {value slice : Expr} {o i : Value} {T id : String} {Q : Value → Shared → Prop} (hT : s.TypeIs o T) (hl : typeLookup (.type T) "__getitem__" = pure (some (.builtin id)))
    (hs : subscripted slice false o i = operate [o, i] (getItem o i)) (h : wpAny (model prog w) A (getItem o i) Q E s) : wpAny (model prog w) A (subscriptTail value slice o i) Q E s := by
  have body : wpAny (model prog w) A (subscripted slice false o i) (fun r s1 => wpAny (model prog w) A (do letTemporaryGo value o r; pure r) Q E s1) E s := by
    rw [hs]; exact wpAny_operating (thn h fun _ _ q => wpAny_bind (wpAny_letTemporaryGo (wpAny_pure q)))
  unfold subscriptTail; rw [getitemInPython_of_ne hT.not_modules]
  refine wpAny_bind (wpAny_bind (wpAny_specialOf hT hl ?_))
  first
    | exact wpAny_pure (wpAny_bind body)
    | exact wpAny_bind (wpAny_pure (wpAny_bind body))
theorem atI_rvs {K : PySem.W.Frag} {H : Hp} {ad : List Addr} {ps : List PV} {vs : List V} (r : Rvs K H ad ps vs) {i : Int} {p : PV} (e : atI ps i = some p) : ∃ v, atI vs i = some v ∧ Rv K H ad p v := by
  unfold atI at e ⊢
  rw [r.length]
  cases h : ixN ps.length i with
  | none => rw [h] at e; simp at e
  | some j =>
    rw [h] at e
    exact r.get e
theorem ix_ok (hu : X.A.units + 65 < cLine) : IxR X (rM X ixM) := by
  rintro value slice pins s σ H x y v u Q I rx ry ⟨px, py, mh, ad, hs, h1, h2, g⟩ hsl
  unfold ixM at g
  split at g
  · rename_i xs i
    split at g
    · rename_i p e
      simp only [Rv] at h1 h2; subst h2
      obtain ⟨a, vs, rfl, ha, ra⟩ := h1
      obtain ⟨w, ew, hw⟩ := atI_rvs ra e
      exact ix_tup value slice pins s σ H _ _ v u Q I rx ry ⟨a, vs, i, w, rfl, rfl, ha, ew, g.pure hs hw⟩ hsl
    · exact g.elim
  · rename_i l i
    split at g
    · rename_i hl
      split at g
      · rename_i c e
        simp only [Rv] at h1 h2; subst h1; subst h2
        refine ix_str value slice pins s σ H _ _ v u Q I rx ry ⟨S l, i, c.toNat, rfl, rfl, by rw [S_length, big_eq]; exact hl, ?_, g.pure hs (by simp only [RvX, Rv]; rfl)⟩ hsl
        rw [S_cps]
        unfold atI at e ⊢
        rw [List.length_map]
        cases h : ixN l.length i with
        | none => rw [h] at e; simp at e
        | some j =>
          rw [h] at e
          have e' : l[j]? = some c := e
          show (l.map Char.toNat)[j]? = _
          rw [List.getElem?_map, e']; rfl
      · exact g.elim
    · exact g.elim
  · rename_i _ n
    simp only [Rv] at h1
    obtain ⟨a, rfl, ha⟩ := h1
    revert h2 g; generalize py = k; intro h2 g
    split at g
    · rename_i kvs e
      split at g
      · rename_i hf
        split at g
        · rename_i p ep
          obtain ⟨ws, ew, rw_⟩ := hs.ob _ _ _ e ha
          obtain ⟨k', hk, rfl⟩ := flat_key h2 hf
          rcases dct_find hk rw_ with ⟨q1, q2⟩ | ⟨p', v', q1, q2, q3⟩
          · rw [q1] at ep; cases ep
          · rw [q1] at ep; cases ep
            have dg : DGet H a (kV k') (some v') := q2 ▸ DGet.k ew
            cases rx
            exact sub_tail (dict_typeIs I dg) PySem.F.slot_dict_getitem.lookup hsl (d_getItem (by omega) I dg ry fun w' s' I' rw' => ⟨v', H, I', rw', g.pure hs q3⟩)
        · exact g.elim
      · exact g.elim
    · rename_i kvs e
      split at g
      · rename_i hf
        simp only [Bool.and_eq_true] at hf
        obtain ⟨hf1, hf2⟩ := hf
        split at g
        · rename_i p ep
          obtain ⟨hsm, _, xs, ex, nd, r⟩ := hs.ob _ _ _ e ha
          obtain ⟨ys, py, hd⟩ := dtp_read I ex nd r
          unfold nkd at hf2
          cases ek : nk k with
          | none => rw [ek] at hf2; cases hf2
          | some k' =>
            rw [ek] at hf2
            have hdep : k'.depth ≤ 8 := of_decide_eq_true hf2
            cases k with
            | tup qs =>
              simp only [Rv] at h2
              obtain ⟨b, vs, rfl, hq, hr⟩ := h2
              cases ry
              cases rx
              have his : (nestedKind X.prog X.w).is s.heap k' b := ⟨nk_is I (.tup qs) (.ref b) (.ref b) k' (by simp only [Rv]; exact ⟨b, vs, rfl, hq, hr⟩) rfl ek, hdep⟩
              have hroom : (nestedKind X.prog X.w).room X.A.in1 := by
                show X.A.units + 1 + 8 < cLine
                omega
              rcases kv_find ek r py with ⟨q1, q2⟩ | ⟨p', v', b', u', q1, q2, q3, q4⟩
              · rw [q1] at ep; cases ep
              · rw [q1] at ep; cases ep
                exact sub_tail hd.typeIs PySem.F.slot_dict_getitem.lookup hsl (wpAny_getItem_heap hroom his hd q2 ⟨v', H, I.tok _, q4, g.pure hs q3⟩)
            | _ => simp [tupK] at hf1
        · exact g.elim
      · exact g.elim
    all_goals first
      | exact g.elim
      | (rename_i zs e
         cases k with
         | int i =>
           cases ep : atI zs i with
           | none => simp only [ep] at g; exact g.elim
           | some p =>
             simp only [ep] at g
             simp only [Rv] at h2; subst h2
             obtain ⟨vs, hv, hr⟩ := hs.list (n := n) (by rw [lget, e]) ha
             obtain ⟨w, ew, hw⟩ := atI_rvs hr ep
             exact ix_list value slice pins s σ H _ _ v u Q I rx ry ⟨a, vs, i, w, rfl, rfl, hv, ew, g.pure hs hw⟩ hsl
         | _ => exact g.elim)
  · exact g.elim
end
end FL
/-! FL7: stores, slices, methods of built-in types. -/
namespace FL
open PySem PySem.Spec PyProof.Rows L2

/-! ### stores -/
def kvPut (kvs : List (PV × PV)) (k v : PV) : List (PV × PV) :=
  if (kvAt kvs k).isSome then kvs.map (fun kv => if nk kv.1 = nk k then (kv.1, v) else kv) else kvs ++ [(k, v)]
def setM (o i v : PV) : M Unit := fun h => match o with
  | .ref n => match h[n]? with
    | some (.lst xs) => match i with
      | .int k => match ixN xs.length k with
        | some j => .ok () (h.set n (.lst (xs.set j v)))
        | none => .bad
      | _ => .bad
    | some (.dct kvs) => if flatK i && decide (kvs.length < big) then .ok () (h.set n (.dct (kvPut kvs i v))) else .bad
    | some (.dtp kvs) => if (tupK i && nkd i) && decide (kvs.length < big) then .ok () (h.set n (.dtp (kvPut kvs i v))) else .bad
    | _ => .bad
  | _ => .bad

section
variable {X : Cx} {pins : List (Addr × Obj)} {σ : L2.St} {H : Hp} {s : Shared} {ad : List Addr} {mh : MH}
/-- what is wanted behind a store -/
def GU (X : Cx) (H : Hp) (ad : List Addr) (r : Res Unit) (Q : Hp → Prop) : Prop := G0 X (fun _ _ (_ : Unit) (_ : Unit) => True) H ad r fun _ H' => Q H'
theorem GU.at {u : Unit} {mh' : MH} {Q : Hp → Prop} (g : GU X H ad (.ok u mh') Q) {H' : Hp} {ad' : List Addr} (x : Ext H ad H' ad') (s : SimX X H' ad' mh') : Q H' := g () H' ad' x s trivial
theorem pvK_iff {m n : Key} {p k : PV} (hm : pvK m p) (hk : pvK n k) : nk p = nk k ↔ m = n := by
  cases m with
  | inl i =>
    have hp : p = .int i := hm
    subst hp
    cases n with
    | inl j => have : k = .int j := hk; subst this; simp [nk]
    | inr x => obtain ⟨l, rfl, rfl⟩ := hk; simp [nk]
  | inr x =>
    obtain ⟨l, rfl, rfl⟩ := hm
    cases n with
    | inl j => have : k = .int j := hk; subst this; simp [nk]
    | inr x => obtain ⟨m, rfl, rfl⟩ := hk; simp [nk]
theorem pmap {α β γ δ : Type} {F : α → β → Prop} {G : γ → δ → Prop} {f : α → γ} {g : β → δ} (h : ∀ a b, F a b → G (f a) (g b)) : ∀ {l : List α} {m : List β}, Paired F l m → Paired G (l.map f) (m.map g)
  | _, _, .nil => .nil
  | _, _, .cons q t => .cons (h _ _ q) (pmap h t)
theorem papp {α β : Type} {F : α → β → Prop} : ∀ {l l' : List α} {m m' : List β}, Paired F l m → Paired F l' m' → Paired F (l ++ l') (m ++ m')
  | _, _, _, _, .nil, r => r
  | _, _, _, _, .cons q t, r => .cons q (papp t r)
theorem put_dct {K : PySem.W.Frag} {k : PV} {n : Key} {v : V} {p : PV} (hk : pvK n k) (hv : Rv K H ad p v) {kvs : List (PV × PV)} {ws : List (Key × V)} (r : Paired (fun (x : PV × PV) (y : Key × V) => pvK y.1 x.1 ∧ Rv K H ad x.2 y.2) kvs ws) :
    Paired (fun (x : PV × PV) (y : Key × V) => pvK y.1 x.1 ∧ Rv K H ad x.2 y.2) (kvPut kvs k p) (putK ws n v) := by
  have hb : (ws.any fun kv => decide (kv.1 = n)) = (kvAt kvs k).isSome := by
    rw [valV_any]
    rcases dct_find hk r with ⟨q1, q2⟩ | ⟨p', v', q1, q2, _⟩ <;> simp [q1, q2]
  unfold kvPut putK
  rw [hb]
  cases (kvAt kvs k).isSome with
  | true =>
    simp only [if_true]
    refine pmap (fun a b q => ?_) r
    have := pvK_iff q.1 hk
    by_cases hx : b.1 = n
    · simp only [this.mpr hx, hx, if_true]; exact ⟨hx ▸ q.1, hv⟩
    · have hx' : ¬ nk a.1 = nk k := fun z => hx (this.mp z)
      simp only [hx, hx', if_false]; exact q
  | false =>
    simp only [Bool.false_eq_true, if_false]
    exact papp r (.cons ⟨hk, hv⟩ .nil)
theorem Sim.keepAll {P : Program} {w : World} {K : PySem.W.Frag} {H : Hp} {ad : List Addr} {mh : MH} (s : Sim P w K H ad mh) : Sim P w K H ad mh := s
theorem kvPut_len (kvs : List (PV × PV)) (k v : PV) : (kvPut kvs k v).length ≤ kvs.length + 1 := by
  unfold kvPut; split <;> simp
def storedX (xs : List (NestedKey × Addr × V)) (k : NestedKey) (a : Addr) (v : V) : List (NestedKey × Addr × V) :=
  if (xs.find? fun x => decide (x.1 = k)).isSome then xs.map (fun x => if x.1 = k then (x.1, x.2.1, v) else x) else xs ++ [(k, a, v)]
theorem storedX_keys (xs : List (NestedKey × Addr × V)) (k : NestedKey) (a : Addr) (v : V) (h : (xs.map (·.1)).Nodup) : ((storedX xs k a v).map (·.1)).Nodup := by
  unfold storedX
  split
  · have : (xs.map (fun x => if x.1 = k then (x.1, x.2.1, v) else x)).map (·.1) = xs.map (·.1) := by
      rw [List.map_map]
      apply List.map_congr_left
      intro x _
      simp only [Function.comp_apply]
      split <;> rfl
    rw [this]; exact h
  · rename_i hn
    rw [List.map_append, List.nodup_append]
    refine ⟨h, by simp, ?_⟩
    intro x hx y hy e
    simp only [List.map_cons, List.map_nil, List.mem_singleton] at hy
    subst hy; subst e
    obtain ⟨z, hz, e⟩ := List.mem_map.mp hx
    apply hn
    rw [List.find?_isSome]
    exact ⟨z, hz, by simp [e]⟩
theorem find_stored {k : NestedKey} : ∀ {xs : List (NestedKey × Addr × V)} {ys : List (NestedKey × Addr × Value)}, Paired YRel xs ys → (xs.find? fun x => decide (x.1 = k)).isSome = (atKey ys k).isSome
  | _, _, .nil => rfl
  | _, _, .cons (a := x) (b := y) q t => by
    unfold atKey
    simp only [List.find?_cons]
    by_cases hx : x.1 = k
    · have hy : y.1 = k := q.1 ▸ hx
      simp [hx, hy]
    · have hy : ¬ y.1 = k := q.1 ▸ hx
      simp only [hx, hy, decide_false]
      have := find_stored t (k := k)
      unfold atKey at this
      exact this
theorem stored_rel {xs : List (NestedKey × Addr × V)} {ys : List (NestedKey × Addr × Value)} (p : Paired YRel xs ys) {k : NestedKey} {a : Addr} {v : V} {u : Value} (r : RelV v u) : Paired YRel (storedX xs k a v) (storedH ys k a u) := by
  have e := find_stored p (k := k)
  unfold storedX storedH
  rw [e]
  cases h : atKey ys k with
  | none =>
    simp only [Option.isSome_none, Bool.false_eq_true, if_false]
    exact papp p (.cons ⟨rfl, rfl, r⟩ .nil)
  | some z =>
    simp only [Option.isSome_some, if_true]
    refine pmap (fun x y q => ?_) p
    unfold putAt
    by_cases hx : x.1 = k
    · have hy : y.1 = k := q.1 ▸ hx
      simp only [hx, hy, if_true]; exact ⟨rfl, q.2.1, r⟩
    · have hy : ¬ y.1 = k := q.1 ▸ hx
      simp only [hx, hy, if_false]; exact q
theorem put_dtp {K : PySem.W.Frag} {k : PV} {n : NestedKey} {a : Addr} {v : V} {p : PV} (hk : nk k = some n) (hd : n.depth ≤ 8) (hka : Rv K H ad k (.ref a)) (ht : ∃ qs, k = .tup qs) (hv : Rv K H ad p v)
    {kvs : List (PV × PV)} {xs : List (NestedKey × Addr × V)} (r : Paired (KRel K H ad) kvs xs) : Paired (KRel K H ad) (kvPut kvs k p) (storedX xs n a v) := by
  have hb : ∀ {kvs : List (PV × PV)} {xs : List (NestedKey × Addr × V)}, Paired (KRel K H ad) kvs xs → (xs.find? fun x => decide (x.1 = n)).isSome = (kvAt kvs k).isSome := by
    intro kvs xs r
    induction r with
    | nil => rfl
    | @cons kv x _ _ q t ih =>
      unfold kvAt
      simp only [List.find?_cons]
      rw [q.1, hk]
      by_cases hx : x.1 = n
      · simp [hx]
      · have hx' : ¬ (some x.1 = some n) := fun z => hx (Option.some.inj z)
        simp only [hx, hx', decide_false]
        rw [ih]; unfold kvAt; rw [hk]
  unfold kvPut storedX
  rw [hb r]
  cases (kvAt kvs k).isSome with
  | true =>
    simp only [if_true]
    refine pmap (fun x y q => ?_) r
    obtain ⟨g1, g2, g3, g4, g5⟩ := q
    rw [g1, hk]
    by_cases hx : y.1 = n
    · have hx' : some y.1 = some n := by rw [hx]
      simp only [hx, if_true]; exact ⟨by rw [g1, hx], hx ▸ g2, g3, g4, hv⟩
    · have hx' : ¬ (some y.1 = some n) := fun z => hx (Option.some.inj z)
      simp only [hx, hx', if_false]; exact ⟨g1, g2, g3, g4, g5⟩
  | false =>
    simp only [Bool.false_eq_true, if_false]
    exact papp r (.cons ⟨hk, hd, hka, ht, hv⟩ .nil)

theorem set_ok (hu : X.A.units + 65 < cLine) (I : Inv X pins σ H s) (hs : SimX X H ad mh) {po pi pv : PV} {o i v : V} {ov iv uv : Value} (ro : RelV o ov) (ri : RelV i iv) (rv : RelV v uv)
    (h1 : Rv X.K H ad po o) (h2 : Rv X.K H ad pi i) (h3 : Rv X.K H ad pv v) {Q : Hp → Prop} (g : GU X H ad (setM po pi pv mh) Q) :
    wpAny (model X.prog X.w) X.A (setItem ov iv uv) (fun _ s' => ∃ H', Inv X pins σ H' s' ∧ Q H') X.xe s := by
  unfold setM at g
  split at g
  · rename_i n
    simp only [Rv] at h1
    obtain ⟨a, rfl, ha⟩ := h1
    cases ro
    split at g
    · rename_i xs e
      cases pi with
      | int k =>
        cases ej : ixN xs.length k with
        | none => simp only [ej] at g; exact g.elim
        | some j =>
          simp only [ej] at g
          simp only [Rv] at h2; subst h2
          obtain ⟨vs, hv, hr⟩ := hs.ob _ _ _ e ha
          obtain ⟨x, s'⟩ := hs.write (o' := .lst (xs.set j pv)) (u := .lst (vs.set j v)) e ha rfl fun x => ⟨_, upd_same, (hr.mono x).set (h3.mono x) j⟩
          exact set_list pins s σ H (.ref a) (.int k) v _ iv uv Q I rfl ri rv ⟨a, vs, k, j, rfl, rfl, hv, by rw [hr.length]; exact ej, g.at x s'⟩
      | _ => exact g.elim
    · rename_i kvs e
      split at g
      · rename_i hc
        simp only [Bool.and_eq_true, decide_eq_true_eq] at hc
        obtain ⟨ws, ew, rw_⟩ := hs.ob _ _ _ e ha
        obtain ⟨k, hk, rfl⟩ := flat_key h2 hc.1
        have hl : ws.length = kvs.length := (Paired.length rw_).symm
        obtain ⟨x, s'⟩ := hs.write (o' := .dct (kvPut kvs pi pv)) (u := .dK (putK ws k v)) e ha rfl fun x => ⟨_, upd_same, put_dct hk (h3.mono x) (pimp (fun a b q => ⟨q.1, q.2.mono x⟩) rw_)⟩
        exact d_setItem (by omega) I (DPut.k ew (by rw [hl, big_eq]; exact hc.2)) ri rv fun s4 I4 => ⟨_, I4, g.at x s'⟩
      · exact g.elim
    · rename_i kvs e
      split at g
      · rename_i hc
        simp only [Bool.and_eq_true, decide_eq_true_eq] at hc
        obtain ⟨⟨hf1, hf2⟩, hl⟩ := hc
        obtain ⟨hsm, hlen, xs, ex, nd, r⟩ := hs.ob _ _ _ e ha
        obtain ⟨ys, py, hd⟩ := dtp_read I ex nd r
        unfold nkd at hf2
        cases ek : nk pi with
        | none => rw [ek] at hf2; cases hf2
        | some k =>
          rw [ek] at hf2
          have hdep : k.depth ≤ 8 := of_decide_eq_true hf2
          cases pi with
          | tup qs =>
            have h2' := h2
            simp only [Rv] at h2
            obtain ⟨b, vs, rfl, hq, hr⟩ := h2
            cases ri
            have his : (nestedKind X.prog X.w).is s.heap k b := ⟨nk_is I (.tup qs) (.ref b) (.ref b) k h2' rfl ek, hdep⟩
            have hroom : (nestedKind X.prog X.w).room X.A.in1 := by
              show X.A.units + 1 + 8 < cLine
              omega
            have hly : ys.length ≤ sizeLine := by
              rw [← Paired.length py, ← Paired.length r]; exact hlen
            obtain ⟨x, s'⟩ := hs.write (o' := .dtp (kvPut kvs (.tup qs) pv)) (u := dtpO X.prog X.w a (storedX xs k b v)) e ha rfl fun x =>
              ⟨hsm, by have := kvPut_len kvs (.tup qs) pv; rw [big_eq]; omega, _, upd_same, storedX_keys xs k b v nd,
                put_dtp ek hdep (h2'.mono x) ⟨qs, rfl⟩ (h3.mono x) (pimp (fun a b q => ⟨q.1, q.2.1, q.2.2.1.mono x, q.2.2.2.1, q.2.2.2.2.mono x⟩) r)⟩
            refine wpAny_setItem_heap (hsz := hly) hroom his hd fun h' hm' hsb => ⟨_, ?_, g.at x s'⟩
            obtain ⟨o', es', ep', f1, f2, f3, f4, _, _⟩ := hm'
            refine I.write (x := a) (e := a) (by rw [ex]; trivial) (.inl rfl) (fun c u hc hcu => ?_) ⟨o', f1⟩ ?_
            · exact (hsb.2 c hc).trans hcu
            · exact ⟨⟨storedH ys k b uv, stored_rel py rv, o', es', ep', f1, f2, f3, f4⟩, ⟨o', f1⟩, fun h1 h2 ⟨ys', p', o2, es2, ep2, k1, k2, k3, k4⟩ k => ⟨ys', p', o2, es2, ep2, k _ k1, k2, k3, k4⟩⟩
          | _ => simp [tupK] at hf1
      · exact g.elim
    all_goals exact g.elim
  · exact g.elim
end
end FL
/-! FL8: slices, built-in functions, methods of built-in types. -/
namespace FL
open PySem PySem.Spec PyProof.Rows L2

/-! ### slices -/
def cutP {α : Type} (xs : List α) (lo hi : Option Int) : List α := (xs.drop (HT.sIx xs.length 0 lo)).take (HT.sIx xs.length xs.length hi - HT.sIx xs.length 0 lo)
def slcM (x : PV) (lo hi : Option Int) : M PV := fun h => match x with
  | .str l => if l.length ≤ big then .ok (.str (cutP l lo hi)) h else .bad
  | .tup xs => .ok (.tup (cutP xs lo hi)) h
  | .ref n => match lget h n with
    | some xs => newL (cutP xs lo hi) h
    | none => .bad
  | _ => .bad
def asI : PV → Option Int
  | .int i => some i
  | _ => none
def asB : PV → Option Bool
  | .bl b => some b
  | _ => none
def asS : PV → Option (List Char)
  | .str l => some l
  | _ => none
section
variable {X : Cx} {pins : List (Addr × Obj)} {σ : L2.St} {H : Hp} {s : Shared} {ad : List Addr} {mh : MH}
theorem cut_rvs {K : PySem.W.Frag} {ps : List PV} {vs : List V} (r : Rvs K H ad ps vs) (lo hi : Option Int) : Rvs K H ad (cutP ps lo hi) (cutV vs lo hi) := by
  unfold cutP cutV; rw [r.length]; exact (r.drop _).take _
theorem whole_cut {α : Type} {xs : List α} {lo hi : Option Int} (h : HT.sIx xs.length 0 lo = 0 ∧ HT.sIx xs.length xs.length hi = xs.length) : cutP xs lo hi = xs := by
  unfold cutP; rw [h.1, h.2]; simp
def rSl (X : Cx) : V → Option Int → Option Int → Hp → VK → Prop := fun x lo hi H Q => ∃ px mh ad, SimX X H ad mh ∧ Rv X.K H ad px x ∧ G0 X (RvX X) H ad (slcM px lo hi mh) Q
theorem slc_ok : SlR X (rSl X) := by
  intro pins s σ H x v vl vu lo hi sl Q I rx hsl pl pu ⟨px, mh, ad, hs, h1, g⟩
  unfold slcM at g
  split at g
  · rename_i l
    split at g
    · rename_i hl
      simp only [Rv] at h1; subst h1
      refine sl_str pins s σ H _ v vl vu lo hi sl Q I rx hsl pl pu ⟨S l, rfl, by rw [S_length, big_eq]; exact hl, g.pure hs ?_⟩
      simp only [RvX, Rv, V.str.injEq]
      unfold cutS cutP
      rw [S_cps, S_length]
      simp [S, List.map_take, List.map_drop]
    · exact g.elim
  · rename_i xs
    simp only [Rv] at h1
    obtain ⟨a, vs, rfl, ha, ra⟩ := h1
    refine sl_tupA pins s σ H _ v vl vu lo hi sl Q I rx hsl pl pu ⟨a, vs, rfl, ha, fun hw => g.pure hs ?_, fun _ => g.newT hs (cut_rvs ra lo hi)⟩
    rw [ra.length] at hw
    rw [whole_cut hw]
    simp only [RvX, Rv]; exact ⟨a, vs, rfl, ha, ra⟩
  · rename_i n
    split at g
    · rename_i xs e
      simp only [Rv] at h1
      obtain ⟨a, rfl, ha⟩ := h1
      obtain ⟨vs, hv, hr⟩ := hs.list e ha
      exact sl_list pins s σ H _ v vl vu lo hi sl Q I rx hsl pl pu ⟨a, vs, rfl, hv, g.newL hs (cut_rvs hr lo hi)⟩
    · exact g.elim
  · exact g.elim

/-! ### built-in functions -/
inductive BN | len | int | str | list | tuple | sum | all | any | max | min | sorted
  deriving DecidableEq
def BN.nm : BN → Str
  | .len => "len" | .int => "int" | .str => "str" | .list => "list" | .tuple => "tuple" | .sum => "sum" | .all => "all" | .any => "any" | .max => "max" | .min => "min" | .sorted => "sorted"
def BN.val : BN → Value
  | .len => .builtin "len" | .int => .type "int" | .str => .type "str" | .list => .type "list" | .tuple => .type "tuple" | .sum => .builtin "sum" | .all => .builtin "all" | .any => .builtin "any" | .max => .builtin "max" | .min => .builtin "min" | .sorted => .builtin "sorted"
def lenM (x : PV) : M PV := fun h => match x with
  | .str l => if l.length ≤ big then .ok (.int l.length) h else .bad
  | .tup xs => .ok (.int xs.length) h
  | .ref n => match h[n]? with
    | some (.lst xs) => .ok (.int xs.length) h
    | some (.rls xs) => .ok (.int xs.length) h
    | some (.dct kvs) => .ok (.int kvs.length) h
    | some (.dtp kvs) => .ok (.int kvs.length) h
    | none => .bad
  | _ => .bad
def maxL : List Int → Int
  | [] => 0
  | [x] => x
  | x :: y :: r => max x (maxL (y :: r))
def minL : List Int → Int
  | [] => 0
  | [x] => x
  | x :: y :: r => min x (minL (y :: r))
def tupC : PyData → Bool
  | .tuple (_ :: _) => true
  | _ => false
def notNT : PyData → Bool
  | .none => false
  | .tuple _ => false
  | _ => true
def okSort (ds : List PyData) : Bool := (ds.all fun d => ds.all fun e => soft d e) && (ds.all tupC || ds.all notNT)
def sortP (ps : List (PV × PyData)) : List PV := (ps.mergeSort (PySem.W.dataLe false Prod.snd)).map (·.1)
def notN : PyData → Bool
  | .none => false
  | _ => true
def okMin (ds : List PyData) : Bool := (ds.all fun d => ds.all fun e => soft d e) && ds.all notN
/-- the place of the first least -/
def argMin (ds : List PyData) : Nat := PySem.argBest (fun i j => PySem.W.dataLt (ds.getD i .none) (ds.getD j .none)) (ds.length - 1)
def lstOf (h : MH) : PV → Option (List PV)
  | .ref n => lget h n
  | _ => none
def seqOf (h : MH) : PV → Option (List PV)
  | .ref n => lget h n
  | .tup xs => some xs
  | _ => none
def bltM (b : BN) (vs : List PV) : M PV := fun h => match b, vs with
  | .len, [x] => lenM x h
  | .int, [.int i] => .ok (.int i) h
  | .int, [.bl b] => .ok (.int (if b then 1 else 0)) h
  | .str, [.int i] => if i.natAbs.log2 < 1920 then .ok (.str (toString i).toList) h else .bad
  | .list, [x] => match seqOf h x with
    | some xs => newL xs h
    | none => .bad
  | .tuple, [x] => match seqOf h x with
    | some xs => .ok (.tup xs) h
    | none => .bad
  | .sum, [x] => match lstOf h x with
    | some xs => match mapO asI xs with
      | some ns => .ok (.int ns.sum) h
      | none => .bad
    | none => .bad
  | .all, [x] => match lstOf h x with
    | some xs => match mapO asB xs with
      | some bs => .ok (.bl (bs.all id)) h
      | none => .bad
    | none => .bad
  | .any, [x] => match lstOf h x with
    | some xs => match mapO asB xs with
      | some bs => .ok (.bl (bs.any id)) h
      | none => .bad
    | none => .bad
  | .max, [.int i, .int j] => .ok (.int (if j > i then j else i)) h
  | .min, [.int i, .int j] => .ok (.int (if j < i then j else i)) h
  | .max, [x] => match lstOf h x with
    | some xs => match mapO asI xs with
      | some ns => if ns.isEmpty then .bad else .ok (.int (maxL ns)) h
      | none => .bad
    | none => .bad
  | .min, [x] => match lstOf h x with
    | some xs => match mapO asI xs with
      | some ns => if ns.isEmpty then .bad else .ok (.int (minL ns)) h
      | none => match snaps h xs with
        | some ds => if okMin ds && !ds.isEmpty then (match xs[argMin ds]? with
          | some p => .ok p h
          | none => .bad) else .bad
        | none => .bad
    | none => .bad
  | .sorted, [x] => match lstOf h x with
    | some xs => match snaps h xs with
      | some ds => if okSort ds && decide (xs.length ≤ big) then newL (sortP (xs.zip ds)) h else .bad
      | none => .bad
    | none => .bad
  | _, _ => .bad
theorem maxL_spec : ∀ ns : List Int, ns ≠ [] → maxL ns ∈ ns ∧ ∀ y ∈ ns, y ≤ maxL ns
  | [], h => absurd rfl h
  | [x], _ => by simp [maxL]
  | x :: y :: r, _ => by
    obtain ⟨h1, h2⟩ := maxL_spec (y :: r) (by simp)
    unfold maxL
    constructor
    · rcases Int.le_total x (maxL (y :: r)) with h | h
      · rw [Int.max_eq_right h]; exact List.mem_cons_of_mem _ h1
      · rw [Int.max_eq_left h]; exact List.mem_cons_self
    · intro z hz
      rcases List.mem_cons.mp hz with rfl | hz
      · exact Int.le_max_left _ _
      · exact Int.le_trans (h2 z hz) (Int.le_max_right _ _)
theorem minL_spec : ∀ ns : List Int, ns ≠ [] → minL ns ∈ ns ∧ ∀ y ∈ ns, minL ns ≤ y
  | [], h => absurd rfl h
  | [x], _ => by simp [minL]
  | x :: y :: r, _ => by
    obtain ⟨h1, h2⟩ := minL_spec (y :: r) (by simp)
    unfold minL
    constructor
    · rcases Int.le_total x (minL (y :: r)) with h | h
      · rw [Int.min_eq_left h]; exact List.mem_cons_self
      · rw [Int.min_eq_right h]; exact List.mem_cons_of_mem _ h1
    · intro z hz
      rcases List.mem_cons.mp hz with rfl | hz
      · exact Int.min_le_left _ _
      · exact Int.le_trans (Int.min_le_right _ _) (h2 z hz)
theorem ints_of {K : PySem.W.Frag} : ∀ {ps : List PV} {vs : List V} {ns : List Int}, Rvs K H ad ps vs → mapO asI ps = some ns → vs = ns.map V.int
  | [], _, _, r, e => by simp only [Rvs] at r; subst r; simp only [mapO, Option.some.injEq] at e; subst e; rfl
  | p :: ps, _, ns, r, e => by
    simp only [Rvs] at r
    obtain ⟨v, vr, rfl, h1, h2⟩ := r
    unfold mapO at e
    split at e
    · rename_i i ei
      split at e
      · rename_i js ej
        cases e
        cases p <;> simp only [asI, Option.some.injEq] at ei <;> first | (cases ei; done) | skip
        subst ei
        simp only [Rv] at h1; subst h1
        rw [ints_of h2 ej]; rfl
      · cases e
    · cases e
theorem bools_of {K : PySem.W.Frag} : ∀ {ps : List PV} {vs : List V} {ns : List Bool}, Rvs K H ad ps vs → mapO asB ps = some ns → vs = ns.map V.bl
  | [], _, _, r, e => by simp only [Rvs] at r; subst r; simp only [mapO, Option.some.injEq] at e; subst e; rfl
  | p :: ps, _, ns, r, e => by
    simp only [Rvs] at r
    obtain ⟨v, vr, rfl, h1, h2⟩ := r
    unfold mapO at e
    split at e
    · rename_i i ei
      split at e
      · rename_i js ej
        cases e
        cases p <;> simp only [asB, Option.some.injEq] at ei <;> first | (cases ei; done) | skip
        subst ei
        simp only [Rv] at h1; subst h1
        rw [bools_of h2 ej]; rfl
      · cases e
    · cases e
theorem strs_of {K : PySem.W.Frag} : ∀ {ps : List PV} {vs : List V} {ns : List (List Char)}, Rvs K H ad ps vs → mapO asS ps = some ns → vs = (ns.map S).map V.str
  | [], _, _, r, e => by simp only [Rvs] at r; subst r; simp only [mapO, Option.some.injEq] at e; subst e; rfl
  | p :: ps, _, ns, r, e => by
    simp only [Rvs] at r
    obtain ⟨v, vr, rfl, h1, h2⟩ := r
    unfold mapO at e
    split at e
    · rename_i i ei
      split at e
      · rename_i js ej
        cases e
        cases p <;> simp only [asS, Option.some.injEq] at ei <;> first | (cases ei; done) | skip
        subst ei
        simp only [Rv] at h1; subst h1
        rw [strs_of h2 ej]; rfl
      · cases e
    · cases e
theorem seq_of (hs : SimX X H ad mh) {p : PV} {v : V} {xs : List PV} (r : Rv X.K H ad p v) (e : seqOf mh p = some xs) : ∃ a vs, v = .ref a ∧ Rvs X.K H ad xs vs ∧ ((∃ n, p = .ref n) ∧ SqL X.K H a vs ∨ p = .tup xs ∧ SqT X.K H a vs) := by
  cases p with
  | ref n =>
    simp only [Rv] at r
    obtain ⟨a, rfl, ha⟩ := r
    obtain ⟨vs, hv, hr⟩ := hs.list (show lget mh n = some xs from e) ha
    exact ⟨a, vs, rfl, hr, .inl ⟨⟨n, rfl⟩, hv⟩⟩
  | tup ys =>
    simp only [Rv] at r
    obtain ⟨a, vs, rfl, ha, hr⟩ := r
    have : ys = xs := by simpa [seqOf] using e
    subst this
    exact ⟨a, vs, rfl, hr, .inr ⟨rfl, ha⟩⟩
  | _ => simp [seqOf] at e
theorem lst_of (hs : SimX X H ad mh) {p : PV} {v : V} {xs : List PV} (r : Rv X.K H ad p v) (e : lstOf mh p = some xs) : ∃ a vs, v = .ref a ∧ SqL X.K H a vs ∧ Rvs X.K H ad xs vs := by
  cases p with
  | ref n =>
    simp only [Rv] at r
    obtain ⟨a, rfl, ha⟩ := r
    obtain ⟨vs, hv, hr⟩ := hs.list (show lget mh n = some xs from e) ha
    exact ⟨a, vs, rfl, hv, hr⟩
  | _ => simp [lstOf] at e
end
end FL
/-! FL9: built-in functions by plain values. -/
namespace FL
open PySem PySem.Spec PyProof.Rows L2
section
variable {X : Cx} {pins : List (Addr × Obj)} {σ : L2.St} {H : Hp} {s : Shared} {ad : List Addr} {mh : MH}
theorem rvs_one {K : PySem.W.Frag} {p : PV} {vs : List V} (r : Rvs K H ad [p] vs) : ∃ v, vs = [v] ∧ Rv K H ad p v := by
  simp only [Rvs] at r
  obtain ⟨v, t, rfl, h, rfl⟩ := r
  exact ⟨v, rfl, h⟩
theorem rvs_two {K : PySem.W.Frag} {p q : PV} {vs : List V} (r : Rvs K H ad [p, q] vs) : ∃ v w, vs = [v, w] ∧ Rv K H ad p v ∧ Rv K H ad q w := by
  simp only [Rvs] at r
  obtain ⟨v, t, rfl, h, w, t', rfl, h', rfl⟩ := r
  exact ⟨v, w, rfl, h, h'⟩
theorem rvint {i : Int} : RvX X H ad (.int i) (.int i) := by simp [RvX, Rv]
theorem len_ok (I : Inv X pins σ H s) (hs : SimX X H ad mh) {p : PV} {v : V} {u : Value} (ru : RelV v u) (r : Rv X.K H ad p v) {Q : VK} (g : G0 X (RvX X) H ad (lenM p mh) Q) :
    wpAny (model X.prog X.w) X.A (call (.builtin "len") [u]) (EP X pins σ Q) X.xe s := by
  unfold lenM at g
  split at g
  · rename_i l
    split at g
    · rename_i hl
      simp only [Rv] at r; subst r
      exact call_len pins s σ H [.str (S l)] [u] Q I (.cons ru .nil) ⟨.str (S l), l.length, rfl, ⟨by rw [S_length, big_eq]; exact hl, (S_length l).symm⟩, g.pure hs rvint⟩
    · exact g.elim
  · rename_i xs
    simp only [Rv] at r
    obtain ⟨a, vs, rfl, ha, hr⟩ := r
    exact call_len pins s σ H [.ref a] [u] Q I (.cons ru .nil) ⟨.ref a, xs.length, rfl, .inr ⟨vs, ha, hr.length.symm⟩, g.pure hs rvint⟩
  · rename_i n
    simp only [Rv] at r
    obtain ⟨a, rfl, ha⟩ := r
    split at g
    · rename_i xs e
      obtain ⟨vs, hv, hr⟩ := hs.list (n := n) (xs := xs) (by rw [lget, e]) ha
      exact call_len pins s σ H [.ref a] [u] Q I (.cons ru .nil) ⟨.ref a, xs.length, rfl, .inl ⟨vs, hv, hr.length.symm⟩, g.pure hs rvint⟩
    · rename_i xs e
      obtain ⟨vs, hv, hr⟩ := hs.list (n := n) (xs := xs) (by rw [lget, e]) ha
      exact call_len pins s σ H [.ref a] [u] Q I (.cons ru .nil) ⟨.ref a, xs.length, rfl, .inl ⟨vs, hv, hr.length.symm⟩, g.pure hs rvint⟩
    · rename_i kvs e
      obtain ⟨ws, ew, rw_⟩ := hs.ob _ _ _ e ha
      have el : kvs.length = ws.length := Paired.length rw_
      rw [el] at g
      exact call_lenD pins s σ H [.ref a] [u] Q I (.cons ru .nil) ⟨a, ws, rfl, ew, g.pure hs rvint⟩
    · rename_i kvs e
      obtain ⟨hsm, hlen, xs, ex, nd, rr⟩ := hs.ob _ _ _ e ha
      obtain ⟨ys, py, hd⟩ := dtp_read I ex nd rr
      cases ru
      have el : kvs.length = (pairsH ys).length := by rw [pairsH_length, ← Paired.length py, ← Paired.length rr]
      have hm : s.heap.DictKeyed (nestedKind X.prog X.w) a (pairsH ys) := ⟨ys, hd, rfl⟩
      have hq : Q (.int (pairsH ys).length) H := by rw [← el]; exact g.pure hs rvint
      have hl : (pairsH ys).length ≤ sizeLine := by rw [← el]; exact hlen
      rw [sizeLine_eq] at hl
      exact PyProof.Rows.call_len_slot (n := (pairsH ys).length) hm.typeIs PySem.F.slot_dict_len (fun Q' hq => len_keyed hsm hm hq) (by omega) (by omega) ⟨.int (pairsH ys).length, H, (I.tok (s.toks + 1 + 1)), ⟨_, rfl⟩, hq⟩
    · exact g.elim
  · exact g.elim
theorem vals_pair {ps : List (PV × PyData)} {out : List Value} {K : PySem.W.Frag} (e : PySem.W.EachIs (fun (u : Value) (b : PV × PyData) => ∃ v, RelV v u ∧ Rv K H ad b.1 v) out ps) :
    ∃ vs, Vals vs out ∧ Rvs K H ad (ps.map (·.1)) vs := by
  induction e with
  | nil => exact ⟨[], .nil, by simp [Rvs]⟩
  | cons h t ih =>
    obtain ⟨v, h1, h2⟩ := h
    obtain ⟨vs, k1, k2⟩ := ih
    exact ⟨v :: vs, .cons h1 k1, by simp only [List.map_cons]; exact Rvs.cons h2 k2⟩
theorem each_pair {K : PySem.W.Frag} : ∀ {ps : List PV} {vs : List V} {us : List Value} {ds : List PyData}, Rvs K H ad ps vs → Vals vs us → ds.length = ps.length →
    PySem.W.EachIs (fun (u : Value) (b : PV × PyData) => ∃ v, RelV v u ∧ Rv K H ad b.1 v) us (ps.zip ds)
  | [], _, _, _, r, ru, hl => by simp only [Rvs] at r; subst r; cases ru; exact .nil
  | p :: ps, _, _, [], r, ru, hl => by simp at hl
  | p :: ps, _, _, d :: ds, r, ru, hl => by
    simp only [Rvs] at r
    obtain ⟨v, vr, rfl, h1, h2⟩ := r
    cases ru with
    | cons r1 r2 => exact .cons ⟨v, r1, h1⟩ (each_pair h2 r2 (by simpa using hl))
theorem mapO_length {α β : Type} {f : α → Option β} : ∀ {xs : List α} {ys : List β}, mapO f xs = some ys → ys.length = xs.length
  | [], ys, e => by simp only [mapO, Option.some.injEq] at e; subst e; rfl
  | x :: xs, ys, e => by
    unfold mapO at e
    split at e
    · split at e
      · rename_i zs ez; cases e; simp [mapO_length ez]
      · cases e
    · cases e
theorem zip_snd : ∀ {ps : List PV} {ds : List PyData}, ds.length = ps.length → (ps.zip ds).map Prod.snd = ds
  | [], [], _ => rfl
  | [], _ :: _, h => by simp at h
  | _ :: _, [], h => by simp at h
  | p :: ps, d :: ds, h => by simp only [List.zip_cons_cons, List.map_cons]; rw [zip_snd (by simpa using h)]
theorem clay_all : ∀ {ds : List PyData}, PyData.canLayAll0 ds = true → ∀ d ∈ ds, clay d
  | [], _, d, h => by simp at h
  | e :: ds, c, d, h => by
    obtain ⟨c1, c2⟩ : e.canLay0 = true ∧ PyData.canLayAll0 ds = true := by simpa [PyData.canLayAll0] using c
    rcases List.mem_cons.mp h with rfl | h
    · exact c1
    · exact clay_all c2 d h
theorem sorted_ok (hu : X.A.units + 65 < cLine) (I : Inv X pins σ H s) (hs : SimX X H ad mh) {a : Addr} {ps : List PV} {vs : List V} {ds : List PyData} (hv : SqL X.K H a vs) (hr : Rvs X.K H ad ps vs) (ed : snaps mh ps = some ds) (ok : okSort ds = true) (hl : ps.length ≤ big)
    {Q : VK} (g : G0 X (RvX X) H ad (newL (sortP (ps.zip ds)) mh) Q) : wpAny (model X.prog X.w) X.A (call (.builtin "sorted") [.ref a]) (EP X pins σ Q) X.xe s := by
  obtain ⟨its, rv, pl, hz⟩ := I.list hv
  obtain ⟨da, db, dc⟩ := snaps_sh hs hr ed
  have hlen := mapO_length ed
  obtain ⟨as, hread⟩ := Dp.readsAll I ds vs its da rv
  have hzip := zip_snd hlen
  have hread' : ReadsAll s.heap its ((ps.zip ds).map Prod.snd) as := by rw [hzip]; exact hread
  unfold okSort at ok
  simp only [Bool.and_eq_true, Bool.or_eq_true, List.all_eq_true] at ok
  have hal : AllSoft ((ps.zip ds).map Prod.snd) := by rw [hzip]; exact ⟨fun d hd e he => ok.1 d hd e he, fun d hd => clay_all db d hd⟩
  have hk : PySem.W.Sortable ((ps.zip ds).map Prod.snd) := by
    rw [hzip]
    rcases ok.2 with h | h
    · refine .inl fun d hd => ?_
      have := h d hd
      cases d <;> simp only [tupC, Bool.false_eq_true] at this
      rename_i xs
      cases xs with
      | nil => simp [tupC] at this
      | cons x r => exact ⟨x, r, rfl⟩
    · refine .inr fun d hd => ?_
      have := h d hd
      cases d <;> simp only [notNT, Bool.false_eq_true] at this <;> exact ⟨by simp, fun xs => by simp⟩
  have hzl : (ps.zip ds).length = ps.length := by simp [hlen]
  refine sortedSoft (bs := ps.zip ds) (enc := Prod.snd) pl.isList (each_pair hr rv hlen) (PySem.W.readsAll_each Prod.snd hread') hal hk (by rw [hzl, big_eq]; exact hl) (fun b hb => ?_) fun out ho eo => ?_
  · have hb2 : b.2 ∈ ds := by rw [← hzip]; exact List.mem_map.mpr ⟨b, hb, rfl⟩
    have : ∀ {xs : List PyData} {x : PyData}, x ∈ xs → x.depth ≤ PyData.depthAll xs := by
      intro xs x hx
      induction xs with
      | nil => simp at hx
      | cons y ys ih =>
        simp only [PyData.depthAll]
        rcases List.mem_cons.mp hx with rfl | hx
        · omega
        · have := ih hx; omega
    have := this hb2
    unfold dp at dc
    omega
  · obtain ⟨ws, w1, w2⟩ := vals_pair eo
    obtain ⟨c, hc⟩ := sortedAll_at s.heap its (List.toArray out)
    have hp : s.heap.objs.size ≤ s.heap.objs.size + 1 := Nat.le_succ _
    have hwl : ws.length ≤ sizeLine := by rw [w1.length, ho, hzl, big_eq]; exact hl
    refine ⟨.ref (s.heap.objs.size + 1), upd H (s.heap.objs.size + 1) (.lst ws), I.laid (t' := s.toks) (fun b u e => sortedAll_old e) hp ⟨hwl, out, c, w1, hc⟩, rfl, ?_⟩
    exact g.newL hs w2 _ (I.hok.fresh hp)
theorem okMin_ok {ds : List PyData} (h : okMin ds = true) : (∀ d ∈ ds, ∀ e ∈ ds, soft d e = true) ∧ ∀ d ∈ ds, d ≠ .none := by
  unfold okMin at h
  simp only [Bool.and_eq_true, List.all_eq_true] at h
  refine ⟨fun d hd e he => h.1 d hd e he, fun d hd z => ?_⟩
  subst z
  have := h.2 _ hd
  simp [notN] at this
theorem depth_mem : ∀ {xs : List PyData} {x : PyData}, x ∈ xs → x.depth ≤ PyData.depthAll xs
  | [], x, h => by simp at h
  | y :: ys, x, h => by
    simp only [PyData.depthAll]
    rcases List.mem_cons.mp h with rfl | h
    · omega
    · have := depth_mem h; omega
theorem getD_of {ds : List PyData} {i : Nat} (h : i < ds.length) : ds[i]? = some (ds.getD i .none) := by
  simp [List.getD, h]
theorem readsAll_ix {h : Heap} : ∀ {vs : List Value} {ds : List PyData} {as : List Addr}, ReadsAll h vs ds as → ∀ {i : Nat} {v : Value}, vs[i]? = some v → ∃ d bs, ds[i]? = some d ∧ Reads h v d bs
  | [], _, _, .nil, i, v, e => by simp at e
  | v0 :: vs, _, _, .cons h1 h2, i, v, e => by
    cases i with
    | zero => simp only [List.getElem?_cons_zero, Option.some.injEq] at e; subst e; exact ⟨_, _, rfl, h1⟩
    | succ i => exact readsAll_ix h2 (by simpa using e)
theorem min_ok (hc : X.calm = true) (hu : X.A.units + 65 < cLine) (I : Inv X pins σ H s) (hs : SimX X H ad mh) {a : Addr} {ps : List PV} {vs : List V} {ds : List PyData} (hv : SqL X.K H a vs) (hr : Rvs X.K H ad ps vs) (ed : snaps mh ps = some ds) (ok : okMin ds = true) (hne : ds ≠ []) {p : PV} (ep : ps[argMin ds]? = some p)
    {Q : VK} (g : G0 X (RvX X) H ad (.ok p mh) Q) : wpAny (model X.prog X.w) X.A (call (.builtin "min") [.ref a]) (EP X pins σ Q) X.xe s := by
  obtain ⟨its, rv, pl, hz⟩ := I.list hv
  obtain ⟨da, db, dc⟩ := snaps_sh hs hr ed
  have hlen := mapO_length ed
  obtain ⟨o1, o2⟩ := okMin_ok ok
  obtain ⟨as, hread⟩ := Dp.readsAll I ds vs its da rv
  have hits : its.length = ds.length := by rw [hlen, ← hr.length]; exact (Paired.length rv).symm
  have hpos : 0 < ds.length := List.length_pos_iff.mpr hne
  refine PySem.call_min_walkH (PySem.W.iter_listW (A := X.A.in1) (I.ok.hd hc) pl.isList fun s2 e W st hfp hw hk => ?_)
  refine ⟨_, _, _, _, _, _, _, s.heap, fun i j => PySem.W.dataLt (ds.getD i .none) (ds.getD j .none), rfl, W, st, hfp, by simp only [List.size_toArray]; omega, hw, hk, ?_, fun v s' hP m => ?_⟩
  · intro i j vi vj s' Q' E' kk hi hj hq
    simp only [List.getElem?_toArray] at hi hj
    obtain ⟨d, bs, e1, r1⟩ := readsAll_ix hread hi
    obtain ⟨d', bs', e2, r2⟩ := readsAll_ix hread hj
    have f1 : ds.getD i .none = d := by simp [List.getD, e1]
    have f2 : ds.getD j .none = d' := by simp [List.getD, e2]
    have m1 : d ∈ ds := List.mem_of_getElem? e1
    have m2 : d' ∈ ds := List.mem_of_getElem? e2
    dsimp only at hq
    rw [f1, f2] at hq
    have := depth_mem m1
    have := Nat.min_le_left d.depth d'.depth
    unfold dp at dc
    exact rcSoft d d' X.A.in1 s' vi vj _ _ (PyProof.Rows.Reads.keeps kk r1) (PyProof.Rows.Reads.keeps kk r2) (o1 _ m1 _ m2) (clay_all db _ m1) (clay_all db _ m2) (o2 _ m1) (by show X.A.units + 1 + _ < _; omega) X.prog X.w E' Q' hq
  · obtain ⟨h', tk, rfl, hk'⟩ := PySem.W.moved_old e rfl m
    simp only [List.size_toArray, List.getElem?_toArray] at hP
    have hP' : its[argMin ds]? = some v := by unfold argMin; rw [← hits]; exact hP
    obtain ⟨w, ew, rw_⟩ := hr.get ep
    have : ∀ {vs : List V} {us : List Value}, Vals vs us → ∀ {i : Nat} {w : V} {u : Value}, vs[i]? = some w → us[i]? = some u → RelV w u := by
      intro vs us r
      induction r with
      | nil => intro i w u e; simp at e
      | cons q _ ih =>
        intro i w u e1 e2
        cases i with
        | zero => simp only [List.getElem?_cons_zero, Option.some.injEq] at e1 e2; subst e1; subst e2; exact q
        | succ i => exact ih (by simpa using e1) (by simpa using e2)
    exact ⟨w, H, I.kept (t' := tk) hk', this rv ew hP', g.pure hs rw_⟩
theorem toString_S (i : Int) : ((toString i : String) : Str) = S (toString i).toList := by
  show Str.ofString (toString i) = _
  rw [Str.ofString_eq_toList]; rfl
theorem blt_ok (hc : X.calm = true) (hu : X.A.units + 65 < cLine) (b : BN) (I : Inv X pins σ H s) (hs : SimX X H ad mh) {ps : List PV} {vs : List V} {us : List Value} (ru : Vals vs us) (r : Rvs X.K H ad ps vs) {Q : VK} (g : G0 X (RvX X) H ad (bltM b ps mh) Q) :
    wpAny (model X.prog X.w) X.A (call b.val us) (EP X pins σ Q) X.xe s := by
  unfold bltM at g
  split at g
  · obtain ⟨v, rfl, h1⟩ := rvs_one r
    obtain ⟨u, rfl, ru1⟩ := vals1 ru
    exact len_ok I hs ru1 h1 g
  · obtain ⟨v, rfl, h1⟩ := rvs_one r
    simp only [Rv] at h1; subst h1
    exact call_int1 pins s σ H _ us Q I ru (.inl ⟨_, rfl, g.pure hs rvint⟩)
  · obtain ⟨v, rfl, h1⟩ := rvs_one r
    simp only [Rv] at h1; subst h1
    exact call_int1 pins s σ H _ us Q I ru (.inr ⟨_, rfl, g.pure hs rvint⟩)
  · split at g
    · rename_i hl
      obtain ⟨v, rfl, h1⟩ := rvs_one r
      simp only [Rv] at h1; subst h1
      exact call_str_int pins s σ H _ us Q I ru ⟨_, rfl, hl, g.pure hs (by simp only [RvX, Rv]; rw [← toString_S])⟩
    · exact g.elim
  · obtain ⟨v, rfl, h1⟩ := rvs_one r
    split at g
    · rename_i xs e
      obtain ⟨a, ws, rfl, hr, hq⟩ := seq_of hs h1 e
      refine call_list_of pins s σ H _ us Q I ru ⟨a, ws, rfl, ?_, g.newL hs hr⟩
      rcases hq with ⟨_, hq⟩ | ⟨_, hq⟩
      · exact .inl hq
      · exact .inr hq
    · exact g.elim
  · obtain ⟨v, rfl, h1⟩ := rvs_one r
    split at g
    · rename_i xs e
      obtain ⟨a, ws, rfl, hr, hq⟩ := seq_of hs h1 e
      refine call_tuple_of pins s σ H _ us Q I ru ⟨a, ws, rfl, ?_⟩
      rcases hq with ⟨_, hq⟩ | ⟨_, hq⟩
      · exact .inl ⟨hq, g.newT hs hr⟩
      · exact .inr ⟨hq, g.pure hs (by simp only [RvX, Rv]; exact ⟨a, ws, rfl, hq, hr⟩)⟩
    · exact g.elim
  · obtain ⟨v, rfl, h1⟩ := rvs_one r
    split at g
    · rename_i xs e
      split at g
      · rename_i ns en
        obtain ⟨a, ws, rfl, hq, hr⟩ := lst_of hs h1 e
        rw [ints_of hr en] at hq
        exact cr_sum hc pins s σ H _ us Q I ru ⟨a, ns, rfl, hq, g.pure hs rvint⟩
      · exact g.elim
    · exact g.elim
  · obtain ⟨v, rfl, h1⟩ := rvs_one r
    split at g
    · rename_i xs e
      split at g
      · rename_i ns en
        obtain ⟨a, ws, rfl, hq, hr⟩ := lst_of hs h1 e
        rw [bools_of hr en] at hq
        exact cr_all hc pins s σ H _ us Q I ru ⟨a, ns, rfl, hq, g.pure hs (rvbl _)⟩
      · exact g.elim
    · exact g.elim
  · obtain ⟨v, rfl, h1⟩ := rvs_one r
    split at g
    · rename_i xs e
      split at g
      · rename_i ns en
        obtain ⟨a, ws, rfl, hq, hr⟩ := lst_of hs h1 e
        rw [bools_of hr en] at hq
        exact cr_any hc pins s σ H _ us Q I ru ⟨a, ns, rfl, hq, g.pure hs (rvbl _)⟩
      · exact g.elim
    · exact g.elim
  · obtain ⟨v, w, rfl, h1, h2⟩ := rvs_two r
    simp only [Rv] at h1 h2; subst h1; subst h2
    exact call_max2 hc pins s σ H _ us Q I ru ⟨_, _, rfl, g.pure hs rvint⟩
  · obtain ⟨v, w, rfl, h1, h2⟩ := rvs_two r
    simp only [Rv] at h1 h2; subst h1; subst h2
    exact call_min2 hc pins s σ H _ us Q I ru ⟨_, _, rfl, g.pure hs rvint⟩
  · obtain ⟨v, rfl, h1⟩ := rvs_one r
    split at g
    · rename_i xs e
      split at g
      · rename_i ns en
        split at g
        · exact g.elim
        · rename_i hne
          obtain ⟨a, ws, rfl, hq, hr⟩ := lst_of hs h1 e
          rw [ints_of hr en] at hq
          have hn : ns ≠ [] := by rintro rfl; exact hne rfl
          obtain ⟨k1, k2⟩ := maxL_spec ns hn
          refine cr_max hc pins s σ H _ us Q I ru ⟨a, ns, rfl, hq, List.length_pos_iff.mpr hn, fun m hm hle => ?_⟩
          have : m = maxL ns := Int.le_antisymm (k2 m hm) (hle _ k1)
          rw [this]; exact g.pure hs rvint
      · exact g.elim
    · exact g.elim
  · obtain ⟨v, rfl, h1⟩ := rvs_one r
    split at g
    · rename_i xs e
      split at g
      · rename_i ns en
        split at g
        · exact g.elim
        · rename_i hne
          obtain ⟨a, ws, rfl, hq, hr⟩ := lst_of hs h1 e
          rw [ints_of hr en] at hq
          have hn : ns ≠ [] := by rintro rfl; exact hne rfl
          obtain ⟨k1, k2⟩ := minL_spec ns hn
          refine cr_min hc pins s σ H _ us Q I ru ⟨a, ns, rfl, hq, List.length_pos_iff.mpr hn, fun m hm hle => ?_⟩
          have : m = minL ns := Int.le_antisymm (hle _ k1) (k2 m hm)
          rw [this]; exact g.pure hs rvint
      · split at g
        · rename_i ds ed
          split at g
          · rename_i hc2
            simp only [Bool.and_eq_true, Bool.not_eq_true', List.isEmpty_eq_false_iff] at hc2
            split at g
            · rename_i p ep
              obtain ⟨a, ws, rfl, hq, hr⟩ := lst_of hs h1 e
              obtain ⟨u1, rfl, ru1⟩ := vals1 ru
              cases ru1
              exact min_ok hc hu I hs hq hr ed hc2.1 hc2.2 ep g
            · exact g.elim
          · exact g.elim
        · exact g.elim
    · exact g.elim
  · obtain ⟨v, rfl, h1⟩ := rvs_one r
    obtain ⟨u, rfl, ru1⟩ := vals1 ru
    split at g
    · rename_i xs e
      split at g
      · rename_i ds ed
        split at g
        · rename_i ok
          simp only [Bool.and_eq_true, decide_eq_true_eq] at ok
          obtain ⟨a, ws, rfl, hq, hr⟩ := lst_of hs h1 e
          cases ru1
          exact sorted_ok hu I hs hq hr ed ok.1 ok.2 g
        · exact g.elim
      · exact g.elim
    · exact g.elim
  · exact g.elim
end
end FL
/-! FL10: methods of lists, dicts and texts by plain values. -/
namespace FL
open PySem PySem.Spec PyProof.Rows L2

inductive KT | list | dict | str
  deriving DecidableEq
def KT.nm : KT → String
  | .list => "list" | .dict => "dict" | .str => "str"
def kindT (h : MH) : PV → Option KT
  | .str _ => some .str
  | .ref n => match h[n]? with
    | some (.lst _) => some .list
    | some (.rls _) => some .list
    | some (.dct _) => some .dict
    | some (.dtp _) => some .dict
    | none => none
  | _ => none
inductive MN | append | pop | insert | reverse | index | get | join
  deriving DecidableEq
def MN.nm : MN → Str
  | .append => "append" | .pop => "pop" | .insert => "insert" | .reverse => "reverse" | .index => "index" | .get => "get" | .join => "join"
def joinC (sep : List Char) : List (List Char) → List Char
  | [] => []
  | [x] => x
  | x :: y :: r => x ++ sep ++ joinC sep (y :: r)
def firstEq (d : PyData) : List PyData → Option Nat
  | [] => none
  | z :: zs => if PyData.eqv z d then some 0 else (firstEq d zs).map (· + 1)
def mthM (T : KT) (m : MN) (x : PV) (vs : List PV) : M PV := fun h => match T, m, x, vs with
  | .list, .append, .ref n, [v] => match wl h n with
    | some xs => if xs.length < big then .ok .non (h.set n (.lst (xs ++ [v]))) else .bad
    | none => .bad
  | .list, .pop, .ref n, [] => match wl h n with
    | some xs => match xs[xs.length - 1]? with
      | some y => .ok y (h.set n (.lst xs.dropLast))
      | none => .bad
    | none => .bad
  | .list, .pop, .ref n, [.int i] => match wl h n with
    | some xs => if -(2 ^ 63) ≤ i ∧ i < 2 ^ 63 then match ixN xs.length i with
        | some k => match xs[k]? with
          | some y => .ok y (h.set n (.lst (xs.eraseIdx k)))
          | none => .bad
        | none => .bad
      else .bad
    | none => .bad
  | .list, .insert, .ref n, [.int i, y] => match wl h n with
    | some xs => if xs.length < big ∧ 0 ≤ i ∧ i < 2 ^ 63 then .ok .non (h.set n (.lst (xs.take i.toNat ++ [y] ++ xs.drop i.toNat))) else .bad
    | none => .bad
  | .list, .reverse, .ref n, [] => match wl h n with
    | some xs => .ok .non (h.set n (.lst xs.reverse))
    | none => .bad
  | .list, .index, .ref n, [y] => match snap h dp y, snap h dp (.ref n) with
    | some d, some (.list ds) => match firstEq d ds with
      | some j => .ok (.int (j : Nat)) h
      | none => .bad
    | _, _ => .bad
  | .dict, .get, .ref n, [k] => match h[n]? with
    | some (.dct kvs) => if flatK k then .ok ((kvAt kvs k).getD .non) h else .bad
    | some (.dtp kvs) => if tupK k && nkd k then .ok ((kvAt kvs k).getD .non) h else .bad
    | _ => .bad
  | .dict, .get, .ref n, [k, dflt] => match h[n]? with
    | some (.dct kvs) => if flatK k then .ok ((kvAt kvs k).getD dflt) h else .bad
    | some (.dtp kvs) => if tupK k && nkd k then .ok ((kvAt kvs k).getD dflt) h else .bad
    | _ => .bad
  | .str, .join, .str s, [x] => match seqOf h x with
    | some xs => match mapO asS xs with
      | some ls => if (ls.map List.length).sum + ls.length * s.length ≤ big then .ok (.str (joinC s ls)) h else .bad
      | none => .bad
    | none => .bad
  | _, _, _, _ => .bad

def mid : KT → MN → String
  | .list, .append => "list.append" | .list, .pop => "list.pop" | .list, .insert => "list.insert" | .list, .reverse => "list.reverse" | .list, .index => "list.index"
  | .dict, .get => "dict.get" | .str, .join => "str.join" | _, _ => ""
def okTM : KT → MN → Bool
  | .list, .append => true | .list, .pop => true | .list, .insert => true | .list, .reverse => true | .list, .index => true
  | .dict, .get => true | .str, .join => true | _, _ => false
theorem mid_slot {T : KT} {m : MN} (h : okTM T m = true) : PlainAttrs T.nm ∧ Slot T.nm m.nm (mid T m) ∧ typeOf (.builtin (mid T m)) = pure (.type "method_descriptor") := by
  cases T <;> cases m <;> first
    | (simp [okTM] at h; done)
    | exact ⟨PySem.F.plainAttrs_list, PySem.F.slot_list_append, PySem.F.type_list_append⟩
    | exact ⟨PySem.F.plainAttrs_list, PySem.F.slot_list_pop, PySem.F.type_list_pop⟩
    | exact ⟨PySem.F.plainAttrs_list, PySem.F.slot_list_insert, PySem.F.type_list_insert⟩
    | exact ⟨PySem.F.plainAttrs_list, PySem.F.slot_list_reverse, PySem.F.type_list_reverse⟩
    | exact ⟨PySem.F.plainAttrs_list, PySem.F.slot_list_index, PySem.F.type_list_index⟩
    | exact ⟨PySem.F.plainAttrs_dict, PySem.F.slot_dict_get, PySem.F.type_dict_get⟩
    | exact ⟨PySem.F.plainAttrs_str, PySem.F.slot_str_join, PySem.F.type_str_join⟩
section
variable {X : Cx} {pins : List (Addr × Obj)} {σ : L2.St} {H : Hp} {s : Shared} {ad : List Addr} {mh : MH}
theorem rvnon : RvX X H ad .non .non := by simp [RvX, Rv]
theorem kind_ok (I : Inv X pins σ H s) (hs : SimX X H ad mh) {p : PV} {v : V} {u : Value} (ru : RelV v u) (r : Rv X.K H ad p v) {T : KT} (e : kindT mh p = some T) :
    s.TypeIs u T.nm ∧ ∀ a, u = .ref a → ∃ ob, s.heap.get? a = some ob ∧ ob.dict = none := by
  unfold kindT at e
  split at e
  · cases e
    simp only [Rv] at r; subst r
    exact tyV_is I ru (T := "str") rfl
  · rename_i n
    simp only [Rv] at r
    obtain ⟨a, rfl, ha⟩ := r
    split at e
    · rename_i xs ex
      cases e
      obtain ⟨vs, hv, hr⟩ := hs.ob _ _ _ ex ha
      exact tyV_is I ru (T := "list") (.inl ⟨rfl, _, SqL.of hv⟩)
    · rename_i xs ex
      cases e
      obtain ⟨vs, hv, hr⟩ := hs.ob _ _ _ ex ha
      exact tyV_is I ru (T := "list") (.inl ⟨rfl, _, hv.seq⟩)
    · rename_i xs ex
      cases e
      obtain ⟨vs, hv, hr⟩ := hs.ob _ _ _ ex ha
      exact tyV_is I ru (T := "dict") (.inr (.inr (.inl ⟨rfl, .inl ⟨_, hv⟩⟩)))
    · rename_i xs ex
      cases e
      obtain ⟨_, _, xs, hx, nd, rr⟩ := hs.ob _ _ _ ex ha
      obtain ⟨ys, py, hd⟩ := dtp_read I hx nd rr
      cases ru
      refine ⟨hd.typeIs, fun b eb => ?_⟩
      cases eb
      obtain ⟨o, es, ep, k1, k2, _⟩ := hd
      exact ⟨o, k1, k2.2.1⟩
    · cases e
  · cases e
theorem firstEq_spec {d : PyData} : ∀ {ds : List PyData} {j : Nat}, firstEq d ds = some j → ∃ z, ds[j]? = some z ∧ PyData.eqv z d = true ∧ ∀ (m : Nat) (z' : PyData), m < j → ds[m]? = some z' → PyData.eqv z' d = false
  | [], j, e => by simp [firstEq] at e
  | z :: zs, j, e => by
    unfold firstEq at e
    split at e
    · rename_i h
      cases e
      exact ⟨z, rfl, h, fun m _ hm => absurd hm (by omega)⟩
    · rename_i h
      simp only [Option.map_eq_some_iff] at e
      obtain ⟨k, e, rfl⟩ := e
      obtain ⟨y, h1, h2, h3⟩ := firstEq_spec e
      refine ⟨y, by simpa using h1, h2, fun m z' hm hz => ?_⟩
      cases m with
      | zero => simp at hz; subst hz; simpa using h
      | succ m => exact h3 m z' (by omega) (by simpa using hz)
theorem rvs_eraseIdx {K : PySem.W.Frag} : ∀ {ps : List PV} {vs : List V} (k : Nat), Rvs K H ad ps vs → Rvs K H ad (ps.eraseIdx k) (vs.eraseIdx k)
  | [], _, k, r => by simp only [Rvs] at r; subst r; simp [Rvs]
  | p :: ps, _, 0, r => by
    simp only [Rvs] at r
    obtain ⟨v, t, rfl, h1, h2⟩ := r
    simpa using h2
  | p :: ps, _, k + 1, r => by
    simp only [Rvs] at r
    obtain ⟨v, t, rfl, h1, h2⟩ := r
    simp only [List.eraseIdx_cons_succ]
    exact Rvs.cons h1 (rvs_eraseIdx k h2)
theorem rvs_reverse {K : PySem.W.Frag} : ∀ {ps : List PV} {vs : List V}, Rvs K H ad ps vs → Rvs K H ad ps.reverse vs.reverse
  | [], _, r => by simp only [Rvs] at r; subst r; simp [Rvs]
  | p :: ps, _, r => by
    simp only [Rvs] at r
    obtain ⟨v, t, rfl, h1, h2⟩ := r
    simp only [List.reverse_cons]
    exact (rvs_reverse h2).append (Rvs.cons h1 Rvs.nil)
theorem rvs_dropLast {K : PySem.W.Frag} {ps : List PV} {vs : List V} (r : Rvs K H ad ps vs) : Rvs K H ad ps.dropLast vs.dropLast := by
  rw [List.dropLast_eq_take, List.dropLast_eq_take, r.length]; exact r.take _
/-- a list is written -/
theorem G0.wrL {n : Nat} {a : Addr} {xs ys : List PV} {ws : List V} {r : PV} {rv : V} {Q : VK} (g : G0 X (RvX X) H ad (.ok r (mh.set n (.lst ys))) Q) (hs : SimX X H ad mh) (e : mh[n]? = some (.lst xs)) (ha : ad[n]? = some a)
    (hr : Rvs X.K H ad ys ws) (hv : Rv X.K H ad r rv) : Q rv (upd H a (.lst ws)) := by
  obtain ⟨x, s'⟩ := hs.write (o' := .lst ys) (u := .lst ws) e ha rfl fun x => ⟨_, upd_same, hr.mono x⟩
  exact g _ _ _ x s' (hv.mono x)
theorem joinC_eq (sep : List Char) : ∀ (x : List Char) (r : List (List Char)), joinC sep (x :: r) = x ++ r.flatMap (sep ++ ·)
  | x, [] => by simp [joinC]
  | x, y :: r => by simp only [joinC]; rw [joinC_eq sep y r]; simp
theorem join_fold (sep : List Char) : ∀ (ls : List (List Char)) (acc : Array Nat), (ls.map S).foldl (fun acc p => acc ++ (S sep).cps ++ p.cps) acc = acc ++ ((ls.flatMap (sep ++ ·)).map Char.toNat).toArray
  | [], acc => by simp
  | x :: r, acc => by
    simp only [List.map_cons, List.foldl_cons]
    rw [join_fold sep r]
    apply Array.ext'
    simp [S]
theorem join_S (sep : List Char) (ls : List (List Char)) : Txt.join (S sep) (ls.map S) = S (joinC sep ls) := by
  show (⟨_⟩ : Str) = _
  cases ls with
  | nil => rfl
  | cons x r =>
    rw [joinC_eq]
    show (⟨(r.map S).foldl (fun acc p => acc ++ (S sep).cps ++ p.cps) (S x).cps⟩ : Str) = _
    rw [join_fold]
    simp only [S]
    congr 1
    apply Array.ext'
    simp
theorem mth_ok (hu : X.A.units + 65 < cLine) {T : KT} {m : MN} (I : Inv X pins σ H s) (hs : SimX X H ad mh) {p : PV} {v : V} {u : Value} {ps : List PV} {vs : List V} {us : List Value} (ru : RelV v u) (rus : Vals vs us) (r : Rv X.K H ad p v) (rs : Rvs X.K H ad ps vs)
    {Q : VK} (g : G0 X (RvX X) H ad (mthM T m p ps mh) Q) :
    wpAny (model X.prog X.w) X.A (call (.builtin (mid T m)) (u :: us)) (EP X pins σ Q) X.xe s := by
  unfold mthM at g
  split at g
  · rename_i n w
    obtain ⟨v', rfl, h1⟩ := rvs_one rs
    simp only [Rv] at r
    obtain ⟨a, rfl, ha⟩ := r
    cases e : wl mh n with
    | none => simp only [e] at g; exact g.elim
    | some xs =>
      simp only [e] at g
      split at g
      · rename_i hl
        obtain ⟨ws, k1, k2⟩ := hs.ob _ _ _ (wl_get e) ha
        exact mt_append pins s σ H _ _ u us Q I ru rus ⟨a, ws, v', rfl, rfl, k1, by rw [k2.length, big_eq]; exact hl, g.wrL hs (wl_get e) ha (k2.append (Rvs.cons h1 Rvs.nil)) rvnon⟩
      · exact g.elim
  · rename_i n
    simp only [Rvs] at rs; subst rs
    simp only [Rv] at r
    obtain ⟨a, rfl, ha⟩ := r
    cases e : wl mh n with
    | none => simp only [e] at g; exact g.elim
    | some xs =>
      simp only [e] at g
      split at g
      · rename_i y ey
        obtain ⟨ws, k1, k2⟩ := hs.ob _ _ _ (wl_get e) ha
        obtain ⟨yv, e1, e2⟩ := k2.get ey
        exact mt_pop pins s σ H _ _ u us Q I ru rus ⟨a, ws, yv, rfl, rfl, k1, by rw [k2.length]; exact e1, g.wrL hs (wl_get e) ha (rvs_dropLast k2) e2⟩
      · exact g.elim
  · rename_i n i
    obtain ⟨v', rfl, h1⟩ := rvs_one rs
    simp only [Rv] at h1; subst h1
    simp only [Rv] at r
    obtain ⟨a, rfl, ha⟩ := r
    cases e : wl mh n with
    | none => simp only [e] at g; exact g.elim
    | some xs =>
      simp only [e] at g
      split at g
      · rename_i hb
        split at g
        · rename_i k ek
          split at g
          · rename_i y ey
            obtain ⟨ws, k1, k2⟩ := hs.ob _ _ _ (wl_get e) ha
            obtain ⟨yv, e1, e2⟩ := k2.get ey
            obtain ⟨z1, _⟩ := ixN_seq ek
            exact mt_popAt pins s σ H _ _ u us Q I ru rus ⟨a, ws, i, k, yv, rfl, rfl, k1, hb.1, hb.2, by rw [k2.length]; exact z1, e1, g.wrL hs (wl_get e) ha (rvs_eraseIdx k k2) e2⟩
          · exact g.elim
        · exact g.elim
      · exact g.elim
  · rename_i n i y
    obtain ⟨v', w', rfl, h1, h2⟩ := rvs_two rs
    simp only [Rv] at h1; subst h1
    simp only [Rv] at r
    obtain ⟨a, rfl, ha⟩ := r
    cases e : wl mh n with
    | none => simp only [e] at g; exact g.elim
    | some xs =>
      simp only [e] at g
      split at g
      · rename_i hb
        obtain ⟨ws, k1, k2⟩ := hs.ob _ _ _ (wl_get e) ha
        exact mt_insert pins s σ H _ _ u us Q I ru rus ⟨a, ws, i, w', rfl, rfl, k1, by rw [k2.length, big_eq]; exact hb.1, hb.2.1, hb.2.2,
          g.wrL hs (wl_get e) ha (((k2.take _).append (Rvs.cons h2 Rvs.nil)).append (k2.drop _)) rvnon⟩
      · exact g.elim
  · rename_i n
    simp only [Rvs] at rs; subst rs
    simp only [Rv] at r
    obtain ⟨a, rfl, ha⟩ := r
    cases e : wl mh n with
    | none => simp only [e] at g; exact g.elim
    | some xs =>
      simp only [e] at g
      obtain ⟨ws, k1, k2⟩ := hs.ob _ _ _ (wl_get e) ha
      exact mt_reverse pins s σ H _ _ u us Q I ru rus ⟨a, ws, rfl, rfl, k1, g.wrL hs (wl_get e) ha (rvs_reverse k2) rvnon⟩
  · rename_i n y
    obtain ⟨v', rfl, h1⟩ := rvs_one rs
    split at g
    · rename_i d ds e1 e2
      split at g
      · rename_i j ej
        obtain ⟨a1, a2⟩ := snap_sh hs h1 e1
        obtain ⟨b1, b2⟩ := snap_sh hs r e2
        simp only [Rv] at r
        obtain ⟨a, rfl, ha⟩ := r
        obtain ⟨z, z1, z2, z3⟩ := firstEq_spec ej
        exact mt_indexD hu pins s σ H _ _ u us Q I ru rus ⟨a, v', d, ds, j, z, rfl, rfl, b1, a1, b2, a2, z1, z2, z3, g.pure hs rvint⟩
      · exact g.elim
    · exact g.elim
  · rename_i n k
    obtain ⟨v', rfl, h1⟩ := rvs_one rs
    obtain ⟨ku, rfl, rk⟩ := vals1 rus
    simp only [Rv] at r
    obtain ⟨a, rfl, ha⟩ := r
    cases ru
    split at g
    · rename_i kvs e
      split at g
      · rename_i hf
        obtain ⟨ws, ew, rw_⟩ := hs.ob _ _ _ e ha
        obtain ⟨kk, hk, rfl⟩ := flat_key h1 hf
        refine d_get1 (o := valV ws kk) (by omega) I (DGet.k ew) rk fun w' s' I' rw' => ⟨_, H, I', rw', ?_⟩
        rcases dct_find hk rw_ with ⟨q1, q2⟩ | ⟨p', v'', q1, q2, q3⟩
        · rw [q1] at g; rw [q2]; exact g.pure hs rvnon
        · rw [q1] at g; rw [q2]; exact g.pure hs q3
      · exact g.elim
    · rename_i kvs e
      split at g
      · rename_i hf
        simp only [Bool.and_eq_true] at hf
        obtain ⟨hf1, hf2⟩ := hf
        obtain ⟨hsm, _, xs, ex, nd, rr⟩ := hs.ob _ _ _ e ha
        obtain ⟨ys, py, hd⟩ := dtp_read I ex nd rr
        unfold nkd at hf2
        cases ek : nk k with
        | none => rw [ek] at hf2; cases hf2
        | some kk =>
          rw [ek] at hf2
          have hdep : kk.depth ≤ 8 := of_decide_eq_true hf2
          cases k with
          | tup qs =>
            have h1' := h1
            simp only [Rv] at h1
            obtain ⟨b, vs, rfl, hq, hr⟩ := h1
            cases rk
            have his : (nestedKind X.prog X.w).is s.heap kk b := ⟨nk_is I (.tup qs) (.ref b) (.ref b) kk h1' rfl ek, hdep⟩
            have hroom : (nestedKind X.prog X.w).room X.A.in1 := by
              show X.A.units + 1 + 8 < cLine
              omega
            rcases kv_find ek rr py with ⟨q1, q2⟩ | ⟨p', v'', b', u', q1, q2, q3, q4⟩
            · rw [q1] at g
              refine get_keyed hroom his hsm ⟨ys, hd, rfl⟩ ?_
              rw [valueAt_pairsH, q2]
              exact ⟨.non, H, I.tok _, rfl, g.pure hs rvnon⟩
            · rw [q1] at g
              refine get_keyed hroom his hsm ⟨ys, hd, rfl⟩ ?_
              rw [valueAt_pairsH, q2]
              exact ⟨v'', H, I.tok _, q4, g.pure hs q3⟩
          | _ => simp [tupK] at hf1
      · exact g.elim
    · exact g.elim
  · rename_i n k dflt
    obtain ⟨v', d', rfl, h1, h2⟩ := rvs_two rs
    obtain ⟨ku, du, rfl, rk, rd⟩ := vals2 rus
    simp only [Rv] at r
    obtain ⟨a, rfl, ha⟩ := r
    cases ru
    split at g
    · rename_i kvs e
      split at g
      · rename_i hf
        obtain ⟨ws, ew, rw_⟩ := hs.ob _ _ _ e ha
        obtain ⟨kk, hk, rfl⟩ := flat_key h1 hf
        refine d_get2 (o := valV ws kk) (by omega) I (DGet.k ew) rk rd fun w' s' I' rw' => ⟨_, H, I', rw', ?_⟩
        rcases dct_find hk rw_ with ⟨q1, q2⟩ | ⟨p', v'', q1, q2, q3⟩
        · rw [q1] at g; rw [q2]; exact g.pure hs h2
        · rw [q1] at g; rw [q2]; exact g.pure hs q3
      · exact g.elim
    · rename_i kvs e
      split at g
      · rename_i hf
        simp only [Bool.and_eq_true] at hf
        obtain ⟨hf1, hf2⟩ := hf
        obtain ⟨hsm, _, xs, ex, nd, rr⟩ := hs.ob _ _ _ e ha
        obtain ⟨ys, py, hd⟩ := dtp_read I ex nd rr
        unfold nkd at hf2
        cases ek : nk k with
        | none => rw [ek] at hf2; cases hf2
        | some kk =>
          rw [ek] at hf2
          have hdep : kk.depth ≤ 8 := of_decide_eq_true hf2
          cases k with
          | tup qs =>
            have h1' := h1
            simp only [Rv] at h1
            obtain ⟨b, vs, rfl, hq, hr⟩ := h1
            cases rk
            have his : (nestedKind X.prog X.w).is s.heap kk b := ⟨nk_is I (.tup qs) (.ref b) (.ref b) kk h1' rfl ek, hdep⟩
            have hroom : (nestedKind X.prog X.w).room X.A.in1 := by
              show X.A.units + 1 + 8 < cLine
              omega
            rcases kv_find ek rr py with ⟨q1, q2⟩ | ⟨p', v'', b', u', q1, q2, q3, q4⟩
            · rw [q1] at g
              refine getOr_keyed hroom his hsm ⟨ys, hd, rfl⟩ ?_
              rw [valueAt_pairsH, q2]
              exact ⟨d', H, I.tok _, rd, g.pure hs h2⟩
            · rw [q1] at g
              refine getOr_keyed hroom his hsm ⟨ys, hd, rfl⟩ ?_
              rw [valueAt_pairsH, q2]
              exact ⟨v'', H, I.tok _, q4, g.pure hs q3⟩
          | _ => simp [tupK] at hf1
      · exact g.elim
    · exact g.elim
  · rename_i sp x
    obtain ⟨v', rfl, h1⟩ := rvs_one rs
    split at g
    · rename_i xs e
      split at g
      · rename_i ls el
        split at g
        · rename_i hl
          obtain ⟨a, ws, rfl, hr, hq⟩ := seq_of hs h1 e
          rw [strs_of hr el] at hq
          simp only [Rv] at r; subst r
          refine mt_join pins s σ H _ _ u us Q I ru rus ⟨S sp, a, ls.map S, rfl, rfl, ?_, ?_, g.pure hs ?_⟩
          · rcases hq with ⟨_, hq⟩ | ⟨_, hq⟩
            · exact .inl hq
            · exact .inr hq
          · have : (ls.map S).map (·.length) = ls.map List.length := by
              rw [List.map_map]; apply List.map_congr_left; intro x _; exact S_length x
            rw [this, List.length_map, S_length]; exact hl
          · simp only [RvX, Rv]; rw [join_S]
        · exact g.elim
      · exact g.elim
    · exact g.elim
  · exact g.elim
end
end FL
/-! FL11: the core language of expressions, its evaluator, and what says that a core term is a Python expression. -/
namespace FL
open PySem PySem.Spec PyProof.Rows L2

/-- targets: a slot, or a tuple of slots -/
inductive CT | one (i : Nat) | tup (is : List Nat)
inductive TN | int | str | bool | tuple | list | dict
def TN.ty : TN → String
  | .int => "int" | .str => "str" | .bool => "bool" | .tuple => "tuple" | .list => "list" | .dict => "dict"
def TN.nm : TN → Str
  | .int => "int" | .str => "str" | .bool => "bool" | .tuple => "tuple" | .list => "list" | .dict => "dict"
inductive PK | non | bl | int | str | tup | lst | dct
def PK.ty : PK → String
  | .non => "NoneType" | .bl => "bool" | .int => "int" | .str => "str" | .tup => "tuple" | .lst => "list" | .dct => "dict"
def isTN : PK → TN → Bool
  | .bl, .bool => true
  | .bl, .int => true
  | .int, .int => true
  | .str, .str => true
  | .tup, .tuple => true
  | .lst, .list => true
  | .dct, .dict => true
  | _, _ => false
def pkOf (h : MH) : PV → Option PK
  | .non => some .non
  | .bl _ => some .bl
  | .int _ => some .int
  | .str _ => some .str
  | .tup _ => some .tup
  | .ref n => match h[n]? with
    | some (.lst _) => some .lst
    | some (.rls _) => some .lst
    | some (.dct _) => some .dct
    | _ => none
  | .exc _ _ => none
def isiM (ts : List TN) (x : PV) : M PV := fun h => match pkOf h x with
  | some k => .ok (.bl (ts.any (isTN k))) h
  | none => .bad
def dsetM (n : Nat) (x y : PV) : M Unit := fun h => match h[n]? with
  | some (.dtp _) => setM (.ref n) x y h
  | _ => .bad
mutual
inductive CE where
  | loc (i : Nat)
  | glb (x : Str)
  | cst (c : PV)
  | bin (op : Operator) (a b : CE)
  | neg (a : CE)
  | cmp (op : CmpOp) (a b : CE)
  | chn (o1 o2 : CmpOp) (a b c : CE)
  | bop (isAnd : Bool) (es : CEs)
  | nt (a : CE)
  | sub (a i : CE)
  | slc (a : CE) (lo hi : CO)
  | tup (es : CEs)
  | lst (es : CEs)
  | dnew (tk : Bool)
  | call (f : Str) (es : CEs)
  | blt (b : BN) (es : CEs)
  | mth (m : MN) (o : CE) (es : CEs)
  | isi (a : CE) (ts : List TN) (tp : Bool)
  | dd1 (k v : CE)
  | lc (elt : CE) (own : List (Str × Nat)) (t : CT) (it : CI) (ifs : CEs)
inductive CEs where
  | nil
  | cons (e : CE) (es : CEs)
inductive CO where
  | none
  | some (e : CE)
inductive CI where
  | val (e : CE)
  | rng1 (e : CE)
  | rng2 (a b : CE)
  | enm (e : CE)
  | rev (e : CE)
end

/-! ### what is walked -/
inductive IT where
  | lst (n : Nat)
  | enl (n : Nat)
  | rvl (n k : Nat)
  | seq (xs : List PV)
def IT.at (t : IT) (i : Nat) (h : MH) : Option (Option PV) := match t with
  | .lst n => (lget h n).map fun xs => xs[i]?
  | .enl n => (lget h n).map fun xs => xs[i]?.map fun x => .tup [.int (i : Nat), x]
  | .rvl n k => if i < k then match lget h n with
      | some xs => match xs[k - 1 - i]? with
        | some x => some (some x)
        | none => none
      | none => none
    else some none
  | .seq xs => some xs[i]?
def IT.fuel (t : IT) (h : MH) : Nat := match t with
  | .lst n => ((lget h n).getD []).length + 1
  | .enl n => ((lget h n).getD []).length + 1
  | .rvl _ k => k + 1
  | .seq xs => xs.length + 1
def setTs : List Nat → List PV → Fr → Option Fr
  | [], [], fr => some fr
  | i :: is, x :: xs, fr => setTs is xs (fr.set i (some x))
  | _, _, _ => none
def setT (t : CT) (x : PV) (fr : Fr) : Option Fr := match t with
  | .one i => some (fr.set i (some x))
  | .tup is => match x with
    | .tup xs => setTs is xs fr
    | _ => none
def wipeF (fr : Fr) : List Nat → Fr
  | [] => fr
  | v :: vs => (wipeF fr vs).set v none

def M.nx {α : Type} (m : M α) : M α := fun h => match m h with
  | .ok a h' => .ok a h'
  | _ => .bad
def isBl (v : PV) : M Bool := match v with
  | .bl b => M.ret b
  | _ => M.bad
/-- a comprehension's turns -/
def compL0 (t : IT) (n : Nat) (step : PV → M (Option PV)) : Nat → Nat → M Unit
  | 0, _ => M.bad
  | f + 1, i => fun h => match t.at i h with
    | none => .bad
    | some none => .ok () h
    | some (some x) => match step x h with
      | .ok none h' => compL0 t n step f (i + 1) h'
      | .ok (some v) h' => match wl h' n with
        | some acc => if acc.length < big then compL0 t n step f (i + 1) (h'.set n (.lst (acc ++ [v]))) else .bad
        | none => .bad
      | _ => .bad
def nats (lo : Int) : Nat → List PV
  | 0 => []
  | n + 1 => .int lo :: nats (lo + 1) n
def okR (i : Int) : Bool := decide (-(2 ^ 62) ≤ i ∧ i < 2 ^ 62)

section
variable (G : GG)
mutual
def evE0 : CE → Fr → M PV
  | .loc i, fr => fun h => match fr[i]? with
    | some (some p) => .ok p h
    | _ => .bad
  | .glb x, _ => fun h => match G.cons x with
    | some p => .ok p h
    | none => .bad
  | .cst c, _ => M.ret c
  | .bin op a b, fr => do
    let x ← evE0 a fr
    let y ← evE0 b fr
    (binM op x y).nx
  | .neg a, fr => do
    let x ← evE0 a fr
    match x with
    | .int i => M.ret (.int (-i))
    | _ => M.bad
  | .cmp op a b, fr => do
    let x ← evE0 a fr
    let y ← evE0 b fr
    (cmpM op x y).nx
  | .chn o1 o2 a b c, fr => do
    let x ← evE0 a fr
    let y ← evE0 b fr
    let r ← (cmpM o1 x y).nx
    let k ← isBl r
    if k then do
      let z ← evE0 c fr
      (cmpM o2 y z).nx
    else M.ret (.bl false)
  | .bop isAnd es, fr => evB0 isAnd es fr
  | .nt a, fr => do
    let x ← evE0 a fr
    let b ← isBl x
    M.ret (.bl (!b))
  | .sub a i, fr => do
    let x ← evE0 a fr
    let y ← evE0 i fr
    (ixM x y).nx
  | .slc a lo hi, fr => do
    let x ← evE0 a fr
    let l ← evO0 lo fr
    let u ← evO0 hi fr
    (slcM x l u).nx
  | .tup es, fr => do
    let xs ← evEs0 es fr
    if xs.length ≤ big then M.ret (.tup xs) else M.bad
  | .lst es, fr => do
    let xs ← evEs0 es fr
    if xs.length ≤ big then newL xs else M.bad
  | .dnew tk, _ => fun h => .ok (.ref h.length) (h ++ [if tk then .dtp [] else .dct []])
  | .call f es, fr => match G.fns f with
    | some F => do
      let xs ← evEs0 es fr
      F xs
    | none => M.bad
  | .blt b es, fr => do
    let xs ← evEs0 es fr
    (bltM b xs).nx
  | .mth m o es, fr => do
    let x ← evE0 o fr
    let T ← (fun h => match kindT h x with
      | some T => if okTM T m then .ok T h else .bad
      | none => .bad : M KT)
    let xs ← evEs0 es fr
    (mthM T m x xs).nx
  | .isi a ts _, fr => do
    let x ← evE0 a fr
    isiM ts x
  | .dd1 k v, fr => fun h0 => (do
      let x ← evE0 k fr
      let y ← evE0 v fr
      (dsetM h0.length x y).nx
      M.ret (.ref h0.length) : M PV) (h0 ++ [.dtp []])
  | .lc elt own t it ifs, fr => do
    let I ← evI0 it fr
    fun h0 =>
      let n := h0.length
      let fr0 := wipeF fr (own.map (·.2))
      match compL0 I n (fun x => fun h => match setT t x fr0 with
        | some fr1 => match evAll0 ifs fr1 h with
          | .ok true h1 => match evE0 elt fr1 h1 with
            | .ok v h2 => .ok (some v) h2
            | _ => .bad
          | .ok false h1 => .ok none h1
          | _ => .bad
        | none => .bad) (I.fuel h0) 0 (h0 ++ [.lst []]) with
      | .ok _ h1 => .ok (.ref n) h1
      | _ => .bad
def evEs0 : CEs → Fr → M (List PV)
  | .nil, _ => M.ret []
  | .cons e es, fr => do
    let x ← evE0 e fr
    let xs ← evEs0 es fr
    M.ret (x :: xs)
def evB0 (isAnd : Bool) : CEs → Fr → M PV
  | .nil, _ => M.bad
  | .cons e .nil, fr => evE0 e fr
  | .cons e (.cons f es), fr => do
    let x ← evE0 e fr
    let b ← isBl x
    if b == isAnd then evB0 isAnd (.cons f es) fr else M.ret (.bl b)
/-- all tests of a comprehension -/
def evAll0 : CEs → Fr → M Bool
  | .nil, _ => M.ret true
  | .cons e .nil, fr => do
    let x ← evE0 e fr
    isBl x
  | _, _ => M.bad
def evO0 : CO → Fr → M (Option Int)
  | .none, _ => M.ret none
  | .some e, fr => do
    let x ← evE0 e fr
    match x with
    | .int i => M.ret (some i)
    | _ => M.bad
def evI0 : CI → Fr → M IT
  | .val e, fr => do
    let x ← evE0 e fr
    fun h => match x with
      | .ref n => match lget h n with
        | some _ => .ok (.lst n) h
        | none => .bad
      | .tup xs => .ok (.seq xs) h
      | .str l => .ok (.seq (l.map fun c => .str [c])) h
      | _ => .bad
  | .rng1 e, fr => do
    let x ← evE0 e fr
    match x with
    | .int i => if okR i then M.ret (.seq (nats 0 i.toNat)) else M.bad
    | _ => M.bad
  | .rng2 a b, fr => do
    let x ← evE0 a fr
    let y ← evE0 b fr
    match x, y with
    | .int i, .int j => if okR i && okR j then M.ret (.seq (nats i (j - i).toNat)) else M.bad
    | _, _ => M.bad
  | .enm e, fr => do
    let x ← evE0 e fr
    fun h => match x with
      | .ref n => match lget h n with
        | some _ => .ok (.enl n) h
        | none => .bad
      | _ => .bad
  | .rev e, fr => do
    let x ← evE0 e fr
    fun h => match x with
      | .ref n => match lget h n with
        | some xs => .ok (.rvl n xs.length) h
        | none => .bad
      | _ => .bad
end
end
end FL
/-! FL12: the checker of expressions; what is wanted of a result, errors counted. -/
namespace FL
open PySem PySem.Spec PyProof.Rows L2

/-! ### the checker -/
def visB (sc : Scope) (x : Str) : Bool := match sc.names.lookup x with
  | some .local => true
  | some .cell => true
  | some .free => true
  | _ => false
def glB (sc : Scope) (x : Str) : Bool := match sc.names.lookup x with
  | some .globalImplicit => !(x == ("__debug__" : Str))
  | _ => false
def locB (sc : Scope) (fnc : Str → Bool) (x : Str) : Bool := match sc.names.lookup x with
  | some .local => true
  | some .cell => fnc x
  | _ => false
def cstB : PV → Const → Bool
  | .non, .none => true
  | .bl b, .bool c => b == c
  | .int i, .int j => decide (i = j)
  | .str l, .str x => decide (x = S l)
  | _, _ => false
def notSl : Expr → Bool
  | .Slice .. => false
  | _ => true
def notC0 : Expr → Bool
  | .Call (.Name _ _) [] [] _ => false
  | _ => true
def notSet : Expr → Bool
  | .Set .. => false
  | _ => true
def okTs (N : List Str) (sc : Scope) (fnc : Str → Bool) : List Nat → List Expr → Bool
  | [], [] => true
  | i :: is, .Name x _ :: es => decide (N[i]? = some x) && locB sc fnc x && okTs N sc fnc is es
  | _, _ => false
def okT (N : List Str) (sc : Scope) (fnc : Str → Bool) : CT → Expr → Bool
  | .one i, .Name x _ => decide (N[i]? = some x) && locB sc fnc x
  | .tup is, .Tuple es _ _ => okTs N sc fnc is es
  | _, _ => false
def isTupE : Expr → Bool
  | .Tuple .. => true
  | _ => false
def okTy (sc : Scope) (t : TN) : Expr → Bool
  | .Name y _ => decide (y = t.nm) && glB sc y
  | _ => false
def okTys (sc : Scope) : List TN → List Expr → Bool
  | [], [] => true
  | t :: ts, e :: es => okTy sc t e && okTys sc ts es
  | _, _ => false
def okIs (sc : Scope) (ts : List TN) (tp : Bool) (e : Expr) : Bool := if tp then decide (ts.length ≤ 20) && (match e with
    | .Tuple es _ _ => okTys sc ts es
    | _ => false)
  else (match ts with
    | [t] => okTy sc t e
    | _ => false)
mutual
def okE (N : List Str) : CE → Scope → Expr → Bool
  | .loc i, sc, .Name x _ => decide (N[i]? = some x) && visB sc x && !(x == ("__debug__" : Str)) && !(x == ("__classdict__" : Str))
  | .glb y, sc, .Name x _ => decide (x = y) && glB sc x
  | .cst c, _, .Constant k _ _ => cstB c k
  | .bin op a b, sc, .BinOp x o y _ => decide (o = op) && okE N a sc x && okE N b sc y
  | .neg a, sc, .UnaryOp .USub x _ => okE N a sc x
  | .cmp op a b, sc, .Compare x [o] [y] _ => decide (o = op) && okE N a sc x && okE N b sc y
  | .chn o1 o2 a b c, sc, .Compare x [p1, p2] [y, z] _ => decide (p1 = o1) && decide (p2 = o2) && okE N a sc x && okE N b sc y && okE N c sc z
  | .bop true es, sc, .BoolOp .And xs _ => okEs N es sc xs
  | .bop false es, sc, .BoolOp .Or xs _ => okEs N es sc xs
  | .nt a, sc, .UnaryOp .Not x _ => okE N a sc x
  | .sub a i, sc, .Subscript x y _ => okE N a sc x && okE N i sc y
  | .slc a lo hi, sc, .Subscript x (.Slice l u none _) _ => okE N a sc x && okO N lo sc l && okO N hi sc u
  | .tup es, sc, .Tuple xs _ _ => okEs N es sc xs
  | .lst es, sc, .List xs _ => okEs N es sc xs
  | .dnew _, _, .Dict [] [] _ => true
  | .call f es, sc, .Call (.Name x _) xs [] _ => decide (x = f) && glB sc x && okEs N es sc xs
  | .blt b es, sc, .Call (.Name x _) xs [] _ => decide (x = b.nm) && glB sc x && okEs N es sc xs && !xs.isEmpty
  | .mth m o es, sc, .Call (.Attribute oe nm ap) xs [] cp => decide (nm = m.nm) && (ap.endLine == cp.line) && notC0 oe && decide (xs.length < 30) && okE N o sc oe && okEs N es sc xs
  | .isi a ts tp, sc, .Call (.Name x _) [e, T] [] _ => decide (x = ("isinstance" : Str)) && glB sc x && okE N a sc e && okIs sc ts tp T
  | .dd1 k v, sc, .Dict [some x] [y] _ => okE N k sc x && okE N v sc y
  | .lc elt own t it ifs, sc, .ListComp e [⟨tg, iter, ifl, 0⟩] scope _ => blkC N sc scope own && okT N (relS scope sc) (fun x => scope.names.lookup x == some .cell) t tg && notSet iter && okI N it sc tg iter && okEs N ifs (relS scope sc) ifl && okE N elt (relS scope sc) e && sameSlots t (own.map (·.2))
  | _, _, _ => false
def sameSlots (t : CT) (vs : List Nat) : Bool := match t with
  | .one i => decide (vs = [i])
  | .tup is => decide (vs = is)
def okEs (N : List Str) : CEs → Scope → List Expr → Bool
  | .nil, _, [] => true
  | .cons e es, sc, x :: xs => okE N e sc x && okEs N es sc xs
  | _, _, _ => false
def okO (N : List Str) : CO → Scope → Option Expr → Bool
  | .none, _, none => true
  | .some e, sc, some x => okE N e sc x
  | _, _, _ => false
def okI (N : List Str) : CI → Scope → Expr → Expr → Bool
  | .val e, sc, _, x => okE N e sc x
  | .rng1 e, sc, _, .Call (.Name x _) [a] [] _ => decide (x = ("range" : Str)) && glB sc x && okE N e sc a
  | .rng2 d e, sc, _, .Call (.Name x _) [a, b] [] _ => decide (x = ("range" : Str)) && glB sc x && okE N d sc a && okE N e sc b
  | .enm e, sc, tg, .Call (.Name x _) [a] [] _ => decide (x = ("enumerate" : Str)) && glB sc x && okE N e sc a && isTupE tg
  | .rev e, sc, _, .Call (.Name x _) [a] [] _ => decide (x = ("reversed" : Str)) && glB sc x && okE N e sc a
  | _, _, _, _ => false
end

/-! ### errors -/
def ExR (G : GG) (X : Cx) (H : Hp) (ad : List Addr) (c : Exc) (cls : Value) (d : Option Addr) : Prop :=
  ∃ C fs, X.mg c.cls = some (.ref C) ∧ cls = .ref C ∧ G.exs c.cls = some fs ∧ fs.length = c.args.length ∧ (fs = [] → d = none) ∧
    (fs ≠ [] → ∃ dd kvs, d = some dd ∧ H dd = some (.xd kvs) ∧ ∀ (i : Nat) (f : Str) (p : PV), fs[i]? = some f → c.args[i]? = some p → ∃ v, kvs.lookup f = some v ∧ Rv X.K H ad p v)
/-- what is wanted of a result -/
def Good {α β : Type} (G : GG) (X : Cx) (R : Hp → List Addr → α → β → Prop) (W : WX) (σ : L2.St) (fr : Fr) (H : Hp) (ad : List Addr) (r : Res α) (Q : β → Hp → Prop) : Prop :=
  match r with
  | .ok a mh' => ∀ b H' ad', Ext H ad H' ad' → SimX X H' ad' mh' → R H' ad' a b → Q b H'
  | .exc c mh' => ∀ cls d H' ad', Ext H ad H' ad' → SimX X H' ad' mh' → FrR X.K H' ad' fr σ → ExR G X H' ad' c cls d → W cls d σ H'
  | .bad => False
section
variable {G : GG} {X : Cx} {W : WX} {σ : L2.St} {fr : Fr} {H : Hp} {ad : List Addr} {mh : MH} {α β γ δ : Type} {R : Hp → List Addr → α → β → Prop} {R' : Hp → List Addr → γ → δ → Prop}
theorem Good.mono {r : Res α} {Q : β → Hp → Prop} {H' : Hp} {ad' : List Addr} (x : Ext H ad H' ad') (g : Good G X R W σ fr H ad r Q) : Good G X R W σ fr H' ad' r Q := by
  cases r with
  | ok a mh' => exact fun b H2 ad2 y s r => g b H2 ad2 (x.trans y) s r
  | exc c mh' => exact fun cls d H2 ad2 y s f e => g cls d H2 ad2 (x.trans y) s f e
  | bad => exact g
theorem Good.imp {r : Res α} {Q Q' : β → Hp → Prop} (h : ∀ b H', Q b H' → Q' b H') (g : Good G X R W σ fr H ad r Q) : Good G X R W σ fr H ad r Q' := by
  cases r with
  | ok a mh' => exact fun b H2 ad2 y s r => h _ _ (g b H2 ad2 y s r)
  | exc c mh' => exact g
  | bad => exact g
theorem Good.bind {m : M α} {k : α → M γ} {Q : δ → Hp → Prop} (g : Good G X R' W σ fr H ad ((m >>= k) mh) Q) :
    Good G X R W σ fr H ad (m mh) (fun b H1 => ∃ a mh1 ad1, Ext H ad H1 ad1 ∧ SimX X H1 ad1 mh1 ∧ R H1 ad1 a b ∧ Good G X R' W σ fr H1 ad1 (k a mh1) Q) := by
  rw [bind_eq] at g
  cases hm : m mh with
  | ok a mh1 => rw [hm] at g; exact fun b H1 ad1 x s r => ⟨a, mh1, ad1, x, s, r, g.mono x⟩
  | exc c mh1 => rw [hm] at g; exact g
  | bad => rw [hm] at g; exact g
theorem Good.nx {m : M α} {Q : β → Hp → Prop} (g : Good G X R W σ fr H ad (m.nx mh) Q) : G0 X R H ad (m mh) Q := by
  unfold M.nx at g
  cases hm : m mh with
  | ok a mh1 => rw [hm] at g; exact g
  | exc c mh1 => rw [hm] at g; exact g
  | bad => rw [hm] at g; exact g
theorem Good.pure {a : α} {b : β} {Q : β → Hp → Prop} (g : Good G X R W σ fr H ad (.ok a mh) Q) (s : SimX X H ad mh) (r : R H ad a b) : Q b H := g b H ad (Ext.refl _ _) s r
theorem Good.g0 {a : α} {mh' : MH} {Q : β → Hp → Prop} (g : Good G X R W σ fr H ad (.ok a mh') Q) : G0 X R H ad (.ok a mh') Q := g
end

/-! ### readings -/
def tM (G : GG) (X : Cx) (W : WX) (m : Fr → M PV) : TE := fun σ H Q => ∃ fr mh ad, SimX X H ad mh ∧ FrR X.K H ad fr σ ∧ Good G X (RvX X) W σ fr H ad (m fr mh) Q
def tMs (G : GG) (X : Cx) (W : WX) (m : Fr → M (List PV)) : TA := fun σ H Q => ∃ fr mh ad, SimX X H ad mh ∧ FrR X.K H ad fr σ ∧ Good G X (fun H ad (a : List PV) b => Rvs X.K H ad a b) W σ fr H ad (m fr mh) Q
def tMo (G : GG) (X : Cx) (W : WX) (m : Fr → M (Option Int)) : TO := fun σ H Q => ∃ fr mh ad, SimX X H ad mh ∧ FrR X.K H ad fr σ ∧ Good G X (fun _ _ (a : Option Int) b => a = b) W σ fr H ad (m fr mh) Q
def tMt (G : GG) (X : Cx) (W : WX) (m : Fr → M Bool) : TT := fun σ H Q => ∃ fr mh ad, SimX X H ad mh ∧ FrR X.K H ad fr σ ∧ Good G X (fun _ _ (a : Bool) b => a = b) W σ fr H ad (m fr mh) Q
theorem pe_imp {X : Cx} {e : Expr} {t t' : TE} (h : PE X e t) (k : ∀ σ H Q, t' σ H Q → t σ H Q) : PE X e t' := ⟨fun pins s σ H Q I hw => h.run pins s σ H Q I (k σ H Q hw)⟩
theorem pt_imp {X : Cx} {e : Expr} {t t' : TT} (h : PT X e t) (k : ∀ σ H Q, t' σ H Q → t σ H Q) : PT X e t' := ⟨fun pins s σ H Q I hw => h.run pins s σ H Q I (k σ H Q hw)⟩
theorem pa_imp {X : Cx} {e : List Expr} {t t' : TA} (h : PA X e t) (k : ∀ σ H Q, t' σ H Q → t σ H Q) : PA X e t' := ⟨fun pos pins s σ H Q I hw => h.run pos pins s σ H Q I (k σ H Q hw)⟩
theorem po_imp {X : Cx} {e : Option Expr} {t t' : TO} (h : PO X e t) (k : ∀ σ H Q, t' σ H Q → t σ H Q) : PO X e t' := ⟨fun pins s σ H Q I hw => h.run pins s σ H Q I (k σ H Q hw)⟩

/-! ### what a def promises -/
def spF (G : GG) (X : Cx) (F : List PV → M PV) (n : Nat) : Sp := fun vs H Q E => vs.length = n ∧ ∃ ps mh ad, SimX X H ad mh ∧ Rvs X.K H ad ps vs ∧ Good G X (RvX X) (fun cls d _ H' => E cls d H') [] [] H ad (F ps mh) Q
structure COk (G : GG) (X : Cx) (W : WX) (N : List Str) (sc : Scope) (k : Nat) : Prop where
  names : X.N = N
  nd : N.Nodup
  scope : X.env.scope = sc
  calm : X.calm = true
  room : Room k X.A
  takes : Takes X W
  fns : ∀ x F, G.fns x = some F → ∃ j f fd ps, j ≤ k ∧ FnOk X.prog X.w X.K X.mg X.base (CX X.prog X.w) j f fd ps (spF G X F ps.length) ∧ X.mg x = some (.ref f) ∧ PySem.W.keepIn X.K (.ref f) = true ∧ Binds X.K fd ps [] ∧ ∀ xs h, xs.length ≠ ps.length → F xs h = .bad
  cons : ∀ x p, G.cons x = some p → ∃ u v, X.mg x = some u ∧ RelV v u ∧ ∀ H ad, Rv X.K H ad p v
  blt : ∀ b : BN, X.mg b.nm = none
  blt2 : X.mg "range" = none ∧ X.mg "enumerate" = none ∧ X.mg "reversed" = none ∧ X.mg "isinstance" = none ∧ X.mg "bool" = none ∧ X.mg "dict" = none
theorem COk.units {G : GG} {X : Cx} {W : WX} {N : List Str} {sc : Scope} {k : Nat} (c : COk G X W N sc k) : X.A.units + 65 < cLine := by have := c.room.un; omega
end FL
/-! FL13: lemmas for the soundness of expressions. -/
namespace FL
open PySem PySem.Spec PyProof.Rows L2

/-! ### forms of accepted expressions -/
def notStar : Expr → Bool
  | .Starred .. => false
  | _ => true
theorem okE_star {N : List Str} {c : CE} {sc : Scope} {e : Expr} (h : okE N c sc e = true) : notStar e = true := by
  cases e <;> first | rfl | (cases c <;> simp [okE] at h)
theorem okE_sl {N : List Str} {c : CE} {sc : Scope} {e : Expr} (h : okE N c sc e = true) : notSl e = true := by
  cases e <;> first | rfl | (cases c <;> simp [okE] at h)
theorem okE_set {N : List Str} {c : CE} {sc : Scope} {e : Expr} (h : okE N c sc e = true) : notSet e = true := by
  cases e <;> first | rfl | (cases c <;> simp [okE] at h)
theorem star_cons {e : Expr} {es : List Expr} {env : Env} (h : notStar e = true) : starEach (e :: es) env = (false, eval e env) :: starEach es env := by
  cases e <;> first | rfl | simp [notStar] at h
theorem okEs_star {N : List Str} {sc : Scope} {env : Env} : ∀ {cs : CEs} {es : List Expr}, okEs N cs sc es = true → starEach es env = es.map fun e => (false, eval e env)
  | .nil, [], _ => rfl
  | .nil, _ :: _, h => by simp [okEs] at h
  | .cons c cs, [], h => by simp [okEs] at h
  | .cons c cs, e :: es, h => by
    simp only [okEs, Bool.and_eq_true] at h
    rw [star_cons (okE_star h.1), okEs_star h.2]; rfl
theorem star_plain {N : List Str} {sc : Scope} {env : Env} {pos : Pos} {cs : CEs} {es : List Expr} (h : okEs N cs sc es = true) : (backTo pos (starEach es env)).any (·.1) = false := by
  rw [okEs_star h]
  simp [backTo, List.any_eq_false]
theorem plain_ix {e : Expr} (h : notSl e = true) : PlainIx e := by
  intro o i
  cases e <;> first | rfl | simp [notSl] at h
theorem attr_base {o : Expr} {attr : Str} {env : Env} {whole : Sem Value} (h : notC0 o = true) : attributeBase o attr env whole = whole := by
  unfold attributeBase
  split
  · simp [notC0] at h
  · rfl
theorem marks {op : CmpOp} {e : Expr} (h : notSet e = true) : behindInMarks op e = false := by
  cases e <;> first | rfl | simp [notSet] at h
theorem marks2 {o1 o2 : CmpOp} {b c : Expr} (h : notSet c = true) : lastMarks [o1, o2] [b, c] = false := by
  show behindInMarks o2 c = false
  exact marks h
theorem folded {e : Expr} {env : Env} (h : notSet e = true) (x : Value) : foldedSetIterable e env x = pure x := by
  cases e <;> first | rfl | simp [notSet] at h
def plainT : Expr → Bool
  | .UnaryOp .Not _ _ => false
  | .BoolOp .. => false
  | .IfExp .. => false
  | .Compare .. => false
  | _ => true
theorem truth_plain {e : Expr} {env : Env} (h : plainT e = true) (whole : Sem Value) : isTrue e env whole = (do let v ← whole; standAt e.pos; holding [v] (truthy v)) := by
  cases e <;> first | rfl | (rename_i op _ _; cases op <;> first | rfl | simp [plainT] at h) | simp [plainT] at h
theorem vis_of {sc : Scope} {x : Str} (h : visB sc x = true) : Vis sc x := by
  unfold visB at h
  split at h
  · rename_i e; exact .inl e
  · rename_i e; exact .inr (.inl e)
  · rename_i e; exact .inr (.inr e)
  · cases h
theorem gl_of {X : Cx} {sc : Scope} {x : Str} (hs : X.env.scope = sc) (h : glB sc x = true) : Gl X x ∧ (x == ("__debug__" : Str)) = false := by
  unfold glB at h
  split at h
  · rename_i e
    refine ⟨?_, by simpa using h⟩
    show X.env.scope.names.lookup x = _
    rw [hs]; exact e
  · cases h
theorem loc_of {X : Cx} {sc : Scope} {x : Str} {fnc : Str → Bool} (hs : X.env.scope = sc) (hf : X.fn = fnc) (h : locB sc fnc x = true) : Loc X.env.scope x ∧ (X.fn x = true ∨ X.env.scope.names.lookup x = some .local) := by
  unfold locB at h
  rw [hs, hf]
  split at h
  · rename_i e; exact ⟨.inl e, .inr e⟩
  · rename_i e; exact ⟨.inr e, .inl h⟩
  · cases h

/-! ### targets -/
def gCT (K : PySem.W.Frag) (t : CT) : TG := match t with
  | .one i => gName i
  | .tup is => gTup K is.length (is.foldr (fun i t => gCons (gName i) t) gNil)
theorem pgs_ok {X : Cx} {N : List Str} {sc : Scope} {fnc : Str → Bool} (hN : X.N = N) (nd : N.Nodup) (hs : X.env.scope = sc) (hf : X.fn = fnc) : ∀ {is : List Nat} {es : List Expr}, okTs N sc fnc is es = true →
    PGs X es (is.foldr (fun i t => gCons (gName i) t) gNil) ∧ (assignEach es X.env).length = is.length ∧ (assignEach es X.env).findIdx? (·.1) = none
  | [], [], _ => ⟨pgs_nil, rfl, rfl⟩
  | [], _ :: _, h => by simp [okTs] at h
  | _ :: _, [], h => by simp [okTs] at h
  | i :: is, e :: es, h => by
    cases e <;> simp only [okTs, Bool.false_eq_true, Bool.and_eq_true, decide_eq_true_eq] at h
    obtain ⟨⟨h1, h2⟩, h3⟩ := h
    obtain ⟨a, b, c⟩ := pgs_ok hN nd hs hf h3
    obtain ⟨l1, l2⟩ := loc_of hs hf h2
    refine ⟨pgs_cons (pg_name (by rw [hN]; exact nd) (by rw [hN]; exact h1) l1 l2) a rfl, ?_, ?_⟩
    · simp only [assignEach, List.length_cons, b]
    · simp only [assignEach, List.findIdx?_cons, c]; rfl
theorem pg_ok {X : Cx} {N : List Str} {sc : Scope} {fnc : Str → Bool} (hc : X.calm = true) (hN : X.N = N) (nd : N.Nodup) (hs : X.env.scope = sc) (hf : X.fn = fnc) {t : CT} {e : Expr} (h : okT N sc fnc t e = true) : PG X e (gCT X.K t) := by
  cases t with
  | one i =>
    cases e <;> simp only [okT, Bool.false_eq_true, Bool.and_eq_true, decide_eq_true_eq] at h
    obtain ⟨l1, l2⟩ := loc_of hs hf h.2
    exact pg_name (by rw [hN]; exact nd) (by rw [hN]; exact h.1) l1 l2
  | tup is =>
    cases e <;> simp only [okT, Bool.false_eq_true] at h
    obtain ⟨a, b, c⟩ := pgs_ok hN nd hs hf h
    exact pg_tup hc a b c
/-- the slots behind a target's store: only its own differ -/
def setVs : List Nat → List V → L2.St → L2.St
  | i :: is, v :: vs, σ => setVs is vs (σ.set i (some v))
  | _, _, σ => σ
theorem gs_ok {K : PySem.W.Frag} {H : Hp} {ad : List Addr} {Q : L2.St → Hp → Prop} : ∀ {is : List Nat} {ps : List PV} {vs : List V} {fr fr' : Fr} {σ : L2.St}, setTs is ps fr = some fr' → FrR K H ad fr σ → Rvs K H ad ps vs →
    (∀ σ', FrR K H ad fr' σ' → σ' = setVs is vs σ → Q σ' H) → is.foldr (fun i t => gCons (gName i) t) gNil vs σ H Q ∧ vs.length = is.length
  | [], [], vs, fr, fr', σ, e, hf, r, k => by
    simp only [setTs, Option.some.injEq] at e; subst e
    simp only [Rvs] at r; subst r
    exact ⟨⟨rfl, k σ hf rfl⟩, rfl⟩
  | [], _ :: _, _, _, _, _, e, _, _, _ => by simp [setTs] at e
  | _ :: _, [], _, _, _, _, e, _, _, _ => by simp [setTs] at e
  | i :: is, p :: ps, vs, fr, fr', σ, e, hf, r, k => by
    simp only [Rvs] at r
    obtain ⟨v, t, rfl, h1, h2⟩ := r
    simp only [setTs] at e
    obtain ⟨a, b⟩ := gs_ok (Q := Q) e (hf.set i h1) h2 (fun σ' f e => k σ' f e)
    exact ⟨⟨v, t, rfl, a⟩, by simp [b]⟩
def CT.sl : CT → List Nat
  | .one i => [i]
  | .tup is => is
theorem g_ok {K : PySem.W.Frag} {H : Hp} {ad : List Addr} {Q : L2.St → Hp → Prop} {t : CT} {p : PV} {v : V} {fr fr' : Fr} {σ : L2.St} (e : setT t p fr = some fr') (hf : FrR K H ad fr σ) (r : Rv K H ad p v)
    (k : ∀ σ', FrR K H ad fr' σ' → (∃ vs, σ' = setVs t.sl vs σ) → Q σ' H) : gCT K t v σ H Q := by
  cases t with
  | one i =>
    simp only [setT, Option.some.injEq] at e; subst e
    exact k _ (hf.set i r) ⟨[v], rfl⟩
  | tup is =>
    cases p <;> simp only [setT] at e <;> first | (cases e; done) | skip
    rename_i xs
    simp only [Rv] at r
    obtain ⟨a, vs, rfl, ha, hr⟩ := r
    obtain ⟨q1, q2⟩ := gs_ok (Q := Q) e hf hr (fun σ' f e => k σ' f ⟨vs, e⟩)
    exact ⟨a, vs, rfl, ha, q2, q1⟩
theorem wipe_set_mem {σ : L2.St} {i : Nat} {v : Option V} : ∀ {vs : List Nat}, i ∈ vs → wipe (σ.set i v) vs = wipe σ vs
  | [], h => by simp at h
  | j :: vs, h => by
    unfold wipe
    by_cases hi : i ∈ vs
    · rw [wipe_set_mem hi]
    · have e : i = j := by
        rcases List.mem_cons.mp h with e | e
        · exact e
        · exact absurd e hi
      subst e
      have : ∀ {ws : List Nat}, i ∉ ws → wipe (σ.set i v) ws = (wipe σ ws).set i v := by
        intro ws hw
        induction ws with
        | nil => rfl
        | cons w ws ih =>
          simp only [List.mem_cons, not_or] at hw
          unfold wipe
          rw [ih hw.2, List.set_comm _ _ hw.1]
      rw [this hi, List.set_set]
theorem wipe_wipe {σ : L2.St} : ∀ {vs ws : List Nat}, (∀ v ∈ vs, v ∈ ws) → wipe (wipe σ vs) ws = wipe σ ws
  | [], ws, _ => rfl
  | v :: vs, ws, h => by
    show wipe ((wipe σ vs).set v none) ws = _
    rw [wipe_set_mem (h v (by simp))]
    exact wipe_wipe fun x hx => h x (by simp [hx])
theorem wipe_setVs {ws : List Nat} : ∀ {is : List Nat} {vs : List V} {σ : L2.St}, (∀ i ∈ is, i ∈ ws) → wipe (setVs is vs σ) ws = wipe σ ws
  | [], _, σ, _ => by simp [setVs]
  | i :: is, [], σ, _ => by simp [setVs]
  | i :: is, v :: vs, σ, h => by
    show wipe (setVs is vs (σ.set i (some v))) ws = _
    rw [wipe_setVs fun x hx => h x (by simp [hx]), wipe_set_mem (h i (by simp))]
theorem wipe_fr {K : PySem.W.Frag} {H : Hp} {ad : List Addr} {fr : Fr} {σ : L2.St} (hf : FrR K H ad fr σ) (vs : List Nat) : FrR K H ad (wipeF fr vs) (wipe σ vs) := by
  have hl : ∀ vs : List Nat, (wipeF fr vs).length = fr.length := by
    intro vs
    induction vs with
    | nil => rfl
    | cons v vs ih => show ((wipeF fr vs).set v none).length = _; rw [List.length_set, ih]
  refine ⟨by rw [wipe_length, hl]; exact hf.1, ?_⟩
  induction vs with
  | nil => exact hf.2
  | cons v vs ih =>
    intro i p e
    have e' : ((wipeF fr vs).set v none)[i]? = some (some p) := e
    by_cases hv : v = i
    · subst hv
      rw [List.getElem?_set] at e'
      simp only [if_true] at e'
      split at e' <;> simp at e'
    · rw [List.getElem?_set_ne hv] at e'
      obtain ⟨w, k1, k2⟩ := ih i p e'
      refine ⟨w, ?_, k2⟩
      show ((wipe σ vs).set v none)[i]? = _
      rw [List.getElem?_set_ne hv]; exact k1
end FL
/-! FL14: what is walked. -/
namespace FL
open PySem PySem.Spec PyProof.Rows L2

/-- the layer's iterator J walks what t walks -/
def JOk (X : Cx) (H0 : Hp) (ad0 : List Addr) (t : IT) (J : It) : Prop := ∀ (i : Nat) (H : Hp) (ad : List Addr) (mh : MH), Ext H0 ad0 H ad → SimX X H ad mh →
  (t.at i mh = some none → J.stop i H) ∧ ∀ p, t.at i mh = some (some p) → J.go i H ∧ ∀ x H', J.yld i H x H' → Ext H ad H' ad ∧ SimX X H' ad mh ∧ Rv X.K H' ad p x
def iM (G : GG) (X : Cx) (W : WX) (m : Fr → M IT) : TI := fun σ H R => ∃ fr mh ad, SimX X H ad mh ∧ FrR X.K H ad fr σ ∧ Good G X (fun H ad t J => JOk X H ad t J) W σ fr H ad (m fr mh) R
theorem pi_imp {X : Cx} {tg e : Expr} {t t' : TI} (h : PI X tg e t) (k : ∀ σ H Q, t' σ H Q → t σ H Q) : PI X tg e t' := ⟨fun pins s σ H Q I hw => h.run pins s σ H Q I (k σ H Q hw)⟩
section
variable {X : Cx} {H : Hp} {ad : List Addr} {mh : MH}
theorem j_lst {n : Nat} {a : Addr} (ha : ad[n]? = some a) : JOk X H ad (.lst n) (Itl X.K a) := by
  intro i H1 ad1 mh1 x s
  have ha1 := get_prefix x.pre ha
  have eat : (IT.lst n).at i mh1 = (lget mh1 n).map fun xs => xs[i]? := rfl
  rw [eat]
  cases e : lget mh1 n with
  | none => exact ⟨fun z => (nomatch z), fun p z => (nomatch z)⟩
  | some xs =>
    obtain ⟨vs, hv, hr⟩ := s.list e ha1
    simp only [Option.map_some, Option.some.injEq]
    refine ⟨fun ei => ⟨vs, hv, by rw [hr.length]; exact List.getElem?_eq_none_iff.mp ei⟩, fun p ei => ?_⟩
    obtain ⟨v, e1, e2⟩ := hr.get ei
    refine ⟨⟨vs, v, hv, e1⟩, fun z H' ⟨eH, y⟩ => ?_⟩
    subst eH
    have := y vs hv
    rw [e1] at this; cases this
    exact ⟨Ext.refl _ _, s, e2⟩
theorem j_enl {n : Nat} {a : Addr} (ha : ad[n]? = some a) : JOk X H ad (.enl n) (Ite X.K a) := by
  intro i H1 ad1 mh1 x s
  have ha1 := get_prefix x.pre ha
  have eat : (IT.enl n).at i mh1 = (lget mh1 n).map fun xs => xs[i]?.map fun x => .tup [.int (i : Nat), x] := rfl
  rw [eat]
  cases e : lget mh1 n with
  | none => exact ⟨fun z => (nomatch z), fun p z => (nomatch z)⟩
  | some xs =>
    obtain ⟨vs, hv, hr⟩ := s.list e ha1
    simp only [Option.map_some, Option.some.injEq, Option.map_eq_none_iff, Option.map_eq_some_iff]
    refine ⟨fun ei => ⟨vs, hv, by rw [hr.length]; exact List.getElem?_eq_none_iff.mp ei⟩, fun p ⟨q, ei, ep⟩ => ?_⟩
    subst ep
    obtain ⟨v, e1, e2⟩ := hr.get ei
    refine ⟨⟨vs, v, hv, e1⟩, fun z H' ⟨T, w, ez, hT, eH, y⟩ => ?_⟩
    subst eH; subst ez
    have := y vs hv
    rw [e1] at this; cases this
    refine ⟨ext_tup hT, s.tup hT, ?_⟩
    simp only [Rv]
    exact ⟨T, _, rfl, SqT.of upd_same, Rvs.cons (by simp [Rv]) (Rvs.cons (e2.mono (ext_tup hT)) Rvs.nil)⟩
theorem j_rvl {n k : Nat} {a : Addr} (ha : ad[n]? = some a) : JOk X H ad (.rvl n k) (Itv X.K a k) := by
  intro i H1 ad1 mh1 x s
  have ha1 := get_prefix x.pre ha
  have eat : (IT.rvl n k).at i mh1 = if i < k then match lget mh1 n with
      | some xs => match xs[k - 1 - i]? with
        | some x => some (some x)
        | none => none
      | none => none
    else some none := rfl
  rw [eat]
  by_cases hi : i < k
  · simp only [hi, if_true]
    cases e : lget mh1 n with
    | none => exact ⟨fun z => (nomatch z), fun p z => (nomatch z)⟩
    | some xs =>
      obtain ⟨vs, hv, hr⟩ := s.list e ha1
      cases ei : xs[k - 1 - i]? with
      | none => simp only [ei]; exact ⟨fun z => (nomatch z), fun p z => (nomatch z)⟩
      | some q =>
        simp only [ei, Option.some.injEq]
        refine ⟨fun z => (nomatch z), fun p ep => ?_⟩
        subst ep
        obtain ⟨v, e1, e2⟩ := hr.get ei
        refine ⟨⟨hi, vs, v, hv, e1⟩, fun z H' ⟨eH, y⟩ => ?_⟩
        subst eH
        have := y vs hv
        rw [e1] at this; cases this
        exact ⟨Ext.refl _ _, s, e2⟩
  · simp only [hi, if_false]
    exact ⟨fun _ => by show k ≤ i; omega, fun p z => by simp at z⟩
theorem j_tup {ps : List PV} {vs : List V} {a : Addr} (ha : SqT X.K H a vs) (hr : Rvs X.K H ad ps vs) : JOk X H ad (.seq ps) (Itt X.K a) := by
  intro i H1 ad1 mh1 x s
  have ha1 := x.sqt ha
  have hr1 := hr.mono x
  have eat : (IT.seq ps).at i mh1 = some ps[i]? := rfl
  rw [eat]
  simp only [Option.some.injEq]
  refine ⟨fun ei => ⟨vs, ha1, by rw [hr.length]; exact List.getElem?_eq_none_iff.mp ei⟩, fun p ei => ?_⟩
  obtain ⟨v, e1, e2⟩ := hr1.get ei
  refine ⟨⟨vs, v, ha1, e1⟩, fun z H' ⟨eH, y⟩ => ?_⟩
  subst eH
  have := y vs ha1
  rw [e1] at this; cases this
  exact ⟨Ext.refl _ _, s, e2⟩
theorem nats_get : ∀ (n : Nat) (lo : Int) (i : Nat), (nats lo n)[i]? = if i < n then some (.int (lo + i)) else none
  | 0, lo, i => by simp [nats]
  | n + 1, lo, 0 => by simp [nats]
  | n + 1, lo, i + 1 => by
    simp only [nats, List.getElem?_cons_succ]
    rw [nats_get n (lo + 1) i]
    by_cases h : i < n
    · rw [if_pos h, if_pos (by omega)]
      congr 2; omega
    · rw [if_neg h, if_neg (by omega)]
theorem j_rng {lo : Int} {n : Nat} : JOk X H ad (.seq (nats lo n)) (Itr lo n) := by
  intro i H1 ad1 mh1 x s
  have eat : (IT.seq (nats lo n)).at i mh1 = some (nats lo n)[i]? := rfl
  rw [eat, nats_get]
  simp only [Option.some.injEq]
  by_cases hi : i < n
  · rw [if_pos hi]
    refine ⟨fun z => (nomatch z), fun p ep => ?_⟩
    cases ep
    refine ⟨hi, fun z H' ⟨eH, y⟩ => ?_⟩
    subst eH; subst y
    exact ⟨Ext.refl _ _, s, by simp [Rv]⟩
  · rw [if_neg hi]
    exact ⟨fun _ => by show n ≤ i; omega, fun p z => (nomatch z)⟩
theorem j_str {l : List Char} : JOk X H ad (.seq (l.map fun c => .str [c])) (Its (S l)) := by
  intro i H1 ad1 mh1 x s
  have eat : (IT.seq (l.map fun c => PV.str [c])).at i mh1 = some (l.map fun c => PV.str [c])[i]? := rfl
  rw [eat, List.getElem?_map]
  have hsz : (S l).cps.size = l.length := by simp [S]
  simp only [Option.some.injEq, Option.map_eq_none_iff, Option.map_eq_some_iff]
  refine ⟨fun ei => by show (S l).cps.size ≤ i; rw [hsz]; exact List.getElem?_eq_none_iff.mp ei, fun p ⟨c, ei, ep⟩ => ?_⟩
  subst ep
  have hi := (List.getElem?_eq_some_iff.mp ei).1
  refine ⟨by show i < (S l).cps.size; rw [hsz]; exact hi, fun z H' ⟨eH, d, y1, y2⟩ => ?_⟩
  subst eH; subst y2
  refine ⟨Ext.refl _ _, s, ?_⟩
  have : (S l).cps[i]? = some c.toNat := by simp [S, ei]
  rw [this] at y1; cases y1
  simp only [Rv]; rfl
end

section
variable {G : GG} {X : Cx} {W : WX} {tg e : Expr} {m : Fr → M PV}
/-- a walk over a value: a list, a tuple, a text -/
theorem pi_val (he : PE X e (tM G X W m)) : PI X tg e (iM G X W fun fr => m fr >>= fun x => fun h => match x with
      | .ref n => match lget h n with
        | some _ => .ok (.lst n) h
        | none => .bad
      | .tup xs => .ok (.seq xs) h
      | .str l => .ok (.seq (l.map fun c => .str [c])) h
      | _ => .bad) := by
  refine ⟨fun pins s σ H R I h => ?_⟩
  obtain ⟨fr, mh, ad, hs, hf, g⟩ := h
  refine thn (he.run pins s σ H _ I ⟨fr, mh, ad, hs, hf, g.bind (R := RvX X)⟩) fun v s1 ⟨x, H1, I1, r1, p, mh1, ad1, x1, hs1, rp, g1⟩ => ?_
  cases p with
  | ref n =>
    simp only [RvX, Rv] at rp
    obtain ⟨a, rfl, ha⟩ := rp
    cases el : lget mh1 n with
    | none => simp only [el] at g1; exact g1.elim
    | some xs =>
      simp only [el] at g1
      obtain ⟨vs, hv, hr⟩ := hs1.list el ha
      have q := g1.pure hs1 (j_lst ha)
      cases r1
      obtain ⟨its, rv, pl, hz⟩ := I1.list hv
      exact wpAny_pyIter_list pl.isList (pi_one (tk := s1.toks) I1 _ (turn_list a _) ⟨_, Heap.get?_push_size _ rfl, rfl, rfl⟩ q)
  | tup xs =>
    simp only [RvX, Rv] at rp
    obtain ⟨a, vs, rfl, ha, hr⟩ := rp
    have q := g1.pure hs1 (j_tup ha hr)
    cases r1
    obtain ⟨its, rv, pl, hz⟩ := I1.tuple ha
    exact wpAny_pyIter_tuple (show s1.heap.IsTuple a its.toArray from pl) (pi_one (tk := s1.toks) I1 _ (turn_tuple a _) ⟨_, Heap.get?_push_size _ rfl, rfl, rfl⟩ q)
  | str l =>
    simp only [RvX, Rv] at rp
    subst rp
    have q := g1.pure hs1 j_str
    obtain ⟨t, rfl⟩ := r1
    cases hb : (S l).cps.all (· < 128)
    · exact wpAny_pyIter_wide hb (pi_one (tk := s1.toks) I1 _ (turn_str _ (S l) t "str_iterator" (.inr rfl)) ⟨_, Heap.get?_push_size _ rfl, rfl, rfl⟩ q)
    · exact wpAny_pyIter_ascii hb (pi_one (tk := s1.toks) I1 _ (turn_str _ (S l) t "str_ascii_iterator" (.inl rfl)) ⟨_, Heap.get?_push_size _ rfl, rfl, rfl⟩ q)
  | _ => exact g1.elim
theorem okR_of {i : Int} (h : okR i = true) : -(2 ^ 62) ≤ i ∧ i < 2 ^ 62 := of_decide_eq_true h
theorem pa1 {a : Expr} (h : PE X a (tM G X W m)) (hs : notStar a = true) : PA X [a] (tCons (tM G X W m) tNil) := pa_cons h pa_nil (star_cons hs)
theorem pi_rng1 {a : Expr} {p pos : Pos} (hg : Gl X "range") (hm : X.mg "range" = none) (ha : PE X a (tM G X W m)) (hs : notStar a = true) : PI X tg (.Call (.Name "range" p) [a] [] pos) (iM G X W fun fr => m fr >>= fun x => match x with
    | .int i => if okR i then M.ret (.seq (nats 0 i.toNat)) else M.bad
    | _ => M.bad) := by
  refine pi_imp (pi_range1 hg hm (pa1 ha hs) (star_cons hs)) fun σ H Q ⟨fr, mh, ad, h1, hf, g⟩ => ?_
  refine ⟨fr, mh, ad, h1, hf, g.bind.imp fun v H1 ⟨x, mh1, ad1, x1, s1, r1, g1⟩ => ?_⟩
  cases x with
  | int i =>
    simp only [Rv] at r1; subst r1
    simp only at g1
    split at g1
    · rename_i hi
      exact ⟨i, rfl, (okR_of hi).1, (okR_of hi).2, g1.pure s1 j_rng⟩
    · exact g1.elim
  | _ => exact g1.elim
theorem pi_rng2 {a b : Expr} {p pos : Pos} {m2 : Fr → M PV} (hg : Gl X "range") (hm : X.mg "range" = none) (ha : PE X a (tM G X W m)) (hb : PE X b (tM G X W m2)) (hs : notStar a = true) (hs2 : notStar b = true) : PI X tg (.Call (.Name "range" p) [a, b] [] pos) (iM G X W fun fr => m fr >>= fun x => m2 fr >>= fun y => match x, y with
    | .int i, .int j => if okR i && okR j then M.ret (.seq (nats i (j - i).toNat)) else M.bad
    | _, _ => M.bad) := by
  have e1 : starEach [b] X.env = [(false, eval b X.env)] := star_cons hs2
  have e2 : starEach [a, b] X.env = [(false, eval a X.env), (false, eval b X.env)] := (star_cons hs).trans (by rw [e1])
  refine pi_imp (pi_range2 hg hm (pa_cons ha (pa_cons hb pa_nil e1) (star_cons hs)) e2 e1) fun σ H Q ⟨fr, mh, ad, h1, hf, g⟩ => ?_
  refine ⟨fr, mh, ad, h1, hf, g.bind.imp fun v H1 ⟨x, mh1, ad1, x1, s1, r1, g1⟩ => ?_⟩
  refine ⟨fr, mh1, ad1, s1, hf.mono x1, g1.bind.imp fun v2 H2 ⟨y, mh2, ad2, x2, s2, r2, g2⟩ => ?_⟩
  cases x with
  | int i =>
    cases y with
    | int j =>
      simp only [Rv] at r1 r2; subst r1; subst r2
      simp only at g2
      split at g2
      · rename_i hi
        simp only [Bool.and_eq_true] at hi
        obtain ⟨a1, a2⟩ := okR_of hi.1
        obtain ⟨b1, b2⟩ := okR_of hi.2
        exact ⟨i, j, rfl, ⟨a1, a2, b1, b2⟩, g2.pure s2 j_rng⟩
      · exact g2.elim
    | _ => exact g2.elim
  | _ => exact g2.elim
theorem pi_enm {a : Expr} {p pos tpos : Pos} {elts : List Expr} {kk : Nat} (hg : Gl X "enumerate") (hm : X.mg "enumerate" = none) (ha : PE X a (tM G X W m)) (hs : notStar a = true) : PI X (.Tuple elts kk tpos) (.Call (.Name "enumerate" p) [a] [] pos) (iM G X W fun fr => m fr >>= fun x => fun h => match x with
      | .ref n => match lget h n with
        | some _ => .ok (.enl n) h
        | none => .bad
      | _ => .bad) := by
  refine pi_imp (pi_enum hg hm (pa1 ha hs) (star_cons hs)) fun σ H Q ⟨fr, mh, ad, h1, hf, g⟩ => ?_
  refine ⟨fr, mh, ad, h1, hf, g.bind.imp fun v H1 ⟨x, mh1, ad1, x1, s1, r1, g1⟩ => ?_⟩
  cases x with
  | ref n =>
    simp only [Rv] at r1
    obtain ⟨a, rfl, ha⟩ := r1
    cases el : lget mh1 n with
    | none => simp only [el] at g1; exact g1.elim
    | some xs =>
      simp only [el] at g1
      obtain ⟨vs, hv, hr⟩ := s1.list el ha
      exact ⟨a, vs, rfl, hv, g1.pure s1 (j_enl ha)⟩
  | _ => exact g1.elim
theorem pi_rev {a : Expr} {p pos : Pos} (hg : Gl X "reversed") (hm : X.mg "reversed" = none) (ha : PE X a (tM G X W m)) (hs : notStar a = true) : PI X tg (.Call (.Name "reversed" p) [a] [] pos) (iM G X W fun fr => m fr >>= fun x => fun h => match x with
      | .ref n => match lget h n with
        | some xs => .ok (.rvl n xs.length) h
        | none => .bad
      | _ => .bad) := by
  refine pi_imp (pi_reversed hg hm (pa1 ha hs) (star_cons hs)) fun σ H Q ⟨fr, mh, ad, h1, hf, g⟩ => ?_
  refine ⟨fr, mh, ad, h1, hf, g.bind.imp fun v H1 ⟨x, mh1, ad1, x1, s1, r1, g1⟩ => ?_⟩
  cases x with
  | ref n =>
    simp only [Rv] at r1
    obtain ⟨a, rfl, ha⟩ := r1
    cases el : lget mh1 n with
    | none => simp only [el] at g1; exact g1.elim
    | some xs =>
      simp only [el] at g1
      obtain ⟨vs, hv, hr⟩ := s1.list el ha
      rw [← hr.length] at g1
      exact ⟨a, vs, rfl, hv, g1.pure s1 (j_rvl ha)⟩
  | _ => exact g1.elim
end
end FL
/-! FL15: the soundness of expressions. -/
namespace FL
open PySem PySem.Spec PyProof.Rows L2

section
variable {G : GG} {X : Cx} {W : WX} {N : List Str} {sc : Scope} {k : Nat}
theorem conv_sp {F : List PV → M PV} {n : Nat} (hlen : ∀ xs h, xs.length ≠ n → F xs h = .bad) {σ : L2.St} {fr : Fr} {mh : MH} {ad : List Addr} {H : Hp} {Q : VK} {xs : List PV} {vs : List V} (hs : SimX X H ad mh) (hf : FrR X.K H ad fr σ) (hr : Rvs X.K H ad xs vs)
    (g : Good G X (RvX X) W σ fr H ad (F xs mh) Q) : spF G X F n vs H Q (WE W σ) := by
  refine ⟨?_, xs, mh, ad, hs, hr, ?_⟩
  · rw [hr.length]
    by_cases hl : xs.length = n
    · exact hl
    · rw [hlen xs mh hl] at g; exact g.elim
  · cases e : F xs mh with
    | ok a mh' => rw [e] at g; exact g
    | exc c mh' => rw [e] at g; exact fun cls d H2 ad2 y s _ er => g cls d H2 ad2 y s (hf.mono y) er
    | bad => rw [e] at g; exact g
theorem pe_own (C : COk G X W N sc k) {x : Str} {p pos : Pos} {F : List PV → M PV} (hF : G.fns x = some F) (hg : Gl X x) (hd : (x == ("__debug__" : Str)) = false) {cs : CEs} {es : List Expr} {ms : Fr → M (List PV)} (hok : okEs N cs sc es = true) (ha : PA X es (tMs G X W ms)) (hne : es.isEmpty = false) :
    PE X (.Call (.Name x p) es [] pos) (tM G X W fun fr => ms fr >>= F) := by
  obtain ⟨j, f, fd, ps, hj, fo, hm, hk, hb, hlen⟩ := C.fns x F hF
  cases es with
  | nil => simp at hne
  | cons e es =>
    cases cs with
    | nil => simp [okEs] at hok
    | cons c cs =>
      simp only [okEs, Bool.and_eq_true] at hok
      refine pe_imp (pe_callSD fo (C.room.mono hj) hg hm hk hb .nil (passAt C.takes) ha hd (star_cons (okE_star hok.1)) (star_plain hok.2)) fun σ H Q ⟨fr, mh, ad, hs, hf, g⟩ => ?_
      refine ⟨fr, mh, ad, hs, hf, g.bind.imp fun vs H1 ⟨xs, mh1, ad1, x1, s1, r1, g1⟩ => ?_⟩
      rw [List.append_nil]
      exact conv_sp hlen s1 (hf.mono x1) r1 g1
theorem pe_own0 (C : COk G X W N sc k) {x : Str} {p pos : Pos} {F : List PV → M PV} (hF : G.fns x = some F) (hg : Gl X x) (hd : (x == ("__debug__" : Str)) = false) :
    PE X (.Call (.Name x p) [] [] pos) (tM G X W fun fr => F []) := by
  obtain ⟨j, f, fd, ps, hj, fo, hm, hk, hb, hlen⟩ := C.fns x F hF
  refine ⟨fun pins s σ H Q I ⟨fr, mh, ad, hs, hf, g⟩ => ?_⟩
  refine wpAny_Call_Name_kw (ld_glob I hg hm ?_ hd)
  refine PySem.W.callWith_K0 I.kIn hk (run_fnSD (E := WE W) (us := []) (vs := []) fo (C.room.mono hj) hb .nil (passAt C.takes σ) I .nil ?_)
  exact conv_sp hlen hs hf Rvs.nil g

/-- a comprehension's reading -/
theorem lc_conv {own : List (Str × Nat)} {t : CT} {mi : Fr → M IT} {mt : Fr → M Bool} {me : Fr → M PV} (hown : own.map (·.2) = t.sl) (σ : L2.St) (H : Hp) (Q : VK) :
    tM G X W (fun fr => mi fr >>= fun I => fun h0 =>
      let n := h0.length
      let fr0 := wipeF fr (own.map (·.2))
      match compL0 I n (fun x => fun h => match setT t x fr0 with
        | some fr1 => match mt fr1 h with
          | .ok true h1 => match me fr1 h1 with
            | .ok v h2 => .ok (some v) h2
            | _ => .bad
          | .ok false h1 => .ok none h1
          | _ => .bad
        | none => .bad) (I.fuel h0) 0 (h0 ++ [.lst []]) with
      | .ok _ h1 => .ok (.ref n) h1
      | _ => .bad) σ H Q → tLc (iM G X W mi) (gCT X.K t) (tMt G X (fun _ _ _ _ => False) mt) (tM G X (fun _ _ _ _ => False) me) (own.map (·.2)) σ H Q := by
  rintro ⟨fr, mh, ad, h0, hf, g⟩
  refine ⟨fr, mh, ad, h0, hf, g.bind.imp fun J H1 ⟨I, mh1, ad1, x1, s1, jok, g1⟩ D hD => ?_⟩
  simp only at g1
  revert g1
  generalize hstep : (fun (x : PV) => fun (h : MH) => match setT t x (wipeF fr (own.map (·.2))) with
        | some fr1 => match mt fr1 h with
          | .ok true h1 => match me fr1 h1 with
            | .ok v h2 => Res.ok (some v) h2
            | _ => .bad
          | .ok false h1 => .ok none h1
          | _ => .bad
        | none => .bad) = step
  intro g1
  cases ec : compL0 I mh1.length step (I.fuel mh1) 0 (mh1 ++ [MO.lst []]) with
  | exc c h' => rw [ec] at g1; exact g1.elim
  | bad => rw [ec] at g1; exact g1.elim
  | ok u hF =>
    rw [ec] at g1
    obtain ⟨x2, s2⟩ := s1.push (o := .lst []) (u := .lst []) hD fun x => ⟨[], upd_same, by simp [Rvs]⟩
    have hadD : (ad1 ++ [D])[mh1.length]? = some D := by rw [← s1.len]; simp
    refine ⟨fun i m H => ∃ h ad2, Ext (upd H1 D (.lst [])) (ad1 ++ [D]) H ad2 ∧ SimX X H ad2 h ∧ compL0 I mh1.length step m i h = .ok u hF, ⟨_, mh1 ++ [MO.lst []], ad1 ++ [D], Ext.refl _ _, s2, ec⟩, ?_⟩
    rintro i m H2 ⟨h, ad2, x3, s3, e3⟩
    have haD : ad2[mh1.length]? = some D := get_prefix x3.pre hadD
    have x13 : Ext H1 ad1 H2 ad2 := x2.trans x3
    cases m with
    | zero => simp [compL0, M.bad] at e3
    | succ f =>
      unfold compL0 at e3
      obtain ⟨j1, j2⟩ := jok i H2 ad2 h x13 s3
      cases ea : I.at i h with
      | none => rw [ea] at e3; cases e3
      | some o =>
        cases o with
        | none =>
          rw [ea] at e3
          simp only [Res.ok.injEq] at e3
          obtain ⟨_, e3⟩ := e3
          subst e3
          refine .inl ⟨j1 ea, g1 _ _ _ x13 s3 ?_⟩
          simp only [RvX, Rv]
          exact ⟨D, rfl, haD⟩
        | some p =>
          rw [ea] at e3
          simp only at e3
          obtain ⟨go, jy⟩ := j2 p ea
          refine .inr ⟨go, fun H' => ∃ h ad2, Ext (upd H1 D (.lst [])) (ad1 ++ [D]) H' ad2 ∧ SimX X H' ad2 h ∧ compL0 I mh1.length step f (i + 1) h = .ok u hF, fun H' ⟨h', ad', a, b, c⟩ => ⟨f, Nat.lt_succ_self f, h', ad', a, b, c⟩, fun x H3 y3 => ?_⟩
          obtain ⟨x4, s4, r4⟩ := jy x H3 y3
          have x34 := x3.trans x4
          have x14 := x13.trans x4
          have hf0 : FrR X.K H3 ad2 (wipeF fr (own.map (·.2))) (wipe σ (own.map (·.2))) := wipe_fr (hf.mono ((x1.trans x14))) _
          have estep : step p h = match setT t p (wipeF fr (own.map (·.2))) with
            | some fr1 => match mt fr1 h with
              | .ok true h1 => match me fr1 h1 with
                | .ok v h2 => Res.ok (some v) h2
                | _ => .bad
              | .ok false h1 => .ok none h1
              | _ => .bad
            | none => .bad := by rw [← hstep]
          cases et : setT t p (wipeF fr (own.map (·.2))) with
          | none => rw [estep, et] at e3; cases e3
          | some fr1 =>
            rw [et] at estep
            simp only at estep
            refine g_ok et hf0 r4 fun σ' hf1 ⟨vs, evs⟩ => ⟨?_, ?_⟩
            · rw [evs, wipe_setVs (by rw [hown]; exact fun i hi => hi), wipe_wipe fun _ h => h]
            · cases em : mt fr1 h with
              | exc c h' => rw [estep, em] at e3; cases e3
              | bad => rw [estep, em] at e3; cases e3
              | ok b h1 =>
                refine ⟨fr1, h, ad2, s4, hf1, ?_⟩
                rw [em]
                intro b' H5 ad5 x5 s5 eb
                subst eb
                cases b with
                | false =>
                  rw [estep, em] at e3
                  simp only at e3
                  rw [if_neg Bool.false_ne_true]
                  exact ⟨h1, ad5, x34.trans x5, s5, e3⟩
                | true =>
                  rw [if_pos rfl]
                  cases ev : me fr1 h1 with
                  | exc c h' => rw [estep, em] at e3; simp only [ev] at e3; cases e3
                  | bad => rw [estep, em] at e3; simp only [ev] at e3; cases e3
                  | ok v h2 =>
                    rw [estep, em] at e3
                    simp only [ev] at e3
                    refine ⟨fr1, h1, ad5, s5, hf1.mono x5, ?_⟩
                    rw [ev]
                    intro y H6 ad6 x6 s6 r6
                    cases ew : wl h2 mh1.length with
                    | none => simp only [ew] at e3; cases e3
                    | some acc =>
                      simp only [ew] at e3
                      split at e3
                      · rename_i hl
                        have x36 := (x34.trans x5).trans x6
                        have haD6 : ad6[mh1.length]? = some D := get_prefix x36.pre hadD
                        obtain ⟨ws, k1, k2⟩ := s6.ob _ _ _ (wl_get ew) haD6
                        obtain ⟨x7, s7⟩ := s6.write (o' := .lst (acc ++ [v])) (u := .lst (ws ++ [y])) (wl_get ew) haD6 rfl fun x => ⟨_, upd_same, (k2.mono x).append (Rvs.cons (Rv.mono x _ _ r6) Rvs.nil)⟩
                        exact ⟨ws, k1, by rw [k2.length, big_eq]; exact hl, _, ad6, x36.trans x7, s7, e3⟩
                      · cases e3
theorem COk.blk (C : COk G X W N sc k) {scope : Scope} (s : Shared) (H : Hp) (Cn : Addr) (cl : List (Str × Addr)) (fp : List Addr) : COk G (X.blk s H scope (compEnvC scope cl Cn X.env) fp) (fun _ _ _ _ => False) N (relS scope sc) k :=
    ⟨C.names, C.nd, by show relS scope X.env.scope = _; rw [C.scope], C.calm, C.room, fun u s' ⟨_, _, _, _, _, _, _, _, _, _, _, _, _, _, _, _, w⟩ => w.elim, C.fns, C.cons, C.blt, C.blt2⟩
/-- a comprehension -/
theorem lc_ok (C : COk G X W N sc k) {elt tg iter : Expr} {ifl : List Expr} {scope : Scope} {own : List (Str × Nat)} {pos : Pos} {t : CT} {mi : Fr → M IT} {mt : Fr → M Bool} {me : Fr → M PV}
    (hown : own.map (·.2) = t.sl) (hi : PI X tg iter (iM G X W mi)) (hb : blkC N sc scope own = true) (ht : okT N (relS scope sc) (fun x => scope.names.lookup x == some .cell) t tg = true)
    (hset : notSet iter = true)
    (hs : ∀ X' : Cx, COk G X' (fun _ _ _ _ => False) N (relS scope sc) k → PTs X' ifl (tMt G X' (fun _ _ _ _ => False) mt)) (he : ∀ X' : Cx, COk G X' (fun _ _ _ _ => False) N (relS scope sc) k → PE X' elt (tM G X' (fun _ _ _ _ => False) me)) :
    PE X (.ListComp elt [⟨tg, iter, ifl, 0⟩] scope pos) (tM G X W (fun fr => mi fr >>= fun I => fun h0 =>
      let n := h0.length
      let fr0 := wipeF fr (own.map (·.2))
      match compL0 I n (fun x => fun h => match setT t x fr0 with
        | some fr1 => match mt fr1 h with
          | .ok true h1 => match me fr1 h1 with
            | .ok v h2 => .ok (some v) h2
            | _ => .bad
          | .ok false h1 => .ok none h1
          | _ => .bad
        | none => .bad) (I.fuel h0) 0 (h0 ++ [.lst []]) with
      | .ok _ h1 => .ok (.ref n) h1
      | _ => .bad)) := by
  have hblk : BlkOk X.N X.env.scope scope own := by rw [C.names, C.scope]; exact blkOk_by hb
  exact pe_imp (pe_lc (g := gCT X.K t) (tt := tMt G X (fun _ _ _ _ => False) mt) (te := tM G X (fun _ _ _ _ => False) me) C.calm (by rw [C.names]; exact C.nd) hi hblk (fun s H Cn cl fp => pg_ok (X := X.blk s H scope (compEnvC scope cl Cn X.env) fp) (fnc := fun x => scope.names.lookup x == some .cell) C.calm C.names C.nd (by show relS scope X.env.scope = _; rw [C.scope]) rfl ht)
    (fun s H Cn cl fp => hs _ (C.blk s H Cn cl fp)) (fun s H Cn cl fp => he _ (C.blk s H Cn cl fp)) (folded hset)) (lc_conv hown)
/-- y = [..] -/
theorem setLc_ok (C : COk G X W N sc k) (hfn : X.fn = fun _ => true) (hkind : X.env.scope.kind = .function) {i : Nat} {y : Str} {py : Pos} {elt tg iter : Expr} {ifl : List Expr} {scope : Scope} {own : List (Str × Nat)} {pos spos : Pos} {t : CT} {mi : Fr → M IT} {mt : Fr → M Bool} {me : Fr → M PV}
    (hy : N[i]? = some y) (hyl : sc.names.lookup y = some .local) (hl : (py.line == pos.line) = true) (hno : (scope.names.any fun (n, k) => n == y && (k == .local || k == .cell)) = false)
    (hown : own.map (·.2) = t.sl) (hi : PI X tg iter (iM G X W mi)) (hb : blkC N sc scope own = true) (ht : okT N (relS scope sc) (fun x => scope.names.lookup x == some .cell) t tg = true)
    (hset : notSet iter = true)
    (hs : ∀ X' : Cx, COk G X' (fun _ _ _ _ => False) N (relS scope sc) k → PTs X' ifl (tMt G X' (fun _ _ _ _ => False) mt)) (he : ∀ X' : Cx, COk G X' (fun _ _ _ _ => False) N (relS scope sc) k → PE X' elt (tM G X' (fun _ _ _ _ => False) me)) :
    PS X (.Assign [.Name y py] (.ListComp elt [⟨tg, iter, ifl, 0⟩] scope pos) spos) (tAsg (tLc (iM G X W mi) (gCT X.K t) (tMt G X (fun _ _ _ _ => False) mt) (tM G X (fun _ _ _ _ => False) me) (own.map (·.2))) (gName i)) := by
  have hblk : BlkOk X.N X.env.scope scope own := by rw [C.names, C.scope]; exact blkOk_by hb
  exact ps_setLc C.calm (by rw [C.names]; exact C.nd) (by rw [C.names]; exact hy) (by rw [C.scope]; exact hyl) (sw_true hkind (by rw [C.scope]; exact hyl) hl hno) hi hblk (fun s H Cn cl fp => pg_ok (X := X.blk s H scope (compEnvC scope cl Cn X.env) fp) (fnc := fun x => scope.names.lookup x == some .cell) C.calm C.names C.nd (by show relS scope X.env.scope = _; rw [C.scope]) rfl ht)
    (fun s H Cn cl fp => hs _ (C.blk s H Cn cl fp)) (fun s H Cn cl fp => he _ (C.blk s H Cn cl fp)) (folded hset)
end
end FL
/-! FL16: the soundness of expressions, all forms. -/
namespace FL
open PySem PySem.Spec PyProof.Rows L2

section
variable {G : GG} {X : Cx} {W : WX} {N : List Str} {sc : Scope} {k : Nat}
theorem pe_mth (C : COk G X W N sc k) {m : MN} {o : Expr} {ap cp : Pos} {cs : CEs} {es : List Expr} {mo : Fr → M PV} {ms : Fr → M (List PV)} (hl : (ap.endLine == cp.line) = true) (h0 : notC0 o = true) (hf30 : es.length < 30) (hok : okEs N cs sc es = true)
    (ho : PE X o (tM G X W mo)) (ha : PA X es (tMs G X W ms)) (hnil : es = [] → ms = fun _ => M.ret []) :
    PE X (.Call (.Attribute o m.nm ap) es [] cp) (tM G X W fun fr => mo fr >>= fun x => (fun h => match kindT h x with
      | some T => if okTM T m then .ok T h else .bad
      | none => .bad : M KT) >>= fun T => ms fr >>= fun xs => (mthM T m x xs).nx) := by
  refine ⟨fun pins s σ H Q I ⟨fr, mh, ad, hs, hf, g⟩ => ?_⟩
  have hfew : ((backTo cp (starEach es X.env)).all (fun x => !x.1) && (backToKw cp (keywordEach [] X.env)).all (fun x => x.1.isSome)
      && decide (es.length + ([] : List Keyword).length + (if ([] : List Keyword).isEmpty then 0 else 1) < 30)) = true := by
    rw [okEs_star hok]
    simp [backTo, backToKw, keywordEach, hf30]
  refine wpAny_Call_method_late (attr_base h0) hfew hl rfl (thn (ho.run pins s σ H _ I ⟨fr, mh, ad, hs, hf, g.bind (R := RvX X)⟩) fun v s1 ⟨x, H1, I1, r1, p, mh1, ad1, x1, hs1, rp, g1⟩ => ?_)
  rw [bind_eq] at g1
  cases ek : kindT mh1 p with
  | none => simp only [ek] at g1; exact g1.elim
  | some T =>
    simp only [ek] at g1
    cases et : okTM T m with
    | false => simp only [et, Bool.false_eq_true, if_false] at g1; exact g1.elim
    | true =>
      simp only [et, if_true] at g1
      obtain ⟨pa, slot, hty⟩ := mid_slot et
      obtain ⟨h1, h2⟩ := kind_ok I1 hs1 r1 rp ek
      refine ⟨T.nm, mid T m, pa, slot, hty, h1, h2, ?_⟩
      have hA := ha.run cp pins s1 σ H1 _ I1 ⟨fr, mh1, ad1, hs1, hf.mono x1, g1.bind (R := fun H ad (a : List PV) b => Rvs X.K H ad a b)⟩
      have fin := thn hA fun us s2 ⟨vs, H2, I2, r2, xs, mh2, ad2, x2, hs2, rs, g2⟩ => mth_ok C.units I2 hs2 r1 r2 (Rv.mono x2 _ _ rp) rs g2.nx
      cases es with
      | nil =>
        refine Calls.callWith_builtin rfl (PySem.evalArgs_none ?_)
        rw [hnil rfl] at g1
        exact mth_ok C.units I1 hs1 r1 .nil rp Rvs.nil (Good.nx (show Good G X (RvX X) W σ fr H1 ad1 ((mthM T m p []).nx mh1) Q from g1))
      | cons e es =>
        cases cs with
        | nil => simp [okEs] at hok
        | cons c cs =>
          simp only [okEs, Bool.and_eq_true] at hok
          have st := star_cons (es := es) (env := X.env) (okE_star hok.1)
          rw [st] at fin ⊢
          exact Calls.callWith_builtin (star_plain hok.2) (Calls.evalArgs_plain fin)
theorem pe_blt (C : COk G X W N sc k) {b : BN} {p pos : Pos} {cs : CEs} {es : List Expr} {ms : Fr → M (List PV)} (hg : Gl X b.nm) (hok : okEs N cs sc es = true) (hne : es.isEmpty = false) (ha : PA X es (tMs G X W ms)) :
    PE X (.Call (.Name b.nm p) es [] pos) (tM G X W fun fr => ms fr >>= fun xs => (bltM b xs).nx) := by
  have hcall : CallR X b.val (fun vs H Q => ∃ ps mh ad, SimX X H ad mh ∧ Rvs X.K H ad ps vs ∧ G0 X (RvX X) H ad (bltM b ps mh) Q) := fun pins s σ H xs us Q I r ⟨ps, mh, ad, hs, hr, g⟩ => blt_ok C.calm C.units b I hs r hr g
  have conv : ∀ σ H Q, tM G X W (fun fr => ms fr >>= fun xs => (bltM b xs).nx) σ H Q → tCB (fun vs H Q => ∃ ps mh ad, SimX X H ad mh ∧ Rvs X.K H ad ps vs ∧ G0 X (RvX X) H ad (bltM b ps mh) Q) (tMs G X W ms) σ H Q :=
    fun σ H Q ⟨fr, mh, ad, hs, hf, g⟩ => ⟨fr, mh, ad, hs, hf, g.bind.imp fun vs H1 ⟨xs, mh1, ad1, x1, s1, r1, g1⟩ => ⟨xs, mh1, ad1, s1, r1, g1.nx⟩⟩
  cases es with
  | nil => simp at hne
  | cons e es =>
    cases cs with
    | nil => simp [okEs] at hok
    | cons c cs =>
      simp only [okEs, Bool.and_eq_true] at hok
      have st := star_cons (es := es) (env := X.env) (okE_star hok.1)
      have hpl := star_plain (pos := pos) (env := X.env) hok.2
      cases b
      · exact pe_imp (pe_callB (id := "len") hcall hg (C.blt .len) (by decide +kernel) ha (by decide +kernel) (by decide +kernel) st hpl) conv
      · exact pe_imp (pe_callTy (T := "int") hcall hg (C.blt .int) (by decide +kernel) ha (by decide +kernel) (by decide +kernel) st hpl) conv
      · exact pe_imp (pe_callTy (T := "str") hcall hg (C.blt .str) (by decide +kernel) ha (by decide +kernel) (by decide +kernel) st hpl) conv
      · exact pe_imp (pe_callTy (T := "list") hcall hg (C.blt .list) (by decide +kernel) ha (by decide +kernel) (by decide +kernel) st hpl) conv
      · exact pe_imp (pe_callTy (T := "tuple") hcall hg (C.blt .tuple) (by decide +kernel) ha (by decide +kernel) (by decide +kernel) st hpl) conv
      · exact pe_imp (pe_callB (id := "sum") hcall hg (C.blt .sum) (by decide +kernel) ha (by decide +kernel) (by decide +kernel) st hpl) conv
      · exact pe_imp (pe_callB (id := "all") hcall hg (C.blt .all) (by decide +kernel) ha (by decide +kernel) (by decide +kernel) st hpl) conv
      · exact pe_imp (pe_callB (id := "any") hcall hg (C.blt .any) (by decide +kernel) ha (by decide +kernel) (by decide +kernel) st hpl) conv
      · exact pe_imp (pe_callB (id := "max") hcall hg (C.blt .max) (by decide +kernel) ha (by decide +kernel) (by decide +kernel) st hpl) conv
      · exact pe_imp (pe_callB (id := "min") hcall hg (C.blt .min) (by decide +kernel) ha (by decide +kernel) (by decide +kernel) st hpl) conv
      · exact pe_imp (pe_callB (id := "sorted") hcall hg (C.blt .sorted) (by decide +kernel) ha (by decide +kernel) (by decide +kernel) st hpl) conv

/-! ### the pieces -/
theorem pe_op2 {op : Operator} {a b : Expr} {pos : Pos} {ma mb : Fr → M PV} (ha : PE X a (tM G X W ma)) (hb : PE X b (tM G X W mb)) : PE X (.BinOp a op b pos) (tM G X W fun fr => ma fr >>= fun x => mb fr >>= fun y => (binM op x y).nx) :=
  pe_imp (pe_op (bin_ok op).op ha hb) fun σ H Q ⟨fr, mh, ad, hs, hf, g⟩ => ⟨fr, mh, ad, hs, hf, g.bind.imp fun v H1 ⟨x, mh1, ad1, x1, s1, r1, g1⟩ =>
    ⟨fr, mh1, ad1, s1, hf.mono x1, g1.bind.imp fun v2 H2 ⟨y, mh2, ad2, x2, s2, r2, g2⟩ => ⟨x, y, mh2, ad2, s2, Rv.mono x2 _ _ r1, r2, g2.nx⟩⟩⟩
theorem cmp_conv {op : CmpOp} {ma mb : Fr → M PV} (σ : L2.St) (H : Hp) (Q : VK) : tM G X W (fun fr => ma fr >>= fun x => mb fr >>= fun y => (cmpM op x y).nx) σ H Q → tOp (rM X (cmpM op)) (tM G X W ma) (tM G X W mb) σ H Q :=
  fun ⟨fr, mh, ad, hs, hf, g⟩ => ⟨fr, mh, ad, hs, hf, g.bind.imp fun v H1 ⟨x, mh1, ad1, x1, s1, r1, g1⟩ =>
    ⟨fr, mh1, ad1, s1, hf.mono x1, g1.bind.imp fun v2 H2 ⟨y, mh2, ad2, x2, s2, r2, g2⟩ => ⟨x, y, mh2, ad2, s2, Rv.mono x2 _ _ r1, r2, g2.nx⟩⟩⟩
theorem isBl_bind {m : Fr → M PV} {σ : L2.St} {H : Hp} {Q : Bool → Hp → Prop} (h : tMt G X W (fun fr => m fr >>= isBl) σ H Q) : tM G X W m σ H fun v H1 => ∃ c, v = .bl c ∧ Q c H1 := by
  obtain ⟨fr, mh, ad, hs, hf, g⟩ := h
  refine ⟨fr, mh, ad, hs, hf, g.bind.imp fun v H1 ⟨x, mh1, ad1, x1, s1, r1, g1⟩ => ?_⟩
  cases x with
  | bl b =>
    simp only [RvX, Rv] at r1; subst r1
    exact ⟨b, rfl, g1.pure s1 rfl⟩
  | _ => exact g1.elim
theorem pt_of {e : Expr} {m : Fr → M PV} (h : PE X e (tM G X W m)) (hp : plainT e = true) : PT X e (tMt G X W fun fr => m fr >>= isBl) :=
  pt_imp (pt_val h (truth_plain hp)) fun σ H Q hq => isBl_bind hq
/-- a value that is wanted as a truth -/
theorem bl_of {m : Fr → M PV} {σ : L2.St} {fr : Fr} {H : Hp} {ad : List Addr} {mh : MH} {γ δ : Type} {R' : Hp → List Addr → γ → δ → Prop} {kk : Bool → M γ} {Q : δ → Hp → Prop} (g : Good G X R' W σ fr H ad ((m fr >>= fun x => isBl x >>= kk) mh) Q) :
    Good G X (RvX X) W σ fr H ad (m fr mh) (fun v H1 => ∃ b, v = .bl b ∧ ∃ mh1 ad1, Ext H ad H1 ad1 ∧ SimX X H1 ad1 mh1 ∧ Good G X R' W σ fr H1 ad1 (kk b mh1) Q) := by
  refine g.bind.imp fun v H1 ⟨x, mh1, ad1, x1, s1, r1, g1⟩ => ?_
  cases x with
  | bl b =>
    simp only [RvX, Rv] at r1; subst r1
    exact ⟨b, rfl, mh1, ad1, x1, s1, g1⟩
  | _ => exact g1.elim
theorem pe_tupM {es : List Expr} {kk : Nat} {pos : Pos} {ms : Fr → M (List PV)} (ha : PA X es (tMs G X W ms)) : PE X (.Tuple es kk pos) (tM G X W fun fr => ms fr >>= fun xs => if xs.length ≤ big then M.ret (.tup xs) else M.bad) :=
  pe_imp (pe_tup ha) fun σ H Q ⟨fr, mh, ad, hs, hf, g⟩ => ⟨fr, mh, ad, hs, hf, g.bind.imp fun vs H1 ⟨xs, mh1, ad1, x1, s1, r1, g1⟩ => by
    split at g1
    · rename_i hl
      exact ⟨by rw [r1.length, big_eq]; exact hl, G0.newT g1 s1 r1⟩
    · exact g1.elim⟩
theorem pe_lstM {es : List Expr} {pos : Pos} {ms : Fr → M (List PV)} (ha : PA X es (tMs G X W ms)) : PE X (.List es pos) (tM G X W fun fr => ms fr >>= fun xs => if xs.length ≤ big then newL xs else M.bad) :=
  pe_imp (pe_lst ha) fun σ H Q ⟨fr, mh, ad, hs, hf, g⟩ => ⟨fr, mh, ad, hs, hf, g.bind.imp fun vs H1 ⟨xs, mh1, ad1, x1, s1, r1, g1⟩ => by
    split at g1
    · rename_i hl
      exact ⟨by rw [r1.length, big_eq]; exact hl, G0.newL g1 s1 r1⟩
    · exact g1.elim⟩
/-- {} -/
theorem dtp_new {P : Program} {w : World} {H : Hp} (h : Heap) (hb : sysModules < h.objs.size) : ObjOk P w H (h.push { cls := .type "dict", data := .dict #[] }) h.objs.size (dtpO P w h.objs.size []) := by
  have e : (h.push { cls := .type "dict", data := .dict #[] }).get? h.objs.size = some { cls := .type "dict", data := .dict #[] } := Heap.get?_push_size _ rfl
  exact ⟨⟨[], .nil, _, #[], 0, e, ⟨rfl, rfl, rfl⟩, rfl, rfl⟩, ⟨_, e⟩, fun h1 h2 ⟨ys', p', o2, es2, ep2, k1, k2, k3, k4⟩ k => ⟨ys', p', o2, es2, ep2, k _ k1, k2, k3, k4⟩⟩
theorem pe_dnew {pos : Pos} (tk : Bool) : PE X (.Dict [] [] pos) (tM G X W fun _ => fun h => .ok (.ref h.length) (h ++ [if tk then .dtp [] else .dct []])) := by
  cases tk with
  | false =>
    refine pe_imp pe_dnewK fun σ H Q ⟨fr, mh, ad, hs, hf, g⟩ p hp => ?_
    obtain ⟨x, s'⟩ := hs.push (o := .dct []) (u := .dK []) hp fun x => ⟨[], upd_same, .nil⟩
    refine g _ _ _ x s' ?_
    simp only [RvX, Rv]
    exact ⟨p, rfl, by rw [← hs.len]; simp⟩
  | true =>
    refine ⟨fun pins s σ H Q I ⟨fr, mh, ad, hs, hf, g⟩ => ?_⟩
    have hp := I.hok.fresh (Nat.le_refl s.heap.objs.size)
    have hsm : (s.heap.objs.size == sysModules) = false := beq_eq_false_iff_ne.mpr (Ne.symm (Nat.ne_of_lt I.big))
    obtain ⟨x, s'⟩ := hs.push (o := .dtp []) (u := dtpO X.prog X.w s.heap.objs.size []) hp fun x => ⟨hsm, Nat.zero_le _, [], upd_same, List.nodup_nil, .nil⟩
    refine wpAny_Dict_empty ⟨.ref s.heap.objs.size, _, I.laid (a := s.heap.objs.size) (o := dtpO X.prog X.w s.heap.objs.size []) (t' := s.toks) (fun _ _ q => Heap.get?_push_of_some _ q) (Nat.le_refl _) (dtp_new s.heap I.big), rfl, ?_⟩
    refine g _ _ _ x s' ?_
    simp only [RvX, Rv]
    exact ⟨_, rfl, by rw [← hs.len]; simp⟩
/-! ### isinstance -/
theorem ty_of {H : Hp} {ad : List Addr} {mh : MH} (hs : SimX X H ad mh) {p : PV} {v : V} (r : Rv X.K H ad p v) {kk : PK} (e : pkOf mh p = some kk) : TyX X.K H v (.type kk.ty) := by
  cases p with
  | non => cases e; simp only [Rv] at r; subst r; exact .base .non
  | bl b => cases e; simp only [Rv] at r; subst r; exact .base (.bl b)
  | int i => cases e; simp only [Rv] at r; subst r; exact .base (.int i)
  | str l => cases e; simp only [Rv] at r; subst r; exact .base (.str _)
  | tup ps =>
    cases e
    simp only [Rv] at r
    obtain ⟨a, vs, rfl, ha, _⟩ := r
    rcases ha with (q | ⟨o, q⟩) | ⟨o, its, n, q, c, _⟩
    · exact .base (.tup q)
    · exact .fTuple q
    · exact .kTuple q c
  | ref n =>
    simp only [Rv] at r
    obtain ⟨a, rfl, ha⟩ := r
    unfold pkOf at e
    cases eo : mh[n]? with
    | none => simp only [eo] at e; cases e
    | some o =>
      cases o with
      | lst xs =>
        simp only [eo] at e; cases e
        obtain ⟨vs, q, _⟩ := hs.ob _ _ _ eo ha
        exact .base (.lst q)
      | rls xs =>
        simp only [eo] at e; cases e
        obtain ⟨vs, q, _⟩ := hs.ob _ _ _ eo ha
        rcases q with ⟨o, q⟩ | ⟨o, its, n, q, c, _⟩
        · exact .base (.frz q)
        · exact .kList q c
      | dct kvs =>
        simp only [eo] at e; cases e
        obtain ⟨ws, q, _⟩ := hs.ob _ _ _ eo ha
        exact .base (.dK q)
      | dtp kvs => simp only [eo] at e; cases e
  | exc c xs => cases e
theorem kit_tn {K : PySem.W.Frag} (kk : PK) (t : TN) : PySem.W.kitOne K (.type kk.ty) (.type t.ty) = some (isTN kk t) := by
  refine kit_ty ?_
  cases kk <;> cases t <;> decide +kernel
theorem kit_tns {K : PySem.W.Frag} (kk : PK) : ∀ ts : List TN, PySem.W.kitAny K (.type kk.ty) (ts.map fun t => .type t.ty) = some (ts.any (isTN kk))
  | [] => rfl
  | t :: ts => by
    simp only [List.map_cons, List.any_cons]
    refine kitAny_cons (kit_tn kk t) (fun h => ?_) (fun h => by simp [h])
    rw [h, Bool.false_or]; exact kit_tns kk ts
theorem mg_tn (C : COk G X W N sc k) (t : TN) : X.mg t.nm = none := by
  cases t
  · exact C.blt .int
  · exact C.blt .str
  · exact C.blt2.2.2.2.2.1
  · exact C.blt .tuple
  · exact C.blt .list
  · exact C.blt2.2.2.2.2.2
theorem pe_tn (C : COk G X W N sc k) {t : TN} {e : Expr} (h : okTy sc t e = true) : PE X e (tC (.ty t.ty)) ∧ notStar e = true := by
  cases e <;> simp only [okTy, Bool.false_eq_true, Bool.and_eq_true, decide_eq_true_eq] at h
  obtain ⟨rfl, h⟩ := h
  refine ⟨⟨fun pins s σ H Q I q => ?_⟩, rfl⟩
  have hv : bootBuiltins t.nm = some (.type t.ty) := by cases t <;> decide +kernel
  exact ld_blt I (gl_of C.scope h).1 (mg_tn C t) hv ⟨.ty t.ty, H, I, rfl, q⟩ (by cases t <;> decide +kernel) (gl_of C.scope h).2
def tTys : List TN → TA
  | [] => tNil
  | t :: ts => tCons (tC (.ty t.ty)) (tTys ts)
theorem pa_tns (C : COk G X W N sc k) : ∀ {ts : List TN} {es : List Expr}, okTys sc ts es = true → PA X es (tTys ts)
  | [], [], _ => pa_nil
  | [], _ :: _, h => by simp [okTys] at h
  | _ :: _, [], h => by simp [okTys] at h
  | t :: ts, e :: es, h => by
    simp only [okTys, Bool.and_eq_true] at h
    have q := pe_tn C h.1
    exact pa_cons q.1 (pa_tns C h.2) (star_cons q.2)
theorem tTys_at {σ : L2.St} {H : Hp} : ∀ {ts : List TN} {Q : List V → Hp → Prop}, Q (ts.map fun t => .ty t.ty) H → tTys ts σ H Q
  | [], Q, h => h
  | t :: ts, Q, h => tTys_at (ts := ts) (Q := fun xs H2 => Q (.ty t.ty :: xs) H2) h
theorem pair_tys : ∀ ts : List TN, Paired ClsV (ts.map fun t => V.ty t.ty) (ts.map fun t => Value.type t.ty)
  | [] => .nil
  | t :: ts => .cons (.ty _) (pair_tys ts)
theorem pe_isi (C : COk G X W N sc k) {ts : List TN} {tp : Bool} {a T : Expr} {p pos : Pos} {m : Fr → M PV} (hg : Gl X "isinstance") (ha : PE X a (tM G X W m)) (hs : notStar a = true) (h : okIs sc ts tp T = true) :
    PE X (.Call (.Name "isinstance" p) [a, T] [] pos) (tM G X W fun fr => m fr >>= fun x => isiM ts x) := by
  have hm : X.mg "isinstance" = none := C.blt2.2.2.2.1
  cases tp with
  | false =>
    match ts, h with
    | [t], h =>
      have q := pe_tn C (t := t) (e := T) h
      have e1 : starEach [T] X.env = [(false, eval T X.env)] := star_cons q.2
      refine pe_imp (pe_callB (id := "isinstance") call_isi hg hm (by decide +kernel) (pa_cons ha (pa_cons q.1 pa_nil e1) (star_cons hs)) (by decide +kernel) (by decide +kernel) (star_cons hs) (by rw [e1]; rfl)) fun σ H Q ⟨fr, mh, ad, hs1, hf, g⟩ => ?_
      refine ⟨fr, mh, ad, hs1, hf, g.bind.imp fun v H1 ⟨x, mh1, ad1, x1, s1, r1, g1⟩ => ?_⟩
      unfold isiM at g1
      cases ek : pkOf mh1 x with
      | none => simp only [ek] at g1; exact g1.elim
      | some kk =>
        simp only [ek] at g1
        exact ⟨v, .ty t.ty, _, _, _, rfl, .ty _, ty_of s1 r1 ek, kit_tn kk t, g1.pure s1 (by simp [RvX, Rv])⟩
  | true =>
    cases T with
    | Tuple es kt tpos =>
      simp only [okIs, if_true, Bool.and_eq_true, decide_eq_true_eq] at h
      obtain ⟨hsm, h⟩ := h
      refine pe_imp (pe_callB (id := "isinstance") call_isiT hg hm (by decide +kernel) (pa_cons ha (pa_cons (pe_tup (pa_tns C h)) pa_nil) (star_cons hs)) (by decide +kernel) (by decide +kernel) (star_cons hs)) fun σ H Q ⟨fr, mh, ad, hs1, hf, g⟩ => ?_
      refine ⟨fr, mh, ad, hs1, hf, g.bind.imp fun v H1 ⟨x, mh1, ad1, x1, s1, r1, g1⟩ => ?_⟩
      unfold isiM at g1
      cases ek : pkOf mh1 x with
      | none => simp only [ek] at g1; exact g1.elim
      | some kk =>
        simp only [ek] at g1
        refine tTys_at (Q := fun vs H2 => vs.length ≤ sizeLine ∧ ∀ p, H2 p = none → (rIsiT X.K) [v, .ref p] (upd H2 p (.tup vs)) Q) ⟨?_, fun b hb => ?_⟩
        · rw [List.length_map, sizeLine_eq]
          omega
        · refine ⟨v, b, _, _, _, _, rfl, upd_same, pair_tys ts, ty_of (s1.tup hb) (Rv.mono (ext_tup hb) _ _ r1) ek, kit_tns kk ts, g1 _ _ _ (ext_tup hb) (s1.tup hb) (by simp [RvX, Rv])⟩
    | _ => simp [okIs] at h
/-! ### a dict of one pair, the key a tuple -/
theorem dset_ok (hu : X.A.units + 65 < cLine) {pins : List (Addr × Obj)} {σ : L2.St} {H : Hp} {s : Shared} {ad : List Addr} {mh : MH} (I : Inv X pins σ H s) (hs : SimX X H ad mh) {n : Nat} {a : Addr} {kvs : List (PV × PV)} (e : mh[n]? = some (.dtp kvs)) (ha : ad[n]? = some a)
    {pi pv : PV} {i v : V} {iv uv : Value} (ri : RelV i iv) (rv : RelV v uv) (h2 : Rv X.K H ad pi i) (h3 : Rv X.K H ad pv v) {Q : Hp → Prop} (g : GU X H ad (setM (.ref n) pi pv mh) Q) :
    wpAny (model X.prog X.w) X.A (dictSet a iv uv) (fun _ s' => ∃ H', Inv X pins σ H' s' ∧ Q H') X.xe s := by
  unfold setM at g
  simp only [e] at g
  split at g
  · rename_i hc
    simp only [Bool.and_eq_true, decide_eq_true_eq] at hc
    obtain ⟨⟨hf1, hf2⟩, hl⟩ := hc
    obtain ⟨hsm, hlen, xs, ex, nd, r⟩ := hs.ob _ _ _ e ha
    obtain ⟨ys, py, hd⟩ := dtp_read I ex nd r
    unfold nkd at hf2
    cases ek : nk pi with
    | none => rw [ek] at hf2; cases hf2
    | some k =>
      rw [ek] at hf2
      have hdep : k.depth ≤ 8 := of_decide_eq_true hf2
      cases pi with
      | tup qs =>
        have h2' := h2
        simp only [Rv] at h2
        obtain ⟨b, vs, rfl, hq, hr⟩ := h2
        cases ri
        have his : (nestedKind X.prog X.w).is s.heap k b := ⟨nk_is I (.tup qs) (.ref b) (.ref b) k h2' rfl ek, hdep⟩
        have hroom : (nestedKind X.prog X.w).room X.A := by
          show X.A.units + 8 < cLine
          omega
        have hly : ys.length ≤ sizeLine := by rw [← Paired.length py, ← Paired.length r]; exact hlen
        obtain ⟨x, s'⟩ := hs.write (o' := .dtp (kvPut kvs (.tup qs) pv)) (u := dtpO X.prog X.w a (storedX xs k b v)) e ha rfl fun x =>
          ⟨hsm, by have := kvPut_len kvs (.tup qs) pv; rw [big_eq]; omega, _, upd_same, storedX_keys xs k b v nd,
            put_dtp ek hdep (h2'.mono x) ⟨qs, rfl⟩ (h3.mono x) (pimp (fun a b q => ⟨q.1, q.2.1, q.2.2.1.mono x, q.2.2.2.1, q.2.2.2.2.mono x⟩) r)⟩
        refine wpAny_dictSet_heap (hsz := hly) hroom his hd fun h' hm' hsb => ⟨_, ?_, g.at x s'⟩
        obtain ⟨o', es', ep', f1, f2, f3, f4, _, _⟩ := hm'
        refine I.write (x := a) (e := a) (by rw [ex]; trivial) (.inl rfl) (fun c u hc hcu => ?_) ⟨o', f1⟩ ?_
        · exact (hsb.2 c hc).trans hcu
        · exact ⟨⟨storedH ys k b uv, stored_rel py rv, o', es', ep', f1, f2, f3, f4⟩, ⟨o', f1⟩, fun h1 h2 ⟨ys', p', o2, es2, ep2, k1, k2, k3, k4⟩ k => ⟨ys', p', o2, es2, ep2, k _ k1, k2, k3, k4⟩⟩
      | _ => simp [tupK] at hf1
  · exact g.elim
theorem pe_dd1 (C : COk G X W N sc k) {a b : Expr} {pos : Pos} {mk mv : Fr → M PV} (ha : PE X a (tM G X W mk)) (hb : PE X b (tM G X W mv)) :
    PE X (.Dict [some a] [b] pos) (tM G X W fun fr => fun h0 => (mk fr >>= fun x => mv fr >>= fun y => ((dsetM h0.length x y).nx : M Unit) >>= fun _ => (M.ret (.ref h0.length) : M PV)) (h0 ++ [.dtp []])) := by
  refine ⟨fun pins s σ H Q I ⟨fr, mh, ad, hs, hf, g⟩ => ?_⟩
  have hp := I.hok.fresh (Nat.le_refl s.heap.objs.size)
  have hsm : (s.heap.objs.size == sysModules) = false := beq_eq_false_iff_ne.mpr (Ne.symm (Nat.ne_of_lt I.big))
  obtain ⟨x, s'⟩ := hs.push (o := .dtp []) (u := dtpO X.prog X.w s.heap.objs.size []) hp fun x => ⟨hsm, Nat.zero_le _, [], upd_same, List.nodup_nil, .nil⟩
  have I1 := I.laid (a := s.heap.objs.size) (o := dtpO X.prog X.w s.heap.objs.size []) (t' := s.toks) (h' := s.heap.push { cls := .type "dict", data := .dict #[] }) (fun _ _ q => Heap.get?_push_of_some _ q) (Nat.le_refl _) (dtp_new s.heap I.big)
  have hadD : (ad ++ [s.heap.objs.size])[mh.length]? = some s.heap.objs.size := by rw [← hs.len]; simp
  have hsh : (evalEachOpt [some a] X.env).zip ((evalEach [b] X.env).map fun v => do let x ← v; standAt pos; pure x) = ([(eval a X.env, (do let x ← eval b X.env; standAt pos; pure x))] : List (Sem Value × Sem Value)).map fun p => (some p.1, p.2) := rfl
  rw [arm_eval_Dict, hsh, dictDisplay_pairs _ (by simp) (by simp)]
  refine wpAny_bind (wpAny_standAt (wpAny_bind ?_))
  unfold subDict
  refine wpAny_bind (wpAny_alloc (wpAny_bind (wpAny_holding ?_)))
  rw [if_pos (by simp)]
  refine wpAny_bind (evalPairs_cons ?_)
  refine thn (ha.run pins _ σ _ _ I1 ⟨fr, _, _, s', hf.mono x, (g.mono x).bind (R := RvX X)⟩) fun kv s1 ⟨kx, H1, I2, rk, px, mh1, ad1, x1, hs1, rpx, g1⟩ => ?_
  refine wpAny_bind (thn (hb.run pins s1 σ H1 _ I2 ⟨fr, mh1, ad1, hs1, (hf.mono x).mono x1, g1.bind (R := RvX X)⟩) fun vv s2 ⟨vx, H2, I3, rv, py, mh2, ad2, x2, hs2, rpy, g2⟩ => ?_)
  refine wpAny_bind (wpAny_standAt (wpAny_pure (evalPairs_nil ?_)))
  refine wpAny_holding ?_
  have haD2 : ad2[mh.length]? = some s.heap.objs.size := get_prefix (x1.trans x2).pre hadD
  have g3 := (g2.bind (R := fun _ _ (_ : Unit) (_ : Unit) => True)).nx
  cases eo : mh2[mh.length]? with
  | none => unfold dsetM at g3; simp only [eo] at g3; exact g3.elim
  | some o =>
    cases o with
    | dtp kvs =>
      unfold dsetM at g3
      simp only [eo] at g3
      rw [List.forIn_cons]
      refine wpAny_bind (wpAny_bind (wpAny_bind (thn (dset_ok C.units I3 hs2 eo haD2 rk rv (Rv.mono x2 _ _ rpx) rpy (Q := fun H' => Q (.ref s.heap.objs.size) H') ?_) fun _ s4 ⟨H4, I4, q4⟩ => ?_)))
      · unfold GU
        revert g3
        generalize setM (.ref mh.length) px py mh2 = rr
        intro g3
        cases rr with
        | ok u mh4 =>
          intro b' H4 ad4 x4 s4 _
          obtain ⟨a5, mh5, ad5, x5, s5, _, g5⟩ := g3 b' H4 ad4 x4 s4 trivial
          exact g5.pure s5 (by simp only [RvX, Rv]; exact ⟨_, rfl, get_prefix x5.pre haD2⟩)
        | exc c h' => exact g3.elim
        | bad => exact g3.elim
      · refine wpAny_pure (wpAny_pure ?_)
        exact wpAny_pure (wpAny_pure (wpAny_pure ⟨.ref s.heap.objs.size, H4, I4, rfl, q4⟩))
    | _ => unfold dsetM at g3; simp only [eo] at g3; exact g3.elim
theorem cst_ok {c : PV} {kc : Const} {j : Nat} {pos : Pos} (h : cstB c kc = true) : PE X (.Constant kc j pos) (tM G X W fun _ => M.ret c) := by
  cases c <;> cases kc <;> simp only [cstB, Bool.false_eq_true, beq_iff_eq, decide_eq_true_eq] at h
  · exact pe_imp pe_non fun σ H Q ⟨fr, mh, ad, hs, hf, g⟩ => g.pure hs rvnon
  · subst h; exact pe_imp pe_bl fun σ H Q ⟨fr, mh, ad, hs, hf, g⟩ => g.pure hs (rvbl _)
  · subst h; exact pe_imp pe_int fun σ H Q ⟨fr, mh, ad, hs, hf, g⟩ => g.pure hs rvint
  · subst h; exact pe_imp pe_str fun σ H Q ⟨fr, mh, ad, hs, hf, g⟩ => g.pure hs (by simp [RvX, Rv])
end
end FL
set_option maxHeartbeats 8000000
/-! FL17: the soundness of expressions, by induction. -/
namespace FL
open PySem PySem.Spec PyProof.Rows L2

section
variable (G : GG) (N : List Str) (k : Nat)
abbrev SndE (c : CE) : Prop := ∀ (X : Cx) (W : WX) (sc : Scope) (e : Expr), COk G X W N sc k → okE N c sc e = true → PE X e (tM G X W (evE0 G c)) ∧ PT X e (tMt G X W fun fr => evE0 G c fr >>= isBl)
abbrev SndEs (cs : CEs) : Prop := ∀ (X : Cx) (W : WX) (sc : Scope) (es : List Expr), COk G X W N sc k → okEs N cs sc es = true →
  PA X es (tMs G X W (evEs0 G cs)) ∧ (∀ b pos, es ≠ [] → PE X (.BoolOp (if b then .And else .Or) es pos) (tM G X W (evB0 G b cs)) ∧ PW X (.BoolOp (if b then .And else .Or) es pos) (tMt G X W fun fr => evB0 G b cs fr >>= isBl)) ∧ PTs X es (tMt G X W (evAll0 G cs))
abbrev SndO (c : CO) : Prop := ∀ (X : Cx) (W : WX) (sc : Scope) (e : Option Expr), COk G X W N sc k → okO N c sc e = true → PO X e (tMo G X W (evO0 G c))
abbrev SndI (c : CI) : Prop := ∀ (X : Cx) (W : WX) (sc : Scope) (tg e : Expr), COk G X W N sc k → okI N c sc tg e = true → PI X tg e (iM G X W (evI0 G c)) ∧ notSet e = true
variable {G N k}
theorem tM_congr {X : Cx} {W : WX} {m m' : Fr → M PV} (h : ∀ fr, m fr = m' fr) : tM G X W m = tM G X W m' := by rw [show m = m' from funext h]
theorem tMt_congr {X : Cx} {W : WX} {m m' : Fr → M Bool} (h : ∀ fr, m fr = m' fr) : tMt G X W m = tMt G X W m' := by rw [show m = m' from funext h]
theorem b2 {e : Expr} {X : Cx} {W : WX} {m : Fr → M PV} (h : PE X e (tM G X W m)) (hp : plainT e = true) : PE X e (tM G X W m) ∧ PT X e (tMt G X W fun fr => m fr >>= isBl) := ⟨h, pt_of h hp⟩
theorem assoc3 {α β γ : Type} (m : M α) (f : α → M β) (g : β → M γ) : (m >>= f) >>= g = m >>= fun x => f x >>= g := by
  funext h
  show (match (match m h with | .ok a h' => f a h' | .exc c h' => .exc c h' | .bad => .bad) with | .ok a h' => g a h' | .exc c h' => .exc c h' | .bad => .bad) = _
  show _ = (match m h with | .ok a h' => (f a >>= g) h' | .exc c h' => .exc c h' | .bad => .bad)
  cases m h <;> rfl
theorem snd_loc (i : Nat) : SndE G N k (.loc i) := by
  intro X W sc e C h
  cases e <;> simp only [okE, Bool.false_eq_true, Bool.and_eq_true, decide_eq_true_eq, Bool.not_eq_true'] at h
  obtain ⟨⟨⟨h1, h2⟩, h3⟩, h4⟩ := h
  refine b2 (pe_imp (pe_var (i := i) (by rw [C.names]; exact h1) (by rw [C.scope]; exact vis_of h2) h3 h4) fun σ H Q ⟨fr, mh, ad, hs, hf, g⟩ => ?_) rfl
  unfold evE0 at g
  cases e : fr[i]? with
  | none => simp only [e] at g; exact g.elim
  | some o =>
    cases o with
    | none => simp only [e] at g; exact g.elim
    | some p =>
      simp only [e] at g
      obtain ⟨v, e1, e2⟩ := hf.2 i p e
      exact ⟨v, e1, g.pure hs e2⟩
theorem snd_glb (y : Str) : SndE G N k (.glb y) := by
  intro X W sc e C h
  cases e with
  | Name x pos =>
    simp only [okE, Bool.and_eq_true, decide_eq_true_eq] at h
    obtain ⟨h1, h2⟩ := h
    subst h1
    obtain ⟨hg, hd⟩ := gl_of C.scope h2
    cases e : G.cons x with
    | none =>
      refine b2 (pe_imp (show PE X (.Name x pos) (fun _ _ _ => False) from ⟨fun _ _ _ _ _ _ z => z.elim⟩) fun σ H Q ⟨fr, mh, ad, hs, hf, g⟩ => ?_) rfl
      unfold evE0 at g
      simp only [e] at g
      exact g
    | some p =>
      obtain ⟨u, v, hm, rv, rp⟩ := C.cons x p e
      refine b2 (pe_imp (pe_glob hg hm rv hd) fun σ H Q ⟨fr, mh, ad, hs, hf, g⟩ => ?_) rfl
      unfold evE0 at g
      simp only [e] at g
      exact g.pure hs (rp H ad)
  | _ => simp [okE] at h
theorem snd_cst (c : PV) : SndE G N k (.cst c) := by
  intro X W sc e C h
  cases e <;> simp only [okE, Bool.false_eq_true] at h
  exact b2 (cst_ok h) rfl
mutual
theorem sE : ∀ c : CE, SndE G N k c
  | .loc i => snd_loc i
  | .glb y => snd_glb y
  | .cst c => snd_cst c
  | .bin op a b => by
    intro X W sc e C h
    cases e <;> simp only [okE, Bool.false_eq_true, Bool.and_eq_true, decide_eq_true_eq] at h
    obtain ⟨⟨rfl, h1⟩, h2⟩ := h
    exact b2 (pe_op2 (sE a X W sc _ C h1).1 (sE b X W sc _ C h2).1) rfl
  | .neg a => by
    intro X W sc e C h
    cases e with
    | UnaryOp op x pos =>
      cases op <;> simp only [okE, Bool.false_eq_true] at h
      refine b2 (pe_imp (pe_un un_neg (sE a X W sc _ C h).1) fun σ H Q ⟨fr, mh, ad, hs, hf, g⟩ => ⟨fr, mh, ad, hs, hf, g.bind.imp fun v H1 ⟨x, mh1, ad1, x1, s1, r1, g1⟩ => ?_⟩) rfl
      cases x with
      | int i => simp only [Rv] at r1; subst r1; exact ⟨i, rfl, g1.pure s1 rvint⟩
      | _ => exact g1.elim
    | _ => simp [okE] at h
  | .cmp op a b => by
    intro X W sc e C h
    cases e with
    | Compare x ops ys pos =>
      match ops, ys, h with
      | [o], [y], h =>
        simp only [okE, Bool.and_eq_true, decide_eq_true_eq] at h
        obtain ⟨⟨rfl, h1⟩, h2⟩ := h
        have hm : behindInMarks o y = false := marks (okE_set h2)
        have pe := pe_imp (pe_cmpR (cmp_ok C.units o).op (sE a X W sc _ C h1).1 (sE b X W sc _ C h2).1 hm (pos := pos)) (cmp_conv (G := G) (W := W))
        refine ⟨pe, pt_imp (pt_cmpR (cmp_ok C.units o).op (sE a X W sc _ C h1).1 (sE b X W sc _ C h2).1 hm) fun σ H Q hq => ?_⟩
        have := isBl_bind (m := evE0 G (.cmp o a b)) hq
        exact cmp_conv σ H _ this
    | _ => simp [okE] at h
  | .chn o1 o2 a b c => by
    intro X W sc e C h
    cases e with
    | Compare x ops ys pos =>
      match ops, ys, h with
      | [p1, p2], [y, z], h =>
        simp only [okE, Bool.and_eq_true, decide_eq_true_eq] at h
        obtain ⟨⟨⟨⟨rfl, rfl⟩, h1⟩, h2⟩, h3⟩ := h
        have ia := sE a X W sc _ C h1
        have ib := sE b X W sc _ C h2
        have ic := sE c X W sc _ C h3
        have conv : ∀ σ H (Q : VK), tM G X W (evE0 G (.chn p1 p2 a b c)) σ H Q → tChain (rM X (cmpM p1)) (rM X (cmpM p2)) (tM G X W (evE0 G a)) (tM G X W (evE0 G b)) (tM G X W (evE0 G c)) σ H Q := by
          rintro σ H Q ⟨fr, mh, ad, hs, hf, g⟩
          unfold evE0 at g
          refine ⟨fr, mh, ad, hs, hf, g.bind.imp fun v H1 ⟨x, mh1, ad1, x1, s1, r1, g1⟩ => ?_⟩
          refine ⟨fr, mh1, ad1, s1, hf.mono x1, g1.bind.imp fun v2 H2 ⟨y, mh2, ad2, x2, s2, r2, g2⟩ => ?_⟩
          refine ⟨x, y, mh2, ad2, s2, Rv.mono x2 _ _ r1, r2, ?_⟩
          refine Good.nx (g2.bind.imp fun v3 H3 ⟨z, mh3, ad3, x3, s3, r3, g3⟩ => ?_)
          cases z with
          | bl kk =>
            simp only [RvX, Rv] at r3; subst r3
            have g3' : Good G X (RvX X) W σ fr H3 ad3 ((if kk then (evE0 G c fr >>= fun z => (cmpM p2 y z).nx) else M.ret (.bl false)) mh3) Q := g3
            refine ⟨kk, rfl, ?_⟩
            cases kk with
            | true =>
              rw [if_pos rfl] at g3' ⊢
              exact ⟨fr, mh3, ad3, s3, hf.mono (x1.trans (x2.trans x3)), g3'.bind.imp fun v4 H4 ⟨w, mh4, ad4, x4, s4, r4, g4⟩ => ⟨y, w, mh4, ad4, s4, Rv.mono (x3.trans x4) _ _ r2, r4, g4.nx⟩⟩
            | false =>
              rw [if_neg Bool.false_ne_true] at g3' ⊢
              exact g3'.pure s3 (rvbl _)
          | _ => exact g3.elim
        have hm : lastMarks [p1, p2] [y, z] = false := marks2 (okE_set h3)
        refine ⟨pe_imp (pe_chain (cmp_ok C.units p1).op (cmp_ok C.units p2).op ia.1 ib.1 ic.1 hm) conv, pt_imp (pt_chain (cmp_ok C.units p1).op (cmp_ok C.units p2).op ia.1 ib.1 ic.1 hm) fun σ H Q hq => ?_⟩
        exact conv σ H _ (isBl_bind (m := evE0 G (.chn p1 p2 a b c)) hq)
    | _ => simp [okE] at h
  | .bop b es => by
    intro X W sc e C h
    cases e with
    | BoolOp op xs pos =>
      have hx : okEs N es sc xs = true ∧ op = (if b then .And else .Or) := by
        cases b <;> cases op <;> simp only [okE, Bool.false_eq_true] at h
        · exact ⟨h, rfl⟩
        · exact ⟨h, rfl⟩
      obtain ⟨hx, rfl⟩ := hx
      obtain ⟨_, i2, _⟩ := sEs es X W sc xs C hx
      cases xs with
      | nil =>
        cases es with
        | nil =>
          refine ⟨pe_imp (show PE X _ (fun _ _ _ => False) from ⟨fun _ _ _ _ _ _ z => z.elim⟩) fun σ H Q ⟨fr, mh, ad, hs, hf, g⟩ => g, pt_imp (show PT X _ (fun _ _ _ => False) from ⟨fun _ _ _ _ _ _ z => z.elim⟩) fun σ H Q ⟨fr, mh, ad, hs, hf, g⟩ => g⟩
        | cons e es => simp [okEs] at hx
      | cons x xs =>
        obtain ⟨k1, k2⟩ := i2 b pos (by simp)
        exact ⟨k1, k2.pt⟩
    | _ => cases b <;> simp [okE] at h
  | .nt a => by
    intro X W sc e C h
    cases e with
    | UnaryOp op x pos =>
      cases op <;> simp only [okE, Bool.false_eq_true] at h
      have ia := sE a X W sc _ C h
      refine ⟨pe_imp (pe_not ia.1) fun σ H Q ⟨fr, mh, ad, hs, hf, g⟩ => ?_, pt_imp (pt_not ia.2) fun σ H Q ⟨fr, mh, ad, hs, hf, g⟩ => ?_⟩
      · unfold evE0 at g
        exact ⟨fr, mh, ad, hs, hf, (bl_of g).imp fun v H1 ⟨b, eb, mh1, ad1, x1, s1, g1⟩ => ⟨b, eb, g1.pure s1 (rvbl _)⟩⟩
      · unfold evE0 at g
        dsimp only at g
        rw [assoc3] at g
        refine ⟨fr, mh, ad, hs, hf, ?_⟩
        have g' : Good G X (fun _ _ (a : Bool) b => a = b) W σ fr H ad ((evE0 G a fr >>= fun x => isBl x >>= fun b => M.ret (!b)) mh) Q := by
          have : (evE0 G a fr >>= fun x => isBl x >>= fun b => (M.ret (!b) : M Bool)) = (evE0 G a fr >>= fun x => (isBl x >>= fun b => (M.ret (.bl (!b)) : M PV)) >>= isBl) := by
            congr 1; funext x; rw [assoc3]; rfl
          rw [this]; exact g
        rw [← assoc3] at g'
        exact g'.bind.imp fun b H1 ⟨b', mh1, ad1, x1, s1, eb, g1⟩ => by subst eb; exact g1.pure s1 rfl
    | _ => simp [okE] at h
  | .sub a i => by
    intro X W sc e C h
    cases e <;> simp only [okE, Bool.false_eq_true, Bool.and_eq_true] at h
    obtain ⟨h1, h2⟩ := h
    refine b2 (pe_imp (pe_ix (ix_ok C.units) (sE a X W sc _ C h1).1 (sE i X W sc _ C h2).1 (plain_ix (okE_sl h2))) fun σ H Q ⟨fr, mh, ad, hs, hf, g⟩ => ⟨fr, mh, ad, hs, hf, g.bind.imp fun v H1 ⟨x, mh1, ad1, x1, s1, r1, g1⟩ => ?_⟩) rfl
    exact ⟨fr, mh1, ad1, s1, hf.mono x1, g1.bind.imp fun v2 H2 ⟨y, mh2, ad2, x2, s2, r2, g2⟩ => ⟨x, y, mh2, ad2, s2, Rv.mono x2 _ _ r1, r2, g2.nx⟩⟩
  | .slc a lo hi => by
    intro X W sc e C h
    cases e with
    | Subscript x y pos =>
      cases y with
      | Slice l u st p2 =>
        cases st with
        | none =>
          simp only [okE, Bool.and_eq_true] at h
          obtain ⟨⟨h1, h2⟩, h3⟩ := h
          refine b2 (pe_imp (pe_slice slc_ok (sE a X W sc _ C h1).1 (sO lo X W sc _ C h2) (sO hi X W sc _ C h3)) fun σ H Q ⟨fr, mh, ad, hs, hf, g⟩ => ?_) rfl
          unfold evE0 at g
          refine ⟨fr, mh, ad, hs, hf, g.bind.imp fun v H1 ⟨x, mh1, ad1, x1, s1, r1, g1⟩ => ?_⟩
          refine ⟨fr, mh1, ad1, s1, hf.mono x1, g1.bind.imp fun l H2 ⟨l', mh2, ad2, x2, s2, r2, g2⟩ => ?_⟩
          subst r2
          refine ⟨fr, mh2, ad2, s2, hf.mono (x1.trans x2), g2.bind.imp fun u H3 ⟨u', mh3, ad3, x3, s3, r3, g3⟩ => ?_⟩
          subst r3
          exact ⟨x, mh3, ad3, s3, Rv.mono (x2.trans x3) _ _ r1, g3.nx⟩
        | some _ => simp [okE] at h
      | _ => simp [okE] at h
    | _ => simp [okE] at h
  | .tup es => by
    intro X W sc e C h
    cases e <;> simp only [okE, Bool.false_eq_true] at h
    exact b2 (pe_tupM (sEs es X W sc _ C h).1) rfl
  | .lst es => by
    intro X W sc e C h
    cases e <;> simp only [okE, Bool.false_eq_true] at h
    exact b2 (pe_lstM (sEs es X W sc _ C h).1) rfl
  | .dnew tk => by
    intro X W sc e C h
    cases e with
    | Dict ks vs pos =>
      match ks, vs, h with
      | [], [], h => exact b2 (pe_dnew tk) rfl
    | _ => simp [okE] at h
  | .call f es => by
    intro X W sc e C h
    cases e with
    | Call fn xs kw pos =>
      match fn, kw, h with
      | .Name x p, [], h =>
        simp only [okE, Bool.and_eq_true, decide_eq_true_eq] at h
        obtain ⟨⟨rfl, h1⟩, h2⟩ := h
        obtain ⟨hg, hd⟩ := gl_of C.scope h1
        cases eF : G.fns x with
        | none =>
          refine b2 (pe_imp (show PE X _ (fun _ _ _ => False) from ⟨fun _ _ _ _ _ _ z => z.elim⟩) fun σ H Q ⟨fr, mh, ad, hs, hf, g⟩ => ?_) rfl
          unfold evE0 at g
          simp only [eF] at g
          exact g
        | some F =>
          have e1 : ∀ fr, evE0 G (.call x es) fr = (evEs0 G es fr >>= F) := by
            intro fr; unfold evE0; simp only [eF]
          rw [tM_congr e1, tMt_congr (fun fr => by rw [e1 fr])]
          cases xs with
          | nil =>
            cases es with
            | nil => exact b2 (pe_own0 C eF hg hd) rfl
            | cons c cs => simp [okEs] at h2
          | cons y ys => exact b2 (pe_own C eF hg hd h2 (sEs es X W sc _ C h2).1 rfl) rfl
    | _ => simp [okE] at h
  | .blt b es => by
    intro X W sc e C h
    cases e with
    | Call fn xs kw pos =>
      match fn, kw, h with
      | .Name x p, [], h =>
        simp only [okE, Bool.and_eq_true, decide_eq_true_eq, Bool.not_eq_true'] at h
        obtain ⟨⟨⟨rfl, h1⟩, h2⟩, h3⟩ := h
        obtain ⟨hg, hd⟩ := gl_of C.scope h1
        exact b2 (pe_blt C hg h2 h3 (sEs es X W sc _ C h2).1) rfl
    | _ => simp [okE] at h
  | .mth m o es => by
    intro X W sc e C h
    cases e with
    | Call fn xs kw pos =>
      match fn, kw, h with
      | .Attribute oe nm ap, [], h =>
        simp only [okE, Bool.and_eq_true, decide_eq_true_eq] at h
        obtain ⟨⟨⟨⟨⟨rfl, h1⟩, h2⟩, h3⟩, h4⟩, h5⟩ := h
        refine b2 (pe_mth C h1 h2 h3 h5 (sE o X W sc _ C h4).1 (sEs es X W sc _ C h5).1 ?_) rfl
        rintro rfl
        cases es with
        | nil => rfl
        | cons c cs => simp [okEs] at h5
    | _ => simp [okE] at h
  | .isi a ts tp => by
    intro X W sc e C h
    cases e with
    | Call fn xs kw pos =>
      match fn, xs, kw, h with
      | .Name x p, [e, T], [], h =>
        simp only [okE, Bool.and_eq_true, decide_eq_true_eq] at h
        obtain ⟨⟨⟨rfl, h1⟩, h2⟩, h3⟩ := h
        exact b2 (pe_isi C (gl_of C.scope h1).1 (sE a X W sc _ C h2).1 (okE_star h2) h3) rfl
    | _ => simp [okE] at h
  | .dd1 k v => by
    intro X W sc e C h
    cases e with
    | Dict ks vs pos =>
      match ks, vs, h with
      | [some x], [y], h =>
        simp only [okE, Bool.and_eq_true] at h
        exact b2 (pe_dd1 C (sE k X W sc _ C h.1).1 (sE v X W sc _ C h.2).1) rfl
    | _ => simp [okE] at h
  | .lc elt own t it ifs => by
    intro X W sc e C h
    cases e with
    | ListComp el gens scope pos =>
      match gens, h with
      | _ :: _ :: _, h => simp [okE] at h
      | [⟨tg, iter, ifl, asy⟩], h =>
        have h0 : asy = 0 := by
          by_cases hz : asy = 0
          · exact hz
          · simp [okE, hz] at h
        subst h0
        simp only [okE, Bool.and_eq_true] at h
        obtain ⟨⟨⟨⟨⟨⟨h1, h2⟩, h3⟩, h4⟩, h5⟩, h6⟩, h7⟩ := h
        have hown : own.map (·.2) = t.sl := by
          cases t <;> simpa [sameSlots, CT.sl] using h7
        exact b2 (lc_ok C hown (sI it X W sc _ _ C h4).1 h1 h2 h3 (fun X' C' => (sEs ifs X' _ _ _ C' h5).2.2) (fun X' C' => (sE elt X' _ _ _ C' h6).1)) rfl
    | _ => simp [okE] at h
theorem sEs : ∀ cs : CEs, SndEs G N k cs
  | .nil => by
    intro X W sc es C h
    cases es with
    | nil =>
      refine ⟨pa_imp pa_nil fun σ H Q ⟨fr, mh, ad, hs, hf, g⟩ => g.pure hs Rvs.nil, fun b pos hne => absurd rfl hne, ?_⟩
      refine ⟨fun pins s σ H Q I ⟨fr, mh, ad, hs, hf, g⟩ => pts_nil.run pins s σ H Q I (g.pure hs rfl)⟩
    | cons e es => simp [okEs] at h
  | .cons c .nil => by
    intro X W sc es C h
    cases es with
    | nil => simp [okEs] at h
    | cons e es =>
      cases es with
      | cons f es => simp [okEs] at h
      | nil =>
        simp only [okEs, Bool.and_eq_true] at h
        have i := sE c X W sc _ C h.1
        refine ⟨pa_imp (pa_cons i.1 pa_nil (star_cons (okE_star h.1))) fun σ H Q ⟨fr, mh, ad, hs, hf, g⟩ => ⟨fr, mh, ad, hs, hf, g.bind.imp fun v H1 ⟨x, mh1, ad1, x1, s1, r1, g1⟩ => ?_⟩, fun b pos _ => ?_, ?_⟩
        · exact g1.pure s1 (Rvs.cons r1 Rvs.nil)
        · refine ⟨pe_one i.1, ?_⟩
          cases b
          · exact pw_or1 i.2
          · exact pw_and1 i.2
        · exact pts_one i.2
  | .cons c (.cons d ds) => by
    intro X W sc es C h
    cases es with
    | nil => simp [okEs] at h
    | cons e es =>
      cases es with
      | nil => simp [okEs] at h
      | cons f es =>
        have h' := h
        rw [okEs, Bool.and_eq_true] at h
        have i := sE c X W sc _ C h.1
        have j := sEs (.cons d ds) X W sc _ C h.2
        refine ⟨pa_imp (pa_cons i.1 j.1 (star_cons (okE_star h.1))) fun σ H Q ⟨fr, mh, ad, hs, hf, g⟩ => ?_, fun b pos _ => ?_, ?_⟩
        · have g' : Good G X (fun H ad (a : List PV) b => Rvs X.K H ad a b) W σ fr H ad ((evE0 G c fr >>= fun x => evEs0 G (.cons d ds) fr >>= fun xs => M.ret (x :: xs)) mh) Q := g
          exact ⟨fr, mh, ad, hs, hf, g'.bind.imp fun v H1 ⟨x, mh1, ad1, x1, s1, r1, g1⟩ => ⟨fr, mh1, ad1, s1, hf.mono x1, g1.bind.imp fun vs H2 ⟨xs, mh2, ad2, x2, s2, r2, g2⟩ => g2.pure s2 (Rvs.cons (Rv.mono x2 _ _ r1) r2)⟩⟩
        · obtain ⟨j1, j2⟩ := j.2.1 b pos (by simp)
          have conv : ∀ {σ : L2.St} {H : Hp} {Q : VK}, tM G X W (evB0 G b (.cons c (.cons d ds))) σ H Q → tM G X W (evE0 G c) σ H fun v H1 => ∃ kk, v = .bl kk ∧ (if kk = b then tM G X W (evB0 G b (.cons d ds)) σ H1 Q else Q (.bl kk) H1) := by
            rintro σ H Q ⟨fr, mh, ad, hs, hf, g⟩
            have g' : Good G X (RvX X) W σ fr H ad ((evE0 G c fr >>= fun x => isBl x >>= fun kk => if kk == b then evB0 G b (.cons d ds) fr else M.ret (.bl kk)) mh) Q := g
            refine ⟨fr, mh, ad, hs, hf, (bl_of g').imp fun v H1 ⟨kk, eb, mh1, ad1, x1, s1, g1⟩ => ⟨kk, eb, ?_⟩⟩
            by_cases hk : kk = b
            · rw [if_pos hk]
              rw [if_pos (by simp [hk])] at g1
              exact ⟨fr, mh1, ad1, s1, hf.mono x1, g1⟩
            · rw [if_neg hk]
              rw [if_neg (by simp [hk])] at g1
              exact g1.pure s1 (rvbl _)
          have convT : ∀ {σ : L2.St} {H : Hp} {Q : Bool → Hp → Prop}, tMt G X W (fun fr => evB0 G b (.cons c (.cons d ds)) fr >>= isBl) σ H Q → tMt G X W (fun fr => evE0 G c fr >>= isBl) σ H fun kk H1 => if kk = b then tMt G X W (fun fr => evB0 G b (.cons d ds) fr >>= isBl) σ H1 Q else Q kk H1 := by
            rintro σ H Q ⟨fr, mh, ad, hs, hf, g⟩
            have e : (evB0 G b (.cons c (.cons d ds)) fr >>= isBl) = ((evE0 G c fr >>= isBl) >>= fun kk => (if kk == b then evB0 G b (.cons d ds) fr >>= isBl else M.ret kk)) := by
              rw [assoc3]
              show ((evE0 G c fr >>= fun x => isBl x >>= fun kk => if kk == b then evB0 G b (.cons d ds) fr else M.ret (.bl kk)) >>= isBl) = _
              rw [assoc3]
              congr 1; funext x; rw [assoc3]
              congr 1; funext kk
              by_cases hk : (kk == b) = true
              · rw [if_pos hk, if_pos hk]
              · rw [if_neg hk, if_neg hk]; rfl
            dsimp only at g
            rw [e] at g
            refine ⟨fr, mh, ad, hs, hf, g.bind.imp fun kk H1 ⟨kk', mh1, ad1, x1, s1, ek, g1⟩ => ?_⟩
            subst ek
            by_cases hk : kk' = b
            · rw [if_pos hk]
              rw [if_pos (by simp [hk])] at g1
              exact ⟨fr, mh1, ad1, s1, hf.mono x1, g1⟩
            · rw [if_neg hk]
              rw [if_neg (by simp [hk])] at g1
              exact g1.pure s1 rfl
          cases b with
          | true =>
            refine ⟨pe_imp (pe_and i.1 j1) fun σ H Q hq => ?_, ?_⟩
            · obtain ⟨fr, mh, ad, hs, hf, g⟩ := conv hq
              refine ⟨fr, mh, ad, hs, hf, g.imp fun v H1 ⟨kk, e, q⟩ => ⟨kk, e, ?_⟩⟩
              cases kk <;> simpa using q
            · refine ⟨fun wh pins s σ H Q I hq => (pw_and i.2 j2).run wh pins s σ H Q I ?_⟩
              obtain ⟨fr, mh, ad, hs, hf, g⟩ := convT hq
              refine ⟨fr, mh, ad, hs, hf, g.imp fun kk H1 q => ?_⟩
              cases kk <;> simpa using q
          | false =>
            refine ⟨pe_imp (pe_or i.1 j1) fun σ H Q hq => ?_, ?_⟩
            · obtain ⟨fr, mh, ad, hs, hf, g⟩ := conv hq
              refine ⟨fr, mh, ad, hs, hf, g.imp fun v H1 ⟨kk, e, q⟩ => ⟨kk, e, ?_⟩⟩
              cases kk <;> simpa using q
            · refine ⟨fun wh pins s σ H Q I hq => (pw_or i.2 j2).run wh pins s σ H Q I ?_⟩
              obtain ⟨fr, mh, ad, hs, hf, g⟩ := convT hq
              refine ⟨fr, mh, ad, hs, hf, g.imp fun kk H1 q => ?_⟩
              cases kk <;> simpa using q
        · exact ⟨fun pins s σ H Q I ⟨fr, mh, ad, hs, hf, g⟩ => g.elim⟩
theorem sO : ∀ c : CO, SndO G N k c
  | .none => by
    intro X W sc e C h
    cases e with
    | none => exact po_imp po_none fun σ H Q ⟨fr, mh, ad, hs, hf, g⟩ => g.pure hs rfl
    | some _ => simp [okO] at h
  | .some c => by
    intro X W sc e C h
    cases e with
    | none => simp [okO] at h
    | some e =>
      simp only [okO] at h
      refine po_imp (po_some (sE c X W sc _ C h).1) fun σ H Q ⟨fr, mh, ad, hs, hf, g⟩ => ⟨fr, mh, ad, hs, hf, g.bind.imp fun v H1 ⟨x, mh1, ad1, x1, s1, r1, g1⟩ => ?_⟩
      cases x with
      | int i => simp only [RvX, Rv] at r1; subst r1; exact ⟨i, rfl, g1.pure s1 rfl⟩
      | _ => exact g1.elim
theorem sI : ∀ c : CI, SndI G N k c
  | .val c => by
    intro X W sc tg e C h
    simp only [okI] at h
    exact ⟨pi_val (sE c X W sc _ C h).1, okE_set h⟩
  | .rng1 c => by
    intro X W sc tg e C h
    cases e with
    | Call fn xs kw pos =>
      match fn, xs, kw, h with
      | .Name x p, [a], [], h =>
        simp only [okI, Bool.and_eq_true, decide_eq_true_eq] at h
        obtain ⟨⟨rfl, h1⟩, h2⟩ := h
        exact ⟨pi_rng1 (gl_of C.scope h1).1 C.blt2.1 (sE c X W sc _ C h2).1 (okE_star h2), rfl⟩
    | _ => simp [okI] at h
  | .rng2 c d => by
    intro X W sc tg e C h
    cases e with
    | Call fn xs kw pos =>
      match fn, xs, kw, h with
      | .Name x p, [a, b], [], h =>
        simp only [okI, Bool.and_eq_true, decide_eq_true_eq] at h
        obtain ⟨⟨⟨rfl, h1⟩, h2⟩, h3⟩ := h
        exact ⟨pi_rng2 (gl_of C.scope h1).1 C.blt2.1 (sE c X W sc _ C h2).1 (sE d X W sc _ C h3).1 (okE_star h2) (okE_star h3), rfl⟩
    | _ => simp [okI] at h
  | .enm c => by
    intro X W sc tg e C h
    cases e with
    | Call fn xs kw pos =>
      match fn, xs, kw, h with
      | .Name x p, [a], [], h =>
        simp only [okI, Bool.and_eq_true, decide_eq_true_eq] at h
        obtain ⟨⟨⟨rfl, h1⟩, h2⟩, h3⟩ := h
        cases tg <;> simp only [isTupE, Bool.false_eq_true] at h3
        exact ⟨pi_enm (gl_of C.scope h1).1 C.blt2.2.1 (sE c X W sc _ C h2).1 (okE_star h2), rfl⟩
    | _ => simp [okI] at h
  | .rev c => by
    intro X W sc tg e C h
    cases e with
    | Call fn xs kw pos =>
      match fn, xs, kw, h with
      | .Name x p, [a], [], h =>
        simp only [okI, Bool.and_eq_true, decide_eq_true_eq] at h
        obtain ⟨⟨rfl, h1⟩, h2⟩ := h
        exact ⟨pi_rev (gl_of C.scope h1).1 C.blt2.2.2.1 (sE c X W sc _ C h2).1 (okE_star h2), rfl⟩
    | _ => simp [okI] at h
end
end
end FL
set_option maxHeartbeats 4000000
/-! FL18: the core language of statements, its evaluator and its checker. -/
namespace FL
open PySem PySem.Spec PyProof.Rows L2

/-- an item that an except suite hands back: a constant, or a field of the error -/
inductive HI | cst (c : PV) | fld (f : Str)
inductive HS | one (h : HI) | tup (hs : List HI) | emp
inductive CHs where
  | nil
  | cons (c : Str) (bind : Option Nat) (s : HS) (r : CHs)
mutual
inductive CS where
  | expr (e : CE)
  | asg (i : Nat) (e : CE)
  | tas (is : List Nat) (e : CE)
  | sst (o i e : CE)
  | aug (i : Nat) (e : CE)
  | ret (e : CE)
  | retN
  | ite (c : CE) (a b : CSs)
  | whl (n : Nat) (c : CE) (b : CSs)
  | fors (t : CT) (it : CI) (b : CSs)
  | brk
  | cnt
  | pas
  | rse (c : Str) (es : CEs)
  | tri (b : CSs) (h : CHs)
inductive CSs where
  | nil
  | cons (s : CS) (r : CSs)
end
inductive Fl | nx | bk | ct | rt (v : PV)
inductive RS where
  | ok (f : Fl) (fr : Fr) (h : MH)
  | exc (c : Exc) (fr : Fr) (h : MH)
  | bad
/-- an expression's result goes on -/
def RS.of {α : Type} (r : Res α) (fr : Fr) (k : α → MH → RS) : RS := match r with
  | .ok a h => k a h
  | .exc c h => .exc c fr h
  | .bad => .bad
def forR0 (t : IT) (tg : CT) (body : Fr → MH → RS) : Nat → Nat → Fr → MH → RS
  | 0, _, _, _ => .bad
  | f + 1, i, fr, h => match t.at i h with
    | none => .bad
    | some none => .ok .nx fr h
    | some (some x) => match setT tg x fr with
      | none => .bad
      | some fr1 => match body fr1 h with
        | .ok .nx fr2 h2 => forR0 t tg body f (i + 1) fr2 h2
        | .ok .ct fr2 h2 => forR0 t tg body f (i + 1) fr2 h2
        | .ok .bk fr2 h2 => .ok .nx fr2 h2
        | r => r
def whlR0 (c : Fr → M Bool) (body : Fr → MH → RS) : Nat → Fr → MH → RS
  | 0, _, _ => .bad
  | n + 1, fr, h => RS.of (c fr h) fr fun b h1 => if b then match body fr h1 with
      | .ok .nx fr2 h2 => whlR0 c body n fr2 h2
      | .ok .ct fr2 h2 => whlR0 c body n fr2 h2
      | .ok .bk fr2 h2 => .ok .nx fr2 h2
      | r => r
    else .ok .nx fr h1
def CEs.len : CEs → Nat
  | .nil => 0
  | .cons _ r => r.len + 1
def idxOf (f : Str) : List Str → Nat
  | [] => 0
  | x :: xs => if x = f then 0 else idxOf f xs + 1
def evHI (fs : List Str) (args : List PV) : HI → Option PV
  | .cst c => some c
  | .fld f => if f ∈ fs then args[idxOf f fs]? else none
def evHIs (fs : List Str) (args : List PV) : List HI → Option (List PV)
  | [] => some []
  | h :: hs => match evHI fs args h, evHIs fs args hs with
    | some p, some ps => some (p :: ps)
    | _, _ => none
section
variable (G : GG)
def evHS (c : Exc) (s : HS) (fr : Fr) (h : MH) : RS := match G.exs c.cls with
  | none => .bad
  | some fs => match s with
    | .one i => match evHI fs c.args i with
      | some p => .ok (.rt p) fr h
      | none => .bad
    | .tup is => match evHIs fs c.args is with
      | some ps => if ps.length ≤ big then .ok (.rt (.tup ps)) fr h else .bad
      | none => .bad
    | .emp => .ok (.rt (.ref h.length)) fr (h ++ [.lst []])
def evHs : CHs → Exc → Fr → MH → RS
  | .nil, c, fr, h => .exc c fr h
  | .cons cl b s r, c, fr, h => if G.sub c.cls cl then (match b with
      | none => evHS G c s fr h
      | some i => if i < fr.length then evHS G c s fr h else .bad) else evHs r c fr h
def hsKn : CHs → Bool
  | .nil => true
  | .cons c _ _ r => G.hcs c && hsKn r
mutual
def evS0 : CS → Fr → MH → RS
  | .expr e, fr, h => RS.of (evE0 G e fr h) fr fun _ h1 => .ok .nx fr h1
  | .asg i e, fr, h => RS.of (evE0 G e fr h) fr fun v h1 => .ok .nx (fr.set i (some v)) h1
  | .tas is e, fr, h => RS.of (evE0 G e fr h) fr fun v h1 => match setT (.tup is) v fr with
    | some fr1 => .ok .nx fr1 h1
    | none => .bad
  | .sst o i e, fr, h => RS.of ((do
      let v ← evE0 G e fr
      let ov ← evE0 G o fr
      let iv ← evE0 G i fr
      (setM ov iv v).nx : M Unit) h) fr fun _ h1 => .ok .nx fr h1
  | .aug i e, fr, h => match fr[i]? with
    | some (some (.int a)) => RS.of (evE0 G e fr h) fr fun v h1 => match v with
      | .int b => .ok .nx (fr.set i (some (.int (a + b)))) h1
      | _ => .bad
    | _ => .bad
  | .ret e, fr, h => RS.of (evE0 G e fr h) fr fun v h1 => .ok (.rt v) fr h1
  | .retN, fr, h => .ok (.rt .non) fr h
  | .ite c a b, fr, h => RS.of ((evE0 G c fr >>= isBl) h) fr fun k h1 => if k then evSs0 a fr h1 else evSs0 b fr h1
  | .whl n c b, fr, h => whlR0 (fun fr => evE0 G c fr >>= isBl) (evSs0 b) n fr h
  | .fors t it b, fr, h => RS.of (evI0 G it fr h) fr fun I h1 => forR0 I t (evSs0 b) (I.fuel h1) 0 fr h1
  | .brk, fr, h => .ok .bk fr h
  | .cnt, fr, h => .ok .ct fr h
  | .pas, fr, h => .ok .nx fr h
  | .rse c es, fr, h => match G.exs c with
    | some fs => if es.len = fs.length then RS.of (evEs0 G es fr h) fr fun xs h1 => if xs.length = fs.length ∧ xs.length ≤ 900 then .exc ⟨c, xs⟩ fr h1 else .bad
      else .bad
    | none => .bad
  | .tri b hs, fr, h => if hsKn G hs then match evSs0 b fr h with
      | .exc c fr1 h1 => evHs G hs c fr1 h1
      | r => r
    else .bad
def evSs0 : CSs → Fr → MH → RS
  | .nil, fr, h => .ok .nx fr h
  | .cons s r, fr, h => match evS0 s fr h with
    | .ok .nx fr1 h1 => evSs0 r fr1 h1
    | x => x
end
end

/-! ### the checker -/
def notComp : Expr → Bool
  | .ListComp .. => false
  | .SetComp .. => false
  | .DictComp .. => false
  | _ => true
def notTup : Expr → Bool
  | .Tuple .. => false
  | _ => true
/-- a comprehension whose value goes straight into a name -/
def asgC (sc : Scope) (y : Str) (py : Pos) : Expr → Bool
  | .ListComp _ _ scope pos => !((sc.names.lookup y == some .local) && (py.line == pos.line)) || !(scope.names.any fun (n, k) => n == y && (k == .local || k == .cell))
  | .SetComp .. => false
  | .DictComp .. => false
  | _ => true
def okHI (x : Option Str) : HI → Expr → Bool
  | .cst c, .Constant k _ _ => cstB c k
  | .fld f, .Attribute (.Name n _) g _ => decide (some n = x) && decide (g = f)
  | _, _ => false
def okHIs (x : Option Str) : List HI → List Expr → Bool
  | [], [] => true
  | h :: hs, e :: es => okHI x h e && okHIs x hs es
  | _, _ => false
def okHS (x : Option Str) : HS → Expr → Bool
  | .one h, e => okHI x h e
  | .tup hs, .Tuple es _ _ => okHIs x hs es
  | .emp, .List [] _ => true
  | _, _ => false
def okBind (N : List Str) (sc : Scope) : Option Nat → Option Str → Bool
  | none, none => true
  | some i, some n => decide (N[i]? = some n) && (sc.names.lookup n == some .local) && !(n == ("__debug__" : Str)) && !(n == ("__classdict__" : Str))
  | _, _ => false
def okHs (N : List Str) (sc : Scope) : CHs → List ExceptHandler → Bool
  | .nil, [] => true
  | .cons c b s r, .ExceptHandler (some (.Name x _)) n [.Return (some e) _] _ :: hs => decide (x = c) && glB sc x && okBind N sc b n && okHS n s e && okHs N sc r hs
  | _, _ => false
mutual
def okS (N : List Str) : CS → Scope → Stmt → Bool
  | .expr e, sc, .Expr x _ => okE N e sc x && notComp x
  | .asg i e, sc, .Assign [.Name y py] x _ => decide (N[i]? = some y) && locB sc (fun _ => true) y && okE N e sc x && asgC sc y py x
  | .tas is e, sc, .Assign [.Tuple ts k p] x _ => okT N sc (fun _ => true) (.tup is) (.Tuple ts k p) && okE N e sc x && notTup x && notComp x
  | .sst o i e, sc, .Assign [.Subscript ox ix _] x _ => okE N o sc ox && okE N i sc ix && okE N e sc x && notComp x
  | .aug i e, sc, .AugAssign (.Name y _) .Add x _ => decide (N[i]? = some y) && locB sc (fun _ => true) y && okE N e sc x
  | .ret e, sc, .Return (some x) _ => okE N e sc x
  | .retN, _, .Return none _ => true
  | .ite c a b, sc, .If x s t _ => okE N c sc x && okSs N a sc s && okSs N b sc t
  | .whl _ c b, sc, .While x s [] _ => okE N c sc x && okSs N b sc s
  | .fors t it b, sc, .For tg x s [] _ => okT N sc (fun _ => true) t tg && okI N it sc tg x && okSs N b sc s
  | .brk, _, .Break _ => true
  | .cnt, _, .Continue _ => true
  | .pas, _, .Pass _ => true
  | .rse c es, sc, .Raise (some (.Call (.Name x _) xs [] _)) none _ => decide (x = c) && glB sc x && okEs N es sc xs
  | .tri b hs, sc, .Try s (h :: r) [] [] _ => okSs N b sc s && okHs N sc hs (h :: r)
  | _, _, _ => false
def okSs (N : List Str) : CSs → Scope → List Stmt → Bool
  | .nil, _, [] => true
  | .cons s r, sc, x :: xs => okS N s sc x && okSs N r sc xs
  | _, _, _ => false
end
end FL
/-! FL19: try with several clauses, each with or without a name. -/
namespace FL
open PySem PySem.Spec PyProof.Rows L2

/-- the ends behind a named clause's suite: the name is gone -/
abbrev gone (i : Nat) (D : Ends) : Ends := { nx := fun σ' H' => D.nx (σ'.set i none) H', rt := D.rt, bk := fun σ' H' => D.bk (σ'.set i none) H', ct := fun σ' H' => D.ct (σ'.set i none) H' }
structure HG where
  cv : Value
  bind : Option Nat
  ts : Addr → Value → Option Addr → TS
def wGen (K : PySem.W.Frag) (Wout : WX) (D : Ends) : List HG → WX
  | [] => Wout
  | g :: r => fun cls d σ H => ∃ b, PySem.W.exmOne K cls g.cv = some b ∧
      (b = true → ∀ a, H a = none → match g.bind with
        | none => g.ts a cls d D σ H
        | some i => g.ts a cls d (gone i D) (σ.set i (some (.ref a))) H) ∧ (b = false → wGen K Wout D r cls d σ H)
inductive HdG (X : Cx) : List ExceptHandler → List HG → Prop
  | nil : HdG X [] []
  | cons {x : Str} {bn : Option Str} {b₀ : Stmt} {rest : List Stmt} {np hp : Pos} {hds : List ExceptHandler} {g : HG} {l : List HG} (hc : Names X x g.cv)
      (hb : match g.bind, bn with | none, none => True | some i, some n => X.N[i]? = some n ∧ X.env.kindOf n = some .local | _, _ => False)
      (hsu : ∀ (a : Addr) (oe : Obj) (cls : Value) (d : Option Addr) (pn : List (Addr × Obj)), Zc cls d oe → (∃ vs, oe.data = .fields vs) → PSs (X.suite a ((a, oe) :: pn)) (b₀ :: rest) (g.ts a cls d)) (r : HdG X hds l) :
      HdG X (.ExceptHandler (some (.Name x np)) bn (b₀ :: rest) hp :: hds) (g :: l)
theorem SP.ofTry {X : Cx} {pins pn' : List (Addr × Obj)} {xe : Value → Shared → Prop} {D : Ends} {f : Flow} {s1 : Shared} (ok : X.Ok) (h : SP (X.tr (X.pn ++ pins) xe) pn' D f s1) : SP X pins D f s1 := by
  cases f with
  | ret u => obtain ⟨v, σ1, H1, J1, r, q⟩ := h; exact ⟨v, σ1, H1, J1.ofTry ok, r, q⟩
  | _ => obtain ⟨σ1, H1, J1, q⟩ := h; exact ⟨σ1, H1, J1.ofTry ok, q⟩
section
variable {X : Cx} {body : List Stmt} {h₀ : ExceptHandler} {hds : List ExceptHandler} {l : List HG} {pos : Pos} {tb : WX → TS} {Wout : WX}
theorem ps_try_gen (hs : X.stack = X.env :: X.outer) (hf : X.env.frame = some X.env.locals) (hN : X.N.Nodup) (tk : Takes X Wout)
    (hb : ∀ (W : WX) (pn : List (Addr × Obj)) (xe : Value → Shared → Prop), Takes (X.tr pn xe) W → PassesOwn (model X.prog X.w) X.A X.env xe → PSs (X.tr pn xe) body (tb W)) (hh : HdG X (h₀ :: hds) l) :
    PS X (.Try body (h₀ :: hds) [] [] pos) (fun D σ H => tb (wGen X.K Wout D l) D σ H) := by
  refine ⟨fun pins s σ H D I hw => ?_⟩
  have okX := I.ok
  have hfr : X.A.frames = some (X.env :: X.outer) := by rw [okX.frames, hs]
  refine wpAny_Try_except ?_
  let xe' : Value → Shared → Prop := fun e s₁ => wpAny (model X.prog X.w) X.A (noteFrame e X.env) (fun _ s₂ => wpAny (model X.prog X.w) X.A (setFlight e none)
    (fun _ s₃ => wpAny (model X.prog X.w) X.A (handleBy e X.env (h₀ :: hds)) (SP X pins D) X.xe s₃) X.xe s₂) X.xe s₁
  refine wpAny_mono ((hb (wGen X.K Wout D l) (X.pn ++ pins) xe' ?_ PassesOwn.looking).run [] s σ H D (I.toTry _) hw) (fun f s1 hsp => ?_) (fun e s1 he => he)
  · -- what is caught
    rintro u s' ⟨a, B, sI, pins1, σ1, H1, cls, d, rfl, J1, nb, up, sky, na, os, ag, w⟩
    have J : Inv X pins σ1 H1 sI := J1.ofTry okX
    rw [show (X.tr (X.pn ++ pins) xe').stack = X.env :: X.outer from hs] at sky
    refine Sky.land Zc.steady hfr hf sky fun h3 fl3 up3 => ?_
    have J3 : Inv X pins σ1 H1 { s' with heap := h3 } := J.landed nb fl3.1 (up.trans up3) os ag
    obtain ⟨oe3, vs3, he3, hz3, hd3⟩ := fl3.there
    have nfr : a ∉ frs (X.env :: X.outer) := fun hm => by
      obtain ⟨_, o1, e1, hnf⟩ := fl3.2.2.1.mem hm; rw [he3] at e1; cases e1; exact hnf _ hd3
    have nL : a ≠ X.env.locals := fun z => nfr (List.mem_filterMap.mpr ⟨X.env, by simp, by rw [hf, z]⟩)
    have nF : a ∉ X.fs := fun hm => by
      obtain ⟨e, he, q⟩ := List.mem_filterMap.mp hm; exact nfr (List.mem_filterMap.mpr ⟨e, by simp [he], q⟩)
    have S3 := J3.suite he3 hd3 na nL nF
    have typ : PySem.W.Looks (model X.prog X.w) h3 (typeOf (.ref a)) cls := fun A Q E s k q => wpAny_typeOf_ref (k _ _ he3) (by rw [hz3.1]; exact q)
    have all : ∀ {hs' : List ExceptHandler} {l' : List HG}, HdG X hs' l' → wGen X.K Wout D l' cls d σ1 H1 → wpAny (model X.prog X.w) X.A (handleBy (.ref a) X.env hs') (SP X pins D) X.xe { s' with heap := h3 } := by
      intro hs' l' hk
      induction hk with
      | nil =>
        intro w
        obtain ⟨k1, k2, k3, oe, vs, T, oT, ts', he, hz, hd, h1, hr⟩ := id fl3
        have flies : wpAny (model X.prog X.w) X.A (setFlight (.ref a) X.env.frame) (fun _ s4 => wpAny (model X.prog X.w) X.A (throw (.ref a) : Sem Flow) (SP X pins D) X.xe s4) X.xe { s' with heap := h3 } := by
          rw [hf]
          exact HandSPX.setFlight_upZ fl3 fun h4 hh4 up4 => wpAny_throw (tk _ _ ⟨a, B, sI, pins, σ1, H1, cls, d, rfl, J, nb, (up.trans up3).trans up4, .inr (.inr (by rw [hs]; exact hh4)), na, os, ag, w⟩)
        refine wpAny_handleBy_nil ?_
        unfold PySem.passOn
        refine wpAny_bind (wpAny_field he hd h1 ?_)
        rw [if_neg (by simp)]
        first
          | exact wpAny_bind (wpAny_pure (wpAny_bind flies))
          | exact wpAny_bind flies
      | @cons x bn b₀ rest np hp hds2 g l2 hc hbn hsu r ih =>
        rintro ⟨b, hb1, hyes, hno⟩
        refine wpAny_handleBy_cons (codeAny_handlers_test ?_) (by intro q; cases q)
        have LM := PySem.W.exm_one (M := model X.prog X.w) (J3.kIn) typ hb1
        have cname : ∀ {Q : Value → Shared → Prop} {E : Value → Shared → Prop}, Q g.cv { s' with heap := h3 } → wpAny (model X.prog X.w) (X.A.mark (some (.ref a))) (eval (.Name x np) X.env) Q E { s' with heap := h3 } := fun {Q E} q => by
          rcases hc with ⟨hg, hdbg, hm | ⟨hm, hv, hnn⟩⟩
          · exact ld_glob (X := X.suite a ((a, oe3) :: (X.pn ++ pins))) S3 hg hm q hdbg
          · exact ld_blt (X := X.suite a ((a, oe3) :: (X.pn ++ pins))) S3 hg hm hv q hnn hdbg
        refine cname (LM.here ?_)
        cases b with
        | false => show wpAny _ X.A (handleBy (.ref a) X.env hds2) _ _ _; exact ih (hno rfl)
        | true =>
          have hy := hyes rfl a na
          have land : ∀ {h4 : Heap}, HandSPX.FlyingZ B (X.env :: X.outer) a (Zc cls d) h4 → h3.UpToSlots h4 → ∃ oe4, Zc cls d oe4 ∧ (∃ vs, oe4.data = .fields vs) ∧ Inv (X.suite a ((a, oe4) :: (X.pn ++ pins))) [] σ1 H1 { s' with heap := h4 } := fun {h4} fl4 up4 => by
            have J4 : Inv X pins σ1 H1 { s' with heap := h4 } := J.landed nb fl4.1 ((up.trans up3).trans up4) os ag
            obtain ⟨oe4, vs4, he4, hz4, hd4⟩ := fl4.there
            exact ⟨oe4, hz4, ⟨_, hd4⟩, J4.suite he4 hd4 na nL nF⟩
          cases eb : g.bind with
          | none =>
            rw [eb] at hbn hy
            cases bn with
            | some n => exact hbn.elim
            | none =>
              refine codeAny_handlers_suite (HandSPX.lands_againZ fl3 fun h4 fl4 up4 => ?_)
              obtain ⟨oe4, hz4, hd4, S4⟩ := land fl4 up4
              refine wpAny_mono ((hsu a oe4 cls d (X.pn ++ pins) hz4 hd4).run [] _ _ H1 _ S4 hy) (fun f s6 hsp => ?_) (fun _ _ z => False.elim z)
              cases f with
              | ret u => obtain ⟨v6, σ6, H6, S6, r6, q6⟩ := hsp; exact ⟨_, _, _, S6.unsuite okX, r6, q6⟩
              | _ => obtain ⟨σ6, H6, S6, q6⟩ := hsp; exact ⟨_, _, S6.unsuite okX, q6⟩
          | some i =>
            rw [eb] at hbn hy
            cases bn with
            | none => exact hbn.elim
            | some n =>
              obtain ⟨hi, hln⟩ := hbn
              refine codeAny_handlers_suite_as (HandSPX.lands_againZ fl3 fun h4 fl4 up4 => ?_)
              obtain ⟨oe4, hz4, hd4, S4⟩ := land fl4 up4
              refine store_ok (X := X.suite a ((a, oe4) :: (X.pn ++ pins))) (v := .ref a) S4 hN hi (.inl hln) rfl (fun s5 S5 => ?_) (.inr hln)
              refine wpAny_mono ((hsu a oe4 cls d (X.pn ++ pins) hz4 hd4).run [] s5 _ H1 _ S5 hy) (fun f s6 hsp => ?_) (fun _ _ z => False.elim z)
              have off : ∀ {σ6 : L2.St} {H6 : Hp} {Q : Shared → Prop}, Inv (X.suite a ((a, oe4) :: (X.pn ++ pins))) [] σ6 H6 s6 → (∀ s7, Inv X pins (σ6.set i none) H6 s7 → Q s7) → wpAny (model X.prog X.w) X.A (do bindName X.env n .none; unbindBehindTheSuite X.env n hp) (fun _ s7 => Q s7) X.xe s6 :=
                fun {σ6 H6 Q} S6 hq => gone_ok (S6.unsuite okX) hN hi hln hq
              cases f with
              | ret u => obtain ⟨v6, σ6, H6, S6, r6, q6⟩ := hsp; exact off S6 fun s7 J7 => ⟨_, _, _, J7, r6, q6⟩
              | next => obtain ⟨σ6, H6, S6, q6⟩ := hsp; exact off S6 fun s7 J7 => ⟨_, _, J7, q6⟩
              | brk => obtain ⟨σ6, H6, S6, q6⟩ := hsp; exact off S6 fun s7 J7 => ⟨_, _, J7, q6⟩
              | cont => obtain ⟨σ6, H6, S6, q6⟩ := hsp; exact off S6 fun s7 J7 => ⟨_, _, J7, q6⟩
    exact all hh w
  · cases f with
    | next => exact wpAny_execs_nil (SP.ofTry (f := .next) okX hsp)
    | brk => exact SP.ofTry (f := .brk) okX hsp
    | cont => exact SP.ofTry (f := .cont) okX hsp
    | ret u => exact SP.ofTry (f := .ret u) okX hsp
end
end FL
/-! FL20: the soundness of statements: what stands around, readings, the single forms. -/
namespace FL
open PySem PySem.Spec PyProof.Rows L2

/-! ### what is known of exception classes -/
/-- what an own __init__ of an exception class promises: each field gets its argument -/
def spI (C : Addr) (fs : List Str) : Sp := fun vs H Q E => ∃ a ws, vs = .ref a :: ws ∧ ws.length = fs.length ∧ H a = some (exo a C none) ∧
  ∀ (H2 : Hp) (d : Addr) (kvs : List (Str × V)), H d = none → d ≠ a → H2 a = some (exo a C (some d)) → H2 d = some (exd d kvs) → (∀ b, b ≠ a → b ≠ d → H2 b = H b) →
    (∀ (i : Nat) (f : Str) (w : V), fs[i]? = some f → ws[i]? = some w → kvs.lookup f = some w) → Q .non H2
structure ExcOk (X : Cx) (k : Nat) (C : Addr) (fs : List Str) : Prop where
  sub : PySem.W.subIn X.K (.ref C) (.type "BaseException") = some true
  typ : PySem.W.typeIn X.K (.ref C) = some (.type "type")
  keep : PySem.W.keepIn X.K (.ref C) = true
  bare : fs = [] → PySem.W.excIn X.K C [.type "ValueError", .type "Exception", .type "BaseException", .type "object"] "ValueError.__new__" = true
  own : fs ≠ [] → OexC X.K C ∧ XfC X.K C ∧ (∀ f ∈ fs, PySem.W.findIn X.K (.ref C) f = some none) ∧ fs.length ≤ 900 ∧ ∃ (fI : Addr) (fd : FuncData) (ps : List Str) (j : Nat), j + 1 ≤ k ∧
    PySem.W.findIn X.K (.ref C) "__init__" = some (some (.ref fI)) ∧ PySem.W.typeIn X.K (.ref fI) = some (.type "function") ∧
    FnOk X.prog X.w X.K X.mg X.base (CX X.prog X.w) j fI fd ps (spI C fs) ∧ Binds X.K fd ps []
/-- what stands around a def's statements -/
structure SOk (G : GG) (X : Cx) (W : WX) (N : List Str) (sc : Scope) (k : Nat) : Prop extends COk G X W N sc k where
  passes : PassesOwn (model X.prog X.w) X.A X.env X.xe
  fn : X.fn = fun _ => true
  kind : X.env.scope.kind = .function
  stk : X.stack = X.env :: X.outer
  frm : X.env.frame = some X.env.locals
  exc : ∀ c fs, G.exs c = some fs → ∃ C, X.mg c = some (.ref C) ∧ ExcOk X k C fs
  hcl : ∀ x, G.hcs x = true → ∃ D, (X.mg x = some D ∨ (X.mg x = none ∧ bootBuiltins x = some D ∧ x ≠ "__name__")) ∧
    ∀ c fs C, G.exs c = some fs → X.mg c = some (.ref C) → PySem.W.exmOne X.K (.ref C) D = some (G.sub c x)
section
variable {G : GG} {X : Cx} {W : WX} {N : List Str} {sc : Scope} {k : Nat}
theorem SOk.tr (C : SOk G X W N sc k) {pn : List (Addr × Obj)} {xe : Value → Shared → Prop} {W' : WX} (tk : Takes (X.tr pn xe) W') (hp : PassesOwn (model X.prog X.w) X.A X.env xe) : SOk G (X.tr pn xe) W' N sc k where
  names := C.names
  nd := C.nd
  scope := C.scope
  calm := C.calm
  room := C.room
  takes := tk
  fns := C.fns
  cons := C.cons
  blt := C.blt
  blt2 := C.blt2
  passes := hp
  fn := C.fn
  kind := C.kind
  stk := C.stk
  frm := C.frm
  exc := fun c fs h => by
    obtain ⟨D, h1, h2⟩ := C.exc c fs h
    exact ⟨D, h1, h2.sub, h2.typ, h2.keep, h2.bare, h2.own⟩
  hcl := C.hcl

/-! ### readings -/
def GoodS (G : GG) (X : Cx) (W : WX) (H : Hp) (ad : List Addr) (r : RS) (D : Ends) : Prop := match r with
  | .ok .nx fr' mh' => ∀ σ' H' ad', Ext H ad H' ad' → SimX X H' ad' mh' → FrR X.K H' ad' fr' σ' → D.nx σ' H'
  | .ok .bk fr' mh' => ∀ σ' H' ad', Ext H ad H' ad' → SimX X H' ad' mh' → FrR X.K H' ad' fr' σ' → D.bk σ' H'
  | .ok .ct fr' mh' => ∀ σ' H' ad', Ext H ad H' ad' → SimX X H' ad' mh' → FrR X.K H' ad' fr' σ' → D.ct σ' H'
  | .ok (.rt p) _ mh' => ∀ v H' ad', Ext H ad H' ad' → SimX X H' ad' mh' → Rv X.K H' ad' p v → D.rt v H'
  | .exc c fr' mh' => ∀ cls d σ' H' ad', Ext H ad H' ad' → SimX X H' ad' mh' → FrR X.K H' ad' fr' σ' → ExR G X H' ad' c cls d → W cls d σ' H'
  | .bad => False
def tS (G : GG) (X : Cx) (W : WX) (m : Fr → MH → RS) : TS := fun D σ H => ∃ fr mh ad, SimX X H ad mh ∧ FrR X.K H ad fr σ ∧ GoodS G X W H ad (m fr mh) D
variable {H H' : Hp} {ad ad' : List Addr} {mh : MH} {fr : Fr} {σ : L2.St} {D : Ends}
theorem GoodS.mono {r : RS} (x : Ext H ad H' ad') (g : GoodS G X W H ad r D) : GoodS G X W H' ad' r D := by
  cases r with
  | ok f fr' mh' =>
    cases f with
    | rt p => exact fun v H2 ad2 y s r => g v H2 ad2 (x.trans y) s r
    | _ => exact fun σ' H2 ad2 y s r => g σ' H2 ad2 (x.trans y) s r
  | exc c fr' mh' => exact fun cls d σ' H2 ad2 y s r e => g cls d σ' H2 ad2 (x.trans y) s r e
  | bad => exact g
theorem GoodS.of {α β : Type} {R : Hp → List Addr → α → β → Prop} {r : Res α} {kk : α → MH → RS} (g : GoodS G X W H ad (RS.of r fr kk) D) :
    Good G X R W σ fr H ad r (fun b H1 => ∃ a mh1 ad1, Ext H ad H1 ad1 ∧ SimX X H1 ad1 mh1 ∧ R H1 ad1 a b ∧ GoodS G X W H1 ad1 (kk a mh1) D) := by
  cases r with
  | ok a mh1 => exact fun b H1 ad1 x s r => ⟨a, mh1, ad1, x, s, r, GoodS.mono x g⟩
  | exc c mh1 => exact fun cls d H1 ad1 x s f e => g cls d σ H1 ad1 x s f e
  | bad => exact g
theorem GoodS.nxt {mh' : MH} {fr' : Fr} {σ' : L2.St} (g : GoodS G X W H ad (.ok .nx fr' mh') D) (s : SimX X H ad mh') (f : FrR X.K H ad fr' σ') : D.nx σ' H := g σ' H ad (Ext.refl _ _) s f
theorem ps_imp {st : Stmt} {t t' : TS} (h : PS X st t) (kk : ∀ D σ H, t' D σ H → t D σ H) : PS X st t' := ⟨fun pins s σ H D I hw => h.run pins s σ H D I (kk D σ H hw)⟩
theorem pss_imp {st : List Stmt} {t t' : TS} (h : PSs X st t) (kk : ∀ D σ H, t' D σ H → t D σ H) : PSs X st t' := ⟨fun pins s σ H D I hw => h.run pins s σ H D I (kk D σ H hw)⟩
/-- another wish behind a normal end -/
theorem GoodS.ends {r : RS} {D' : Ends} (g : match r with
    | .ok .nx fr2 h2 => ∀ σ' H' ad', Ext H ad H' ad' → SimX X H' ad' h2 → FrR X.K H' ad' fr2 σ' → D'.nx σ' H'
    | .ok .ct fr2 h2 => ∀ σ' H' ad', Ext H ad H' ad' → SimX X H' ad' h2 → FrR X.K H' ad' fr2 σ' → D'.ct σ' H'
    | .ok .bk fr2 h2 => ∀ σ' H' ad', Ext H ad H' ad' → SimX X H' ad' h2 → FrR X.K H' ad' fr2 σ' → D'.bk σ' H'
    | .ok (.rt p) fr2 h2 => GoodS G X W H ad (.ok (.rt p) fr2 h2) D'
    | .exc c fr2 h2 => GoodS G X W H ad (.exc c fr2 h2) D'
    | .bad => False) : GoodS G X W H ad r D' := by
  cases r with
  | ok f fr' mh' => cases f <;> exact g
  | exc c fr' mh' => exact g
  | bad => exact g

/-! ### small statements -/
theorem sw_not {e : Expr} {t : Option Expr} {l : Nat} {env : Env} (h : notComp e = true) : swapsWith e t l env = pure false := by
  cases e <;> first | rfl | simp [notComp] at h
theorem sole_not {e t : Expr} {l : Nat} {env : Env} (h : notComp e = true) : swapsWithSole [t] e l env = pure false := by
  cases e <;> first | rfl | simp [notComp] at h
theorem ss_expr {e : Expr} {m : Fr → M PV} {pos : Pos} (he : PE X e (tM G X W m)) (h : notComp e = true) : PS X (.Expr e pos) (tS G X W fun fr h => RS.of (m fr h) fr fun _ h1 => .ok .nx fr h1) :=
  ps_imp (ps_expr he (sw_not h)) fun D σ H ⟨fr, mh, ad, hs, hf, g⟩ => ⟨fr, mh, ad, hs, hf, (g.of (R := RvX X)).imp fun v H1 ⟨x, mh1, ad1, x1, s1, r1, g1⟩ => g1.nxt s1 (hf.mono x1)⟩
theorem asg_conv {i : Nat} {m : Fr → M PV} {D : Ends} {σ : L2.St} {H : Hp} (h : tS G X W (fun fr h => RS.of (m fr h) fr fun v h1 => .ok .nx (fr.set i (some v)) h1) D σ H) : tM G X W m σ H fun x H1 => gName i x σ H1 D.nx := by
  obtain ⟨fr, mh, ad, hs, hf, g⟩ := h
  exact ⟨fr, mh, ad, hs, hf, (g.of (R := RvX X)).imp fun v H1 ⟨x, mh1, ad1, x1, s1, r1, g1⟩ => g1.nxt s1 ((hf.mono x1).set i r1)⟩
theorem ss_asg (C : SOk G X W N sc k) {y : Str} {py pos : Pos} {i : Nat} {e : Expr} {m : Fr → M PV} (hy : N[i]? = some y) (hl : locB sc (fun _ => true) y = true) (he : PE X e (tM G X W m)) (hsw : swapsWith e (some (.Name y py)) pos.line X.env = pure false) :
    PS X (.Assign [.Name y py] e pos) (tS G X W fun fr h => RS.of (m fr h) fr fun v h1 => .ok .nx (fr.set i (some v)) h1) := by
  obtain ⟨l1, l2⟩ := loc_of C.scope C.fn hl
  exact ps_imp (ps_set (by rw [C.names]; exact C.nd) (by rw [C.names]; exact hy) l1 he hsw l2) fun D σ H h => asg_conv h
theorem ss_tas (C : SOk G X W N sc k) {is : List Nat} {tg e : Expr} {m : Fr → M PV} {pos : Pos} (ht : okT N sc (fun _ => true) (.tup is) tg = true) (he : PE X e (tM G X W m)) (h1 : notTup e = true) (h2 : notComp e = true) :
    PS X (.Assign [tg] e pos) (tS G X W fun fr h => RS.of (m fr h) fr fun v h1 => match setT (.tup is) v fr with
      | some fr1 => .ok .nx fr1 h1
      | none => .bad) := by
  have hg := pg_ok C.calm C.names C.nd C.scope C.fn ht
  have hw : swappedStores [tg] e X.env = pure none := by
    cases tg <;> simp only [okT, Bool.false_eq_true] at ht
    cases e <;> first | rfl | simp [notTup] at h1
  have h3 : (assignEach [tg] X.env).map (·.2) = [assign tg X.env] := by
    cases tg <;> simp only [okT, Bool.false_eq_true] at ht
    rfl
  refine ps_imp (ps_asg he hg (sole_not h2) hw h3) fun D σ H ⟨fr, mh, ad, hs, hf, g⟩ => ⟨fr, mh, ad, hs, hf, (g.of (R := RvX X)).imp fun v H1 ⟨x, mh1, ad1, x1, s1, r1, g1⟩ => ?_⟩
  cases es : setT (.tup is) x fr with
  | none => simp only [es] at g1; exact g1.elim
  | some fr1 =>
    simp only [es] at g1
    exact g_ok es (hf.mono x1) r1 fun σ' hf' _ => g1.nxt s1 hf'
theorem ss_sst (C : SOk G X W N sc k) {o i e : Expr} {mo mi m : Fr → M PV} {p pos : Pos} (ho : PE X o (tM G X W mo)) (hi : PE X i (tM G X W mi)) (he : PE X e (tM G X W m)) (hsl : notSl i = true) (hn : notComp e = true) :
    PS X (.Assign [.Subscript o i p] e pos) (tS G X W fun fr h => RS.of ((m fr >>= fun v => mo fr >>= fun ov => mi fr >>= fun iv => ((setM ov iv v).nx : M Unit)) h) fr fun _ h1 => .ok .nx fr h1) := by
  have hset : PSet X (fun o i v H Q => ∃ po pi pv mh ad, SimX X H ad mh ∧ Rv X.K H ad po o ∧ Rv X.K H ad pi i ∧ Rv X.K H ad pv v ∧ GU X H ad (setM po pi pv mh) Q) :=
    fun pins s σ H o i v ov iv u Q I ro ri rv ⟨po, pi, pv, mh, ad, hs, h1, h2, h3, g⟩ => set_ok C.units I hs ro ri rv h1 h2 h3 g
  have hg := pg_sub (pos := p) ho hi hset (by cases i <;> first | (intro _; rfl) | simp [notSl] at hsl)
  refine ps_imp (ps_asg he hg (sole_not hn) (by cases e <;> rfl) rfl) fun D σ H ⟨fr, mh, ad, hs, hf, g⟩ => ?_
  have g0 := (g.of (σ := σ) (R := fun _ _ (_ : Unit) (_ : Unit) => True)).bind (R := RvX X)
  refine ⟨fr, mh, ad, hs, hf, g0.imp fun v H1 ⟨x, mh1, ad1, x1, s1, r1, g1⟩ => ?_⟩
  refine ⟨fr, mh1, ad1, s1, hf.mono x1, g1.bind.imp fun ov H2 ⟨y, mh2, ad2, x2, s2, r2, g2⟩ => ?_⟩
  refine ⟨fr, mh2, ad2, s2, hf.mono (x1.trans x2), g2.bind.imp fun iv H3 ⟨z, mh3, ad3, x3, s3, r3, g3⟩ => ?_⟩
  refine ⟨y, z, x, mh3, ad3, s3, Rv.mono x3 _ _ r2, r3, Rv.mono (x2.trans x3) _ _ r1, ?_⟩
  have g4 := g3.nx
  have x13 := x1.trans (x2.trans x3)
  unfold GU
  revert g4
  generalize setM y z x mh3 = rr
  intro g4
  cases rr with
  | ok u mh4 =>
    intro b H4 ad4 x4 s4 _
    obtain ⟨a5, mh5, ad5, x5, s5, _, g5⟩ := g4 b H4 ad4 x4 s4 trivial
    exact g5.nxt s5 (hf.mono x5)
  | exc c h' => exact g4.elim
  | bad => exact g4.elim
theorem ss_aug (C : SOk G X W N sc k) {y : Str} {py pos : Pos} {i : Nat} {e : Expr} {m : Fr → M PV} (hy : N[i]? = some y) (hl : locB sc (fun _ => true) y = true) (he : PE X e (tM G X W m)) :
    PS X (.AugAssign (.Name y py) .Add e pos) (tS G X W fun fr h => match fr[i]? with
      | some (some (.int a)) => RS.of (m fr h) fr fun v h1 => match v with
        | .int b => .ok .nx (fr.set i (some (.int (a + b)))) h1
        | _ => .bad
      | _ => .bad) := by
  obtain ⟨l1, l2⟩ := loc_of C.scope C.fn hl
  refine ps_imp (ps_aug (by rw [C.names]; exact C.nd) (by rw [C.names]; exact hy) l1 he ip_add l2) fun D σ H ⟨fr, mh, ad, hs, hf, g⟩ => ?_
  dsimp only at g
  split at g
  · rename_i a ea
    obtain ⟨v, e1, e2⟩ := hf.2 i _ ea
    simp only [Rv] at e2; subst e2
    refine ⟨_, e1, fr, mh, ad, hs, hf, (g.of (R := RvX X)).imp fun v H1 ⟨x, mh1, ad1, x1, s1, r1, g1⟩ => ?_⟩
    cases x with
    | int b =>
      simp only [RvX, Rv] at r1; subst r1
      exact ⟨a, b, rfl, rfl, g1.nxt s1 ((hf.mono x1).set i (by simp [Rv]))⟩
    | _ => exact g1.elim
  · exact g.elim
theorem ss_ret {e : Expr} {m : Fr → M PV} {pos : Pos} (he : PE X e (tM G X W m)) : PS X (.Return (some e) pos) (tS G X W fun fr h => RS.of (m fr h) fr fun v h1 => .ok (.rt v) fr h1) :=
  ps_imp (ps_ret he) fun D σ H ⟨fr, mh, ad, hs, hf, g⟩ => ⟨fr, mh, ad, hs, hf, (g.of (R := RvX X)).imp fun v H1 ⟨x, mh1, ad1, x1, s1, r1, g1⟩ => g1 v H1 ad1 (Ext.refl _ _) s1 r1⟩
theorem ss_retN {pos : Pos} : PS X (.Return none pos) (tS G X W fun fr h => .ok (.rt .non) fr h) :=
  ps_imp ps_retN fun D σ H ⟨fr, mh, ad, hs, hf, g⟩ => g _ H ad (Ext.refl _ _) hs (by simp [Rv])
theorem ss_if {c : Expr} {a b : List Stmt} {m : Fr → M Bool} {ma mb : Fr → MH → RS} {pos : Pos} (hc : PT X c (tMt G X W m)) (ha : PSs X a (tS G X W ma)) (hb : PSs X b (tS G X W mb)) :
    PS X (.If c a b pos) (tS G X W fun fr h => RS.of (m fr h) fr fun k h1 => if k then ma fr h1 else mb fr h1) :=
  ps_imp (ps_if hc ha hb) fun D σ H ⟨fr, mh, ad, hs, hf, g⟩ => ⟨fr, mh, ad, hs, hf, (g.of (R := fun _ _ (a : Bool) b => a = b)).imp fun v H1 ⟨x, mh1, ad1, x1, s1, r1, g1⟩ => by
    subst r1
    cases x with
    | true => rw [if_pos rfl] at g1 ⊢; exact ⟨fr, mh1, ad1, s1, hf.mono x1, g1⟩
    | false => rw [if_neg Bool.false_ne_true] at g1 ⊢; exact ⟨fr, mh1, ad1, s1, hf.mono x1, g1⟩⟩
theorem ss_while (C : SOk G X W N sc k) {c : Expr} {body : List Stmt} {m : Fr → M Bool} {mb : Fr → MH → RS} {pos : Pos} {n : Nat} (hc : PT X c (tMt G X W m)) (hb : PSs X body (tS G X W mb)) :
    PS X (.While c body [] pos) (tS G X W fun fr h => whlR0 m mb n fr h) := by
  refine ps_imp (ps_while C.passes hc hb) fun D σ H ⟨fr, mh, ad, hs, hf, g⟩ => ?_
  refine ⟨fun n σ H => ∃ fr mh ad, SimX X H ad mh ∧ FrR X.K H ad fr σ ∧ GoodS G X W H ad (whlR0 m mb n fr mh) D, ⟨n, fr, mh, ad, hs, hf, g⟩, ?_⟩
  rintro j σ H ⟨fr, mh, ad, hs, hf, g⟩
  cases j with
  | zero => exact g.elim
  | succ j =>
    unfold whlR0 at g
    refine ⟨fr, mh, ad, hs, hf, (g.of (R := fun _ _ (a : Bool) b => a = b)).imp fun v H1 ⟨x, mh1, ad1, x1, s1, r1, g1⟩ => ?_⟩
    subst r1
    cases x with
    | false => rw [if_neg Bool.false_ne_true] at g1 ⊢; exact g1.nxt s1 (hf.mono x1)
    | true =>
      rw [if_pos rfl] at g1 ⊢
      refine ⟨fun σ H => ∃ fr mh ad, SimX X H ad mh ∧ FrR X.K H ad fr σ ∧ GoodS G X W H ad (whlR0 m mb j fr mh) D, fun σ' H' h => ⟨j, Nat.lt_succ_self j, h⟩, fr, mh1, ad1, s1, hf.mono x1, GoodS.ends ?_⟩
      cases er : mb fr mh1 with
      | ok f fr2 h2 =>
        rw [er] at g1
        cases f with
        | nx => exact fun σ' H' ad' x s f => ⟨fr2, h2, ad', s, f, g1.mono x⟩
        | ct => exact fun σ' H' ad' x s f => ⟨fr2, h2, ad', s, f, g1.mono x⟩
        | bk => exact fun σ' H' ad' x s f => g1 σ' H' ad' x s f
        | rt p => exact g1
      | exc c fr2 h2 => rw [er] at g1; exact g1
      | bad => rw [er] at g1; exact g1
theorem ss_for (C : SOk G X W N sc k) {tg it : Expr} {body : List Stmt} {t : CT} {mi : Fr → M IT} {mb : Fr → MH → RS} {pos : Pos} (hi : PI X tg it (iM G X W mi)) (hset : notSet it = true) (ht : okT N sc (fun _ => true) t tg = true) (hb : PSs X body (tS G X W mb)) :
    PS X (.For tg it body [] pos) (tS G X W fun fr h => RS.of (mi fr h) fr fun I h1 => forR0 I t mb (I.fuel h1) 0 fr h1) := by
  have hg := pg_ok C.calm C.names C.nd C.scope C.fn ht
  refine ps_imp (ps_for C.passes C.calm hi hg hb (folded hset)) fun D σ H ⟨fr, mh, ad, hs, hf, g⟩ => ⟨fr, mh, ad, hs, hf, (g.of (R := fun H ad t J => JOk X H ad t J)).imp fun J H1 ⟨I, mh1, ad1, x1, s1, jok, g1⟩ => ?_⟩
  refine ⟨fun i m σ H => ∃ fr h ad2, Ext H1 ad1 H ad2 ∧ SimX X H ad2 h ∧ FrR X.K H ad2 fr σ ∧ GoodS G X W H ad2 (forR0 I t mb m i fr h) D, ⟨_, fr, mh1, ad1, Ext.refl _ _, s1, hf.mono x1, g1⟩, ?_⟩
  rintro i m σ2 H2 ⟨fr2, h, ad2, x3, s3, f3, g3⟩
  cases m with
  | zero => exact g3.elim
  | succ f =>
    unfold forR0 at g3
    obtain ⟨j1, j2⟩ := jok i H2 ad2 h x3 s3
    cases ea : I.at i h with
    | none => simp only [ea] at g3; exact g3.elim
    | some o =>
      cases o with
      | none => simp only [ea] at g3; exact .inl ⟨j1 ea, g3.nxt s3 f3⟩
      | some p =>
        simp only [ea] at g3
        obtain ⟨go, jy⟩ := j2 p ea
        refine .inr ⟨go, fun σ H => ∃ fr h ad2, Ext H1 ad1 H ad2 ∧ SimX X H ad2 h ∧ FrR X.K H ad2 fr σ ∧ GoodS G X W H ad2 (forR0 I t mb f (i + 1) fr h) D, fun σ' H' h => ⟨f, Nat.lt_succ_self f, h⟩, fun x H3 y3 => ?_⟩
        obtain ⟨x4, s4, r4⟩ := jy x H3 y3
        have x34 := x3.trans x4
        cases et : setT t p fr2 with
        | none => simp only [et] at g3; exact g3.elim
        | some fr3 =>
          simp only [et] at g3
          refine g_ok et (f3.mono x4) r4 fun σ' hf1 _ => ⟨fr3, h, ad2, s4, hf1, GoodS.ends ?_⟩
          have g4 := g3.mono x4
          cases er : mb fr3 h with
          | ok fl fr4 h4 =>
            rw [er] at g4
            cases fl with
            | nx => exact fun σ' H' ad' x s f => ⟨fr4, h4, ad', x34.trans x, s, f, g4.mono x⟩
            | ct => exact fun σ' H' ad' x s f => ⟨fr4, h4, ad', x34.trans x, s, f, g4.mono x⟩
            | bk => exact fun σ' H' ad' x s f => g4 σ' H' ad' x s f
            | rt p => exact g4
          | exc c fr4 h4 => rw [er] at g4; exact g4
          | bad => rw [er] at g4; exact g4
end
end FL
/-! FL21: the soundness of statements: raise, try. -/
namespace FL
open PySem PySem.Spec PyProof.Rows L2

section
variable {G : GG} {X : Cx} {W : WX} {N : List Str} {sc : Scope} {k : Nat}
/-! ### raise -/
/-- an own exception class called with nothing -/
theorem pmk_bare {C : Addr} {bmB : List Value} {B newId initId : String} {x : Str} {p pos : Pos} (F : ExcBaseFacts B newId initId bmB) (q : PySem.W.excIn X.K C bmB newId = true) (gC : X.mg x = some (.ref C)) (kC : PySem.W.keepIn X.K (.ref C) = true) (r : Raises X (.ref C)) (hg : Gl X x)
    (hdb : (x == ("__debug__" : Str)) = false) : PMk X (.Call (.Name x p) [] [] pos) (fun _ H Q => Q (.ref C) none H) := by
  intro pins s σ H Q I h
  refine wpAny_Call_Name_kw (ld_glob I hg gC ?_ hdb)
  refine PySem.W.callWith_K0 I.kIn kC ?_
  show wpAny _ _ (call (.ref C) []) _ _ _
  obtain ⟨bm, N, nm, qn, bs, hdct, sn, sub, ab, col, dd, k0, k1, k2, k3, k5, mN, hC, hN, hni, T⟩ := exc_obj I.kIn q
  refine wpAny_call_exc_subT F T hC hN hni (fun h' e hm => ?_) (by show 0 ≤ sizeLine; omega)
  exact mk_of I hm r h (I.hok.gone hm.new)
theorem upd_del {H2 H1 : Hp} {a d : Addr} {u : HO} (ha : H1 a = none) (h : ∀ b, b ≠ a → b ≠ d → H2 b = H1 b) : upd (del H2 a) d u = upd H1 d u := by
  funext b
  by_cases hd : b = d
  · subst hd; rw [upd_same, upd_same]
  · rw [upd_ne hd, upd_ne hd]
    by_cases hb : b = a
    · subst hb; rw [del_same, ha]
    · rw [del_ne hb, h b hb hd]
theorem okEs_len : ∀ {cs : CEs} {es : List Expr}, okEs N cs sc es = true → cs.len = es.length
  | .nil, [], _ => rfl
  | .nil, _ :: _, h => by simp [okEs] at h
  | .cons c cs, [], h => by simp [okEs] at h
  | .cons c cs, e :: es, h => by
    simp only [okEs, Bool.and_eq_true] at h
    simp only [CEs.len, List.length_cons, okEs_len h.2]
theorem ps_no {st : Stmt} {t : TS} (h : ∀ D σ H, ¬ t D σ H) : PS X st t := ⟨fun _ _ _ _ _ _ z => (h _ _ _ z).elim⟩
theorem ss_rse (C : SOk G X W N sc k) {c : Str} {cs : CEs} {es : List Expr} {ms : Fr → M (List PV)} {p pos pos' : Pos} (hg : glB sc c = true) (hok : okEs N cs sc es = true) (ha : PA X es (tMs G X W ms)) (hnil : es = [] → ms = fun _ => M.ret []) :
    PS X (.Raise (some (.Call (.Name c p) es [] pos')) none pos) (tS G X W fun fr h => match G.exs c with
      | some fs => if cs.len = fs.length then RS.of (ms fr h) fr fun xs h1 => if xs.length = fs.length ∧ xs.length ≤ 900 then .exc ⟨c, xs⟩ fr h1 else .bad
        else .bad
      | none => .bad) := by
  obtain ⟨hgl, hdb⟩ := gl_of C.scope hg
  cases ex : G.exs c with
  | none => exact ps_no fun D σ H ⟨fr, mh, ad, hs, hf, g⟩ => g
  | some fs =>
    obtain ⟨A, hm, eo⟩ := C.exc c fs ex
    by_cases hl : cs.len = fs.length
    · simp only [hl, if_true]
      have rz : Raises X (.ref A) := raises_own eo.sub eo.typ
      cases es with
      | nil =>
        have hc0 : cs.len = 0 := okEs_len hok
        have hf0 : fs = [] := List.length_eq_zero_iff.mp (by omega)
        refine ps_imp (ps_raise C.calm C.takes (pmk_bare F.excBase_ValueError (eo.bare hf0) hm eo.keep rz hgl hdb)) fun D σ H ⟨fr, mh, ad, hs, hf, g⟩ => ?_
        rw [hnil rfl] at g
        subst hf0
        exact g (.ref A) none σ H ad (Ext.refl _ _) hs hf ⟨A, [], hm, rfl, ex, rfl, fun _ => rfl, fun z => absurd rfl z⟩
      | cons e es =>
        have hc1 : cs.len = es.length + 1 := okEs_len hok
        have hf0 : fs ≠ [] := fun z => by rw [z] at hl; simp at hl; omega
        obtain ⟨T, TX, hno, h900, fI, fd, ps, j, hj, iC, tI, fo, hb⟩ := eo.own hf0
        cases cs with
        | nil => simp [okEs] at hok
        | cons cc cs =>
          have hok' := hok
          simp only [okEs, Bool.and_eq_true] at hok'
          refine ps_imp (ps_raise C.calm C.takes (pmk_oex (ds := []) (dvs := []) T iC tI fo (C.room.mono hj) hb .nil passL hgl hm ha hdb (star_cons (okE_star hok'.1)) (star_plain hok'.2))) fun D σ H ⟨fr, mh, ad, hs, hf, g⟩ => ?_
          refine ⟨fr, mh, ad, hs, hf, (g.of (R := fun H ad (a : List PV) b => Rvs X.K H ad a b)).imp fun vs H1 ⟨xs, mh1, ad1, x1, s1, r1, g1⟩ => ?_⟩
          have hlen : xs.length = fs.length ∧ xs.length ≤ 900 := by
            by_cases z : xs.length = fs.length ∧ xs.length ≤ 900
            · exact z
            · simp only [z, if_false] at g1; exact g1.elim
          have g2 : GoodS G X W H1 ad1 (.exc ⟨c, xs⟩ fr mh1) D := by
            rw [if_pos hlen] at g1; exact g1
          refine ⟨by rw [r1.length]; omega, fun a ha1 => ?_⟩
          refine ⟨a, vs, by rw [List.append_nil], by rw [r1.length]; exact hlen.1, upd_same, fun H2 d kvs hd hda e1 e2 hrest hfl => ?_⟩
          rw [upd_ne hda] at hd
          refine ⟨rfl, d, kvs, e1, e2, hd, ?_⟩
          rw [upd_del ha1 fun b hb hbd => by rw [hrest b hb hbd, upd_ne hb]]
          refine g2 (.ref A) (some d) σ _ ad1 (ext_tup hd) (s1.tup hd) ((hf.mono x1).mono (ext_tup hd)) ⟨A, fs, hm, rfl, ex, hlen.1.symm, fun z => absurd z hf0, fun _ => ⟨d, kvs, rfl, upd_same, fun i f q ei eq => ?_⟩⟩
          obtain ⟨v, ev, rv⟩ := r1.get eq
          exact ⟨v, hfl i f v ei ev, Rv.mono (ext_tup hd) _ _ rv⟩
    · simp only [hl, if_false]
      exact ps_no fun D σ H ⟨fr, mh, ad, hs, hf, g⟩ => g

/-! ### what an except suite hands back -/
/-- what is known of the caught error -/
def XK0 (G : GG) (X : Cx) (b : Option Nat) (a : Addr) (cls : Value) (d : Option Addr) (σ : L2.St) (H : Hp) (ad : List Addr) (c : Exc) (fs : List Str) : Prop := G.exs c.cls = some fs ∧ ExR G X H ad c cls d ∧ ∀ i, b = some i → σ[i]? = some (some (.ref a))
def tHI (G : GG) (X : Cx) (b : Option Nat) (a : Addr) (cls : Value) (d : Option Addr) (h : HI) : TE := fun σ H Q => ∃ ad c fs p, XK0 G X b a cls d σ H ad c fs ∧ evHI fs c.args h = some p ∧ ∀ v, Rv X.K H ad p v → Q v H
def tHIs (G : GG) (X : Cx) (b : Option Nat) (a : Addr) (cls : Value) (d : Option Addr) (h : List HI) : TA := fun σ H Q => ∃ ad c fs ps, XK0 G X b a cls d σ H ad c fs ∧ evHIs fs c.args h = some ps ∧ ∀ vs, Rvs X.K H ad ps vs → Q vs H
variable {b : Option Nat} {bn : Option Str} {a : Addr} {oe : Obj} {cls : Value} {d : Option Addr} {pn : List (Addr × Obj)}
theorem idxOf_get {g : Str} : ∀ {fs : List Str}, g ∈ fs → fs[idxOf g fs]? = some g
  | [], h => by simp at h
  | x :: xs, h => by
    unfold idxOf
    by_cases hx : x = g
    · simp [hx]
    · simp only [hx, if_false, List.getElem?_cons_succ]
      exact idxOf_get (by simpa [Ne.symm hx] using h)
theorem okHI_star {x : Option Str} {h : HI} {e : Expr} (q : okHI x h e = true) : notStar e = true := by
  cases e <;> first | rfl | (cases h <;> simp [okHI] at q)
theorem hi_ok (C : SOk G X W N sc k) (hz : Zc cls d oe) (hd : ∃ vs, oe.data = .fields vs) (hb : okBind N sc b bn = true) {h : HI} {e : Expr} (q : okHI bn h e = true) : PE (X.suite a ((a, oe) :: pn)) e (tHI G X b a cls d h) := by
  cases h with
  | cst c =>
    cases e <;> simp only [okHI, Bool.false_eq_true] at q
    rename_i kc j pos
    cases c <;> cases kc <;> simp only [cstB, Bool.false_eq_true, beq_iff_eq, decide_eq_true_eq] at q
    · exact pe_imp pe_non fun σ H Q ⟨ad, c, fs, p, k0, ep, hq⟩ => by simp only [evHI, Option.some.injEq] at ep; subst ep; exact hq _ (by simp [Rv])
    · subst q; exact pe_imp pe_bl fun σ H Q ⟨ad, c, fs, p, k0, ep, hq⟩ => by simp only [evHI, Option.some.injEq] at ep; subst ep; exact hq _ (by simp [Rv])
    · subst q; exact pe_imp pe_int fun σ H Q ⟨ad, c, fs, p, k0, ep, hq⟩ => by simp only [evHI, Option.some.injEq] at ep; subst ep; exact hq _ (by simp [Rv])
    · subst q; exact pe_imp pe_str fun σ H Q ⟨ad, c, fs, p, k0, ep, hq⟩ => by simp only [evHI, Option.some.injEq] at ep; subst ep; exact hq _ (by simp [Rv])
  | fld f =>
    cases e with
    | Attribute o g pos =>
      cases o with
      | Name n np =>
        simp only [okHI, Bool.and_eq_true, decide_eq_true_eq] at q
        obtain ⟨rfl, rfl⟩ := q
        cases b with
        | none => simp [okBind] at hb
        | some i =>
          simp only [okBind, Bool.and_eq_true, decide_eq_true_eq, Bool.not_eq_true', beq_iff_eq] at hb
          obtain ⟨⟨⟨hi, hl⟩, h1⟩, h2⟩ := hb
          refine ⟨fun pins s σ H Q I ⟨ad, c, fs, p, ⟨ex, er, hσ⟩, ep, hq⟩ => ?_⟩
          unfold evHI at ep
          have hmem : g ∈ fs := by
            by_cases z : g ∈ fs
            · exact z
            · simp only [z, if_false] at ep; cases ep
          simp only [hmem, if_true] at ep
          obtain ⟨A, fs', hm, hcls, ex', hlen, _, hown⟩ := er
          rw [ex] at ex'; cases ex'
          have hne : fs ≠ [] := List.ne_nil_of_mem hmem
          obtain ⟨dd, kvs, hdd, hHd, hk⟩ := hown hne
          obtain ⟨A2, hm2, eo⟩ := C.exc _ _ ex
          rw [hm] at hm2; cases hm2
          obtain ⟨_, TX, hno, _⟩ := eo.own hne
          have hix : fs[idxOf g fs]? = some g := idxOf_get hmem
          obtain ⟨v, hv, rv⟩ := hk _ g p hix ep
          exact (pe_xf TX (hno g hmem) hz hd (pe_var (X := X.suite a ((a, oe) :: pn)) (i := i) (by show X.N[i]? = some n; rw [C.names]; exact hi) (by show Vis X.env.scope n; rw [C.scope]; exact .inl hl) (by simpa using h1) (by simpa using h2)) rfl).run pins s σ H Q I
            ⟨_, hσ i rfl, rfl, hcls, dd, kvs, v, hdd, hHd, hv, hq v rv⟩
      | _ => simp [okHI] at q
    | _ => simp [okHI] at q
theorem his_ok (C : SOk G X W N sc k) (hz : Zc cls d oe) (hd : ∃ vs, oe.data = .fields vs) (hb : okBind N sc b bn = true) : ∀ {hs : List HI} {es : List Expr}, okHIs bn hs es = true → PA (X.suite a ((a, oe) :: pn)) es (tHIs G X b a cls d hs)
  | [], [], _ => pa_imp pa_nil fun σ H Q ⟨ad, c, fs, ps, k0, ep, hq⟩ => by
    simp only [evHIs, Option.some.injEq] at ep; subst ep
    exact hq [] Rvs.nil
  | [], _ :: _, q => by simp [okHIs] at q
  | _ :: _, [], q => by simp [okHIs] at q
  | h :: hs, e :: es, q => by
    simp only [okHIs, Bool.and_eq_true] at q
    refine pa_imp (pa_cons (hi_ok C hz hd hb q.1) (his_ok C hz hd hb q.2) (star_cons (okHI_star q.1))) fun σ H Q ⟨ad, c, fs, ps, k0, ep, hq⟩ => ?_
    unfold evHIs at ep
    split at ep
    · rename_i p ps' e1 e2
      cases ep
      exact ⟨ad, c, fs, p, k0, e1, fun v rv => ⟨ad, c, fs, ps', k0, e2, fun vs rvs => hq _ (Rvs.cons rv rvs)⟩⟩
    · cases ep
def tHS (G : GG) (X : Cx) (W : WX) (b : Option Nat) (s : HS) : Addr → Value → Option Addr → TS := fun a cls d D σ H => ∃ fr mh ad c fs, SimX X H ad mh ∧ XK0 G X b a cls d σ H ad c fs ∧ GoodS G X W H ad (evHS G c s fr mh) D
theorem hs_ok (C : SOk G X W N sc k) (hz : Zc cls d oe) (hd : ∃ vs, oe.data = .fields vs) (hb : okBind N sc b bn = true) {s : HS} {e : Expr} {pos : Pos} (q : okHS bn s e = true) : PSs (X.suite a ((a, oe) :: pn)) [.Return (some e) pos] (tHS G X W b s a cls d) := by
  cases s with
  | one h =>
    simp only [okHS] at q
    refine pss_imp (pss_one (ps_ret (hi_ok C hz hd hb q))) fun D σ H ⟨fr, mh, ad, c, fs, hs, k0, g⟩ => ?_
    unfold evHS at g
    rw [k0.1] at g
    simp only at g
    cases ep : evHI fs c.args h with
    | none => rw [ep] at g; exact g.elim
    | some p =>
      rw [ep] at g
      exact ⟨ad, c, fs, p, k0, ep, fun v rv => g v H ad (Ext.refl _ _) hs rv⟩
  | tup hs' =>
    cases e <;> simp only [okHS, Bool.false_eq_true] at q
    refine pss_imp (pss_one (ps_ret (pe_tup (his_ok C hz hd hb q)))) fun D σ H ⟨fr, mh, ad, c, fs, hs, k0, g⟩ => ?_
    unfold evHS at g
    rw [k0.1] at g
    simp only at g
    cases ep : evHIs fs c.args hs' with
    | none => rw [ep] at g; exact g.elim
    | some ps =>
      rw [ep] at g
      simp only at g
      split at g
      · rename_i hl
        refine ⟨ad, c, fs, ps, k0, ep, fun vs rv => ⟨by rw [rv.length, big_eq]; exact hl, fun p hp => g (.ref p) _ ad (ext_tup hp) (hs.tup hp) ?_⟩⟩
        simp only [Rv]
        exact ⟨p, vs, rfl, SqT.of upd_same, rv.mono (ext_tup hp)⟩
      · exact g.elim
  | emp =>
    cases e with
    | List es lp =>
      cases es with
      | nil =>
        refine pss_imp (pss_one (ps_ret (pe_lst pa_nil))) fun D σ H ⟨fr, mh, ad, c, fs, hs, k0, g⟩ => ?_
        unfold evHS at g
        rw [k0.1] at g
        refine ⟨Nat.zero_le _, fun p hp => ?_⟩
        obtain ⟨x, s'⟩ := hs.push (o := .lst []) (u := .lst []) hp fun x => ⟨[], upd_same, Rvs.nil⟩
        refine g (.ref p) _ _ x s' ?_
        simp only [Rv]
        exact ⟨p, rfl, by rw [← hs.len]; simp⟩
      | cons e es => simp [okHS] at q
    | _ => simp [okHS] at q
theorem GoodS.rtOnly {r : RS} {D D' : Ends} {H : Hp} {ad : List Addr} (g : GoodS G X W H ad r D) (h : (∃ p fr h, r = .ok (.rt p) fr h) ∨ r = .bad) (e : D'.rt = D.rt) : GoodS G X W H ad r D' := by
  rcases h with ⟨p, fr, h, rfl⟩ | rfl
  · exact fun v H' ad' x s rv => by rw [e]; exact g v H' ad' x s rv
  · exact g
theorem evHS_rt (c : Exc) (s : HS) (fr : Fr) (h : MH) : (∃ p fr' h', evHS G c s fr h = .ok (.rt p) fr' h') ∨ evHS G c s fr h = .bad := by
  unfold evHS
  cases G.exs c.cls with
  | none => exact .inr rfl
  | some fs =>
    cases s with
    | one i => dsimp only; split <;> first | exact .inl ⟨_, _, _, rfl⟩ | exact .inr rfl
    | tup is =>
      dsimp only
      split
      · split <;> first | exact .inl ⟨_, _, _, rfl⟩ | exact .inr rfl
      · exact .inr rfl
    | emp => exact .inl ⟨_, _, _, rfl⟩
/-- the clauses of a try -/
theorem hds_ok (C : SOk G X W N sc k) : ∀ {hs : CHs} {as : List ExceptHandler}, okHs N sc hs as = true → hsKn G hs = true → ∃ l, HdG X as l ∧ ∀ (c : Exc) (fr : Fr) (mh : MH) (ad : List Addr) (σ : L2.St) (H : Hp) (D : Ends) (cls : Value) (d : Option Addr),
    SimX X H ad mh → FrR X.K H ad fr σ → ExR G X H ad c cls d → GoodS G X W H ad (evHs G hs c fr mh) D → wGen X.K W D l cls d σ H
  | .nil, [], _, _ => ⟨[], .nil, fun c fr mh ad σ H D cls d hs hf er g => g cls d σ H ad (Ext.refl _ _) hs hf er⟩
  | .nil, _ :: _, q, _ => by simp [okHs] at q
  | .cons .., [], q, _ => by simp [okHs] at q
  | .cons cl b s r, hd :: as, q, hk => by
    obtain ⟨ty, bn, body, hp⟩ := hd
    match ty, body, q with
    | some (.Name x np), [.Return (some e) rp], q =>
      simp only [okHs, Bool.and_eq_true, decide_eq_true_eq] at q
      obtain ⟨⟨⟨⟨rfl, q1⟩, q2⟩, q3⟩, q4⟩ := q
      simp only [hsKn, Bool.and_eq_true] at hk
      obtain ⟨l, hl, conv⟩ := hds_ok C q4 hk.2
      obtain ⟨cv, hcv, hex⟩ := C.hcl _ hk.1
      obtain ⟨hgl, hdb⟩ := gl_of C.scope q1
      refine ⟨⟨cv, b, tHS G X W b s⟩ :: l, .cons ⟨hgl, hdb, hcv⟩ ?_ (fun a oe cls d pn hz hd => hs_ok C hz hd q2 q3) hl, ?_⟩
      · cases b <;> cases bn <;> simp only [okBind, Bool.false_eq_true, Bool.and_eq_true, decide_eq_true_eq] at q2 ⊢
        exact ⟨by rw [C.names]; exact q2.1.1.1, by show X.env.scope.names.lookup _ = _; rw [C.scope]; simpa using q2.1.1.2⟩
      · intro c fr mh ad σ H D cls d hs hf er g
        obtain ⟨A, fs, hm, rfl, ex, hrest⟩ := id er
        refine ⟨G.sub c.cls x, hex _ _ _ ex hm, fun hy a ha => ?_, fun hn => ?_⟩
        · unfold evHs at g
          rw [if_pos hy] at g
          cases b with
          | none =>
            refine ⟨fr, mh, ad, c, fs, hs, ⟨ex, er, fun i z => by cases z⟩, g⟩
          | some i =>
            simp only at g
            by_cases hi : i < fr.length
            · rw [if_pos hi] at g
              refine ⟨fr, mh, ad, c, fs, hs, ⟨ex, er, fun j z => ?_⟩, g.rtOnly (evHS_rt _ _ _ _) rfl⟩
              cases z
              rw [List.getElem?_set_self (by rw [hf.1]; exact hi)]
            · rw [if_neg hi] at g; exact g.elim
        · unfold evHs at g
          rw [if_neg (by rw [hn]; exact Bool.false_ne_true)] at g
          exact conv c fr mh ad σ H D _ d hs hf er g
    | none, _, q => simp [okHs] at q
theorem ss_try (C : SOk G X W N sc k) {body : List Stmt} {h : ExceptHandler} {r : List ExceptHandler} {hs : CHs} {mb : Fr → MH → RS} {pos : Pos} (hb : ∀ (X' : Cx) (W' : WX), SOk G X' W' N sc k → PSs X' body (tS G X' W' mb)) (q : okHs N sc hs (h :: r) = true) :
    PS X (.Try body (h :: r) [] [] pos) (tS G X W fun fr mh => if hsKn G hs then match mb fr mh with
      | .exc c fr1 h1 => evHs G hs c fr1 h1
      | r => r
    else .bad) := by
  cases hk : hsKn G hs with
  | false => exact ps_no fun D σ H ⟨fr, mh, ad, hs, hf, g⟩ => g
  | true =>
    obtain ⟨l, hl, conv⟩ := hds_ok C q hk
    refine ps_imp (ps_try_gen (tb := fun W => tS G X W mb) C.stk C.frm (by rw [C.names]; exact C.nd) C.takes (fun W' pn xe tk hp => hb (X.tr pn xe) W' (C.tr tk hp)) hl) fun D σ H ⟨fr, mh, ad, hs', hf, g⟩ => ⟨fr, mh, ad, hs', hf, ?_⟩
    simp only [if_true] at g
    cases er : mb fr mh with
    | ok f fr1 h1 =>
      rw [er] at g
      cases f <;> exact g
    | exc c fr1 h1 =>
      rw [er] at g
      exact fun cls d σ' H' ad' x s f e => conv c fr1 h1 ad' σ' H' D cls d s f e (g.mono x)
    | bad => rw [er] at g; exact g
end
end FL
set_option maxHeartbeats 8000000
/-! FL22: the soundness of statements, by induction. -/
namespace FL
open PySem PySem.Spec PyProof.Rows L2

section
variable (G : GG) (N : List Str) (k : Nat)
abbrev SndS (c : CS) : Prop := ∀ (X : Cx) (W : WX) (sc : Scope) (st : Stmt), SOk G X W N sc k → okS N c sc st = true → PS X st (tS G X W (evS0 G c))
abbrev SndSs (cs : CSs) : Prop := ∀ (X : Cx) (W : WX) (sc : Scope) (st : List Stmt), SOk G X W N sc k → okSs N cs sc st = true → PSs X st (tS G X W (evSs0 G cs))
variable {G N k}
theorem tS_congr {X : Cx} {W : WX} {m m' : Fr → MH → RS} (h : ∀ fr mh, m fr mh = m' fr mh) : tS G X W m = tS G X W m' := by rw [show m = m' from funext fun fr => funext fun mh => h fr mh]
theorem okE_tup {c : CE} {sc : Scope} {e : Expr} (_ : okE N c sc e = true) : True := trivial
theorem snd_asg (i : Nat) (e : CE) : SndS G N k (.asg i e) := by
  intro X W sc st C h
  cases st with
  | Assign ts x pos =>
    match ts, h with
    | [.Name y py], h =>
      simp only [okS, Bool.and_eq_true, decide_eq_true_eq] at h
      obtain ⟨⟨⟨h1, h2⟩, h3⟩, h4⟩ := h
      have he := (sE e X W sc x C.toCOk h3).1
      cases x with
      | ListComp el gens scope cp =>
        by_cases hc : ((sc.names.lookup y == some .local) && (py.line == cp.line)) = true
        · -- straight into the name
          have hno : (scope.names.any fun (n, k) => n == y && (k == .local || k == .cell)) = false := by
            simp only [asgC, hc, Bool.not_true, Bool.false_or, Bool.not_eq_true'] at h4
            exact h4
          simp only [Bool.and_eq_true, beq_iff_eq] at hc
          obtain ⟨elt, own, t, it, ifs, rfl⟩ : ∃ elt own t it ifs, e = .lc elt own t it ifs := by
            cases e <;> first | exact ⟨_, _, _, _, _, rfl⟩ | simp [okE] at h3
          match gens, h3 with
          | [], h => simp [okE] at h
          | _ :: _ :: _, h => simp [okE] at h
          | [⟨tg, iter, ifl, asy⟩], h =>
            have h0 : asy = 0 := by
              by_cases hz : asy = 0
              · exact hz
              · simp [okE, hz] at h
            subst h0
            simp only [okE, Bool.and_eq_true] at h
            obtain ⟨⟨⟨⟨⟨⟨k1, k2⟩, k3⟩, k4⟩, k5⟩, k6⟩, k7⟩ := h
            have hown : own.map (·.2) = t.sl := by
              cases t <;> simpa [sameSlots, CT.sl] using k7
            exact ps_imp (setLc_ok C.toCOk C.fn C.kind h1 hc.1 (by simpa using hc.2) hno hown (sI it X W sc _ _ C.toCOk k4).1 k1 k2 k3 (fun X' C' => (sEs ifs X' _ _ _ C' k5).2.2) (fun X' C' => (sE elt X' _ _ _ C' k6).1)) fun D σ H hq => lc_conv hown σ H _ (asg_conv hq)
        · refine ss_asg C h1 h2 he ?_
          have hb : X.env.blockKind = .function := by unfold Env.blockKind; rw [C.kind]; rfl
          have e1 : swapsWith (.ListComp el gens scope cp) (some (.Name y py)) pos.line X.env = pure false := by
            unfold swapsWith
            have e2 : (X.env.kindOf y == some .local && py.line == cp.line) = false := by
              have : X.env.kindOf y = sc.names.lookup y := by rw [← C.scope]; rfl
              rw [this]
              simpa using hc
            simp only [hb, Expr.pos]
            simp only [e2, Bool.and_assoc, Bool.and_false]
            rfl
          exact e1
      | SetComp _ _ _ _ => simp [asgC] at h4
      | DictComp _ _ _ _ _ => simp [asgC] at h4
      | _ => exact ss_asg C h1 h2 he rfl
  | _ => simp [okS] at h
mutual
theorem sS : ∀ c : CS, SndS G N k c
  | .expr e => by
    intro X W sc st C h
    cases st <;> simp only [okS, Bool.false_eq_true, Bool.and_eq_true] at h
    exact ss_expr (sE e X W sc _ C.toCOk h.1).1 h.2
  | .asg i e => snd_asg i e
  | .tas is e => by
    intro X W sc st C h
    cases st with
    | Assign ts x pos =>
      match ts, h with
      | [.Tuple es kk p], h =>
        simp only [okS, Bool.and_eq_true] at h
        obtain ⟨⟨⟨h1, h2⟩, h3⟩, h4⟩ := h
        exact ss_tas C h1 (sE e X W sc _ C.toCOk h2).1 h3 h4
    | _ => simp [okS] at h
  | .sst o i e => by
    intro X W sc st C h
    cases st with
    | Assign ts x pos =>
      match ts, h with
      | [.Subscript ox ix p], h =>
        simp only [okS, Bool.and_eq_true] at h
        obtain ⟨⟨⟨h1, h2⟩, h3⟩, h4⟩ := h
        exact ss_sst C (sE o X W sc _ C.toCOk h1).1 (sE i X W sc _ C.toCOk h2).1 (sE e X W sc _ C.toCOk h3).1 (okE_sl h2) h4
    | _ => simp [okS] at h
  | .aug i e => by
    intro X W sc st C h
    cases st with
    | AugAssign tg op x pos =>
      cases tg with
      | Name y py =>
        cases op <;> simp only [okS, Bool.false_eq_true, Bool.and_eq_true, decide_eq_true_eq] at h
        obtain ⟨⟨h1, h2⟩, h3⟩ := h
        exact ss_aug C h1 h2 (sE e X W sc _ C.toCOk h3).1
      | _ => simp [okS] at h
    | _ => simp [okS] at h
  | .ret e => by
    intro X W sc st C h
    cases st with
    | Return x pos =>
      cases x with
      | none => simp [okS] at h
      | some x =>
        simp only [okS] at h
        exact ss_ret (sE e X W sc _ C.toCOk h).1
    | _ => simp [okS] at h
  | .retN => by
    intro X W sc st C h
    cases st with
    | Return x pos =>
      cases x with
      | none => exact ss_retN
      | some x => simp [okS] at h
    | _ => simp [okS] at h
  | .ite c a b => by
    intro X W sc st C h
    cases st <;> simp only [okS, Bool.false_eq_true, Bool.and_eq_true] at h
    exact ss_if (sE c X W sc _ C.toCOk h.1.1).2 (sSs a X W sc _ C h.1.2) (sSs b X W sc _ C h.2)
  | .whl n c b => by
    intro X W sc st C h
    cases st with
    | While x s o pos =>
      cases o with
      | nil =>
        simp only [okS, Bool.and_eq_true] at h
        exact ss_while C (sE c X W sc _ C.toCOk h.1).2 (sSs b X W sc _ C h.2)
      | cons _ _ => simp [okS] at h
    | _ => simp [okS] at h
  | .fors t it b => by
    intro X W sc st C h
    cases st with
    | For tg x s o pos =>
      cases o with
      | nil =>
        simp only [okS, Bool.and_eq_true] at h
        obtain ⟨⟨h1, h2⟩, h3⟩ := h
        obtain ⟨i1, i2⟩ := sI it X W sc _ _ C.toCOk h2
        exact ss_for C i1 i2 h1 (sSs b X W sc _ C h3)
      | cons _ _ => simp [okS] at h
    | _ => simp [okS] at h
  | .brk => by
    intro X W sc st C h
    cases st <;> simp only [okS, Bool.false_eq_true] at h
    exact ps_imp ps_break fun D σ H ⟨fr, mh, ad, hs, hf, g⟩ => g σ H ad (Ext.refl _ _) hs hf
  | .cnt => by
    intro X W sc st C h
    cases st <;> simp only [okS, Bool.false_eq_true] at h
    exact ps_imp ps_continue fun D σ H ⟨fr, mh, ad, hs, hf, g⟩ => g σ H ad (Ext.refl _ _) hs hf
  | .pas => by
    intro X W sc st C h
    cases st <;> simp only [okS, Bool.false_eq_true] at h
    exact ps_imp ps_pass fun D σ H ⟨fr, mh, ad, hs, hf, g⟩ => g σ H ad (Ext.refl _ _) hs hf
  | .rse c es => by
    intro X W sc st C h
    cases st with
    | Raise e cause pos =>
      match e, cause, h with
      | some (.Call (.Name x p) xs [] p2), none, h =>
        simp only [okS, Bool.and_eq_true, decide_eq_true_eq] at h
        obtain ⟨⟨rfl, h1⟩, h2⟩ := h
        refine ss_rse C h1 h2 (sEs es X W sc _ C.toCOk h2).1 ?_
        rintro rfl
        cases es with
        | nil => rfl
        | cons c cs => simp [okEs] at h2
    | _ => simp [okS] at h
  | .tri b hs => by
    intro X W sc st C h
    cases st with
    | Try s hd el fin pos =>
      match hd, el, fin, h with
      | h0 :: r, [], [], h =>
        simp only [okS, Bool.and_eq_true] at h
        exact ss_try C (fun X' W' C' => sSs b X' W' sc _ C' h.1) h.2
    | _ => simp [okS] at h
theorem sSs : ∀ cs : CSs, SndSs G N k cs
  | .nil => by
    intro X W sc st C h
    cases st with
    | nil => exact pss_imp pss_nil fun D σ H ⟨fr, mh, ad, hs, hf, g⟩ => g.nxt hs hf
    | cons _ _ => simp [okSs] at h
  | .cons s r => by
    intro X W sc st C h
    cases st with
    | nil => simp [okSs] at h
    | cons x xs =>
      simp only [okSs, Bool.and_eq_true] at h
      refine pss_imp (pss_cons (sS s X W sc _ C h.1) (sSs r X W sc _ C h.2)) fun D σ H ⟨fr, mh, ad, hs, hf, g⟩ => ⟨fr, mh, ad, hs, hf, GoodS.ends ?_⟩
      unfold evSs0 at g
      cases er : evS0 G s fr mh with
      | ok f fr2 h2 =>
        rw [er] at g
        cases f with
        | nx => exact fun σ' H' ad' x s f => ⟨fr2, h2, ad', s, f, g.mono x⟩
        | ct => exact g
        | bk => exact g
        | rt p => exact g
      | exc c fr2 h2 => rw [er] at g; exact g
      | bad => rw [er] at g; exact g
end
end
end FL
set_option maxHeartbeats 4000000
/-! FL23: a def as a function of the evaluator; exception classes; what a module gives. -/
namespace FL
open PySem PySem.Spec PyProof.Rows L2

def RS.out : RS → Res PV
  | .ok (.rt v) _ h => .ok v h
  | .ok .nx _ h => .ok .non h
  | .ok _ _ _ => .bad
  | .exc c _ h => .exc c h
  | .bad => .bad
/-- a def: n parameters, m more slots -/
def runF (G : GG) (n m : Nat) (b : CSs) (ps : List PV) : M PV := fun h => if ps.length = n then (evSs0 G b (ps.map some ++ List.replicate m none) h).out else .bad
def GG.add (G : GG) (x : Str) (F : List PV → M PV) : GG := { G with fns := fun y => if y = x then some F else G.fns y }

/-- what a module gives, at k levels -/
structure MOk (G : GG) (X : Cx) (k : Nat) : Prop where
  fns : ∀ x F, G.fns x = some F → ∃ j f fd ps, j ≤ k ∧ FnOk X.prog X.w X.K X.mg X.base (CX X.prog X.w) j f fd ps (spF G X F ps.length) ∧ X.mg x = some (.ref f) ∧ PySem.W.keepIn X.K (.ref f) = true ∧ Binds X.K fd ps [] ∧ ∀ xs h, xs.length ≠ ps.length → F xs h = .bad
  cons : ∀ x p, G.cons x = some p → ∃ u v, X.mg x = some u ∧ RelV v u ∧ ∀ H ad, Rv X.K H ad p v
  blt : ∀ b : BN, X.mg b.nm = none
  blt2 : X.mg "range" = none ∧ X.mg "enumerate" = none ∧ X.mg "reversed" = none ∧ X.mg "isinstance" = none ∧ X.mg "bool" = none ∧ X.mg "dict" = none
  exc : ∀ c fs, G.exs c = some fs → ∃ C, X.mg c = some (.ref C) ∧ ExcOk X k C fs
  hcl : ∀ x, G.hcs x = true → ∃ D, (X.mg x = some D ∨ (X.mg x = none ∧ bootBuiltins x = some D ∧ x ≠ "__name__")) ∧
    ∀ c fs C, G.exs c = some fs → X.mg c = some (.ref C) → PySem.W.exmOne X.K (.ref C) D = some (G.sub c x)
section
variable {G : GG} {X : Cx} {k : Nat}
theorem ExcOk.mono {C : Addr} {fs : List Str} {j : Nat} (h : ExcOk X j C fs) (hj : j ≤ k) : ExcOk X k C fs :=
  ⟨h.sub, h.typ, h.keep, h.bare, fun z => by
    obtain ⟨a, b, c, d, fI, fd, ps, i, hi, r⟩ := h.own z
    exact ⟨a, b, c, d, fI, fd, ps, i, Nat.le_trans hi hj, r⟩⟩
theorem MOk.up (m : MOk G X k) {j : Nat} (h : k ≤ j) : MOk G X j :=
  ⟨fun x F e => by
    obtain ⟨i, f, fd, ps, hi, r⟩ := m.fns x F e
    exact ⟨i, f, fd, ps, Nat.le_trans hi h, r⟩, m.cons, m.blt, m.blt2, fun c fs e => by
    obtain ⟨C, h1, h2⟩ := m.exc c fs e
    exact ⟨C, h1, h2.mono h⟩, m.hcl⟩
theorem start_fr {K : PySem.W.Frag} {H : Hp} {ad : List Addr} {xs : List PV} {vs : List V} {N : List Str} (r : Rvs K H ad xs vs) : FrR K H ad (xs.map some ++ List.replicate (N.length - xs.length) none) (L2.start N vs) := by
  have hl := r.length
  refine ⟨by simp [L2.start, hl], fun i p e => ?_⟩
  by_cases hi : i < xs.length
  · rw [List.getElem?_append_left (by simpa using hi)] at e
    rw [List.getElem?_map] at e
    cases ex : xs[i]? with
    | none => rw [ex] at e; cases e
    | some q =>
      rw [ex] at e
      simp only [Option.map_some, Option.some.injEq] at e
      subst e
      obtain ⟨v, e1, e2⟩ := r.get ex
      refine ⟨v, ?_, e2⟩
      unfold L2.start
      rw [List.getElem?_append_left (by simpa [hl] using hi), List.getElem?_map, e1]; rfl
  · rw [List.getElem?_append_right (by simpa using hi), List.getElem?_replicate] at e
    split at e <;> cases e
/-- THE RULE for a def -/
theorem def_ok (m : MOk G X k) {x qual : Str} {params : Arguments} {body : List Stmt} {scope : Scope} {f : Addr} {fd : FuncData} {N ps : List Str} {cb : CSs} (F : FunD X.K x qual params body scope [] [] f fd) (S : FnScope N ps scope) (hn : ps.length ≤ N.length) (hok : okSs N cb scope body = true) :
    FnOk X.prog X.w X.K X.mg X.base (CX X.prog X.w) (k + 1) f fd ps (spF G X (runF G ps.length (N.length - ps.length) cb) ps.length) := by
  refine F.ok S (fun vs H Q E h => h.1) fun cdv A outer s H vs Q E hr h => ?_
  obtain ⟨hl, xs, mh, ad, hs, hv, g⟩ := h
  have C : SOk G (cxOf (CX X.prog X.w) X.prog X.w X.K X.mg X.base N qual scope f cdv A outer s H E) (fun cls d _ H => E cls d H) N scope k :=
    { names := rfl, nd := S.nd, scope := rfl, calm := rfl, room := hr, takes := takes_of rfl rfl rfl rfl, fns := m.fns, cons := m.cons, blt := m.blt, blt2 := m.blt2, passes := passes_of rfl, fn := rfl, kind := S.kind, stk := rfl, frm := rfl,
      exc := fun c fs e => by
        obtain ⟨D, h1, h2⟩ := m.exc c fs e
        exact ⟨D, h1, h2.sub, h2.typ, h2.keep, h2.bare, h2.own⟩
      hcl := m.hcl }
  refine ⟨_, sSs cb _ _ scope body C hok, xs.map some ++ List.replicate (N.length - xs.length) none, mh, ad, hs, start_fr hv, ?_⟩
  have hxl : xs.length = ps.length := by rw [← hv.length, hl]
  unfold runF at g
  rw [if_pos hxl] at g
  rw [hxl]
  cases er : evSs0 G cb (xs.map some ++ List.replicate (N.length - ps.length) none) mh with
  | ok fl fr' h' =>
    rw [er] at g
    cases fl with
    | nx => exact fun σ' H' ad' x s f => g .non H' ad' x s (by simp [RvX, Rv])
    | bk => exact g.elim
    | ct => exact g.elim
    | rt p => exact fun v H' ad' x s r => g v H' ad' x s r
  | exc c fr' h' =>
    rw [er] at g
    exact fun cls d σ' H' ad' x s f e => g cls d H' ad' x s ⟨rfl, fun i p z => by simp at z⟩ e
  | bad => rw [er] at g; exact g.elim
theorem MOk.add (m : MOk G X k) {x : Str} {F : List PV → M PV} {f : Addr} {fd : FuncData} {ps : List Str} {j : Nat} (hj : j ≤ k) (hf : FnOk X.prog X.w X.K X.mg X.base (CX X.prog X.w) j f fd ps (spF G X F ps.length)) (hm : X.mg x = some (.ref f)) (hk : PySem.W.keepIn X.K (.ref f) = true)
    (hb : Binds X.K fd ps []) (hl : ∀ xs h, xs.length ≠ ps.length → F xs h = .bad) : MOk (G.add x F) X k where
  fns := fun y F' e => by
    unfold GG.add at e
    simp only at e
    by_cases hy : y = x
    · rw [if_pos hy] at e
      cases e
      subst hy
      exact ⟨j, f, fd, ps, hj, hf, hm, hk, hb, hl⟩
    · rw [if_neg hy] at e
      exact m.fns y F' e
  cons := m.cons
  blt := m.blt
  blt2 := m.blt2
  exc := m.exc
  hcl := m.hcl
theorem runF_len {n mm : Nat} {b : CSs} : ∀ xs h, xs.length ≠ n → runF G n mm b xs h = .bad := fun xs h z => if_neg z
/-- one more def -/
theorem MOk.def_ (m : MOk G X k) {x qual : Str} {params : Arguments} {body : List Stmt} {scope : Scope} {f : Addr} {fd : FuncData} {N ps : List Str} {cb : CSs} (F : FunD X.K x qual params body scope [] [] f fd) (S : FnScope N ps scope) (hn : ps.length ≤ N.length) (hok : okSs N cb scope body = true)
    (hm : X.mg x = some (.ref f)) (hb : Binds X.K fd ps []) : MOk (G.add x (runF G ps.length (N.length - ps.length) cb)) X (k + 1) :=
  (m.up (Nat.le_succ k)).add (Nat.le_refl _) (def_ok m F S hn hok) hm F.kp hb runF_len

/-! ### an exception class's own __init__ -/
def tIni (K : PySem.W.Frag) : Nat → List Str → TS
  | _, [] => tNext
  | i, f :: fs => tSeq (tOst K f (tVar 0) (tVar i)) (tIni K (i + 1) fs)
def okIni (N : List Str) (sc : Scope) : Nat → List Str → List Stmt → Bool
  | _, [], [] => true
  | i, f :: fs, .Assign [.Attribute (.Name s _) g _] (.Name x _) _ :: r => decide (g = f) && decide (N[0]? = some s) && decide (N[i]? = some x) && visB sc s && visB sc x && !(s == ("__debug__" : Str)) && !(s == ("__classdict__" : Str)) && !(x == ("__debug__" : Str)) && !(x == ("__classdict__" : Str)) && okIni N sc (i + 1) fs r
  | _, _, _ => false
theorem pss_ini {Y : Cx} : ∀ {fs : List Str} {i : Nat} {body : List Stmt}, okIni Y.N Y.env.scope i fs body = true → PSs Y body (tIni Y.K i fs)
  | [], _, [], _ => pss_nil
  | [], _, _ :: _, h => by simp [okIni] at h
  | f :: fs, i, b, h => by
    match b, h with
    | .Assign [.Attribute (.Name s p1) g p2] (.Name x p3) p4 :: r, h =>
      simp only [okIni, Bool.and_eq_true, decide_eq_true_eq, Bool.not_eq_true'] at h
      obtain ⟨⟨⟨⟨⟨⟨⟨⟨⟨rfl, h1⟩, h2⟩, h3⟩, h4⟩, h5⟩, h6⟩, h7⟩, h8⟩, h9⟩ := h
      exact pss_cons (ps_ost (pe_var h1 (vis_of h3) h5 h6) (pe_var h2 (vis_of h4) h7 h8)) (pss_ini h9)
    | [], h => simp [okIni] at h
theorem ini_old {K : PySem.W.Frag} {σ : L2.St} {D : Ends} {a C d : Addr} (T : OexC K C) : ∀ (fs : List Str) (ws : List V) (i : Nat) (H : Hp) (kvs : List (Str × V)), (∀ f ∈ fs, PySem.W.findIn K (.ref C) f = some none) → d ≠ a → H a = some (exo a C (some d)) → H d = some (exd d kvs) → fs.Nodup → kvs.length + fs.length ≤ 900 →
    σ[0]? = some (some (.ref a)) → ws.length = fs.length → (∀ (j : Nat) (w : V), ws[j]? = some w → σ[i + j]? = some (some w)) →
    (∀ (H2 : Hp) (kvs2 : List (Str × V)), H2 a = some (exo a C (some d)) → H2 d = some (exd d kvs2) → (∀ b, b ≠ a → b ≠ d → H2 b = H b) → (∀ g, g ∉ fs → kvs2.lookup g = kvs.lookup g) → (∀ (j : Nat) (f : Str) (w : V), fs[j]? = some f → ws[j]? = some w → kvs2.lookup f = some w) → D.nx σ H2) →
    tIni K i fs D σ H
  | [], ws, i, H, kvs, _, _, ha, hd, _, _, _, _, _, hk => hk H kvs ha hd (fun _ _ _ => rfl) (fun _ _ => rfl) fun j f w e => by simp at e
  | f :: fs, ws, i, H, kvs, hno, hda, ha, hd, hnd, hl, h0, hlen, hσ, hk => by
    cases ws with
    | nil => simp at hlen
    | cons w ws =>
      have hnd' := List.nodup_cons.mp hnd
      simp only [List.length_cons] at hl hlen
      refine ⟨w, by simpa using hσ 0 w rfl, .ref a, h0, a, C, rfl, T, hno f (by simp), .inr ⟨d, kvs, ha, hd, by omega, ?_⟩⟩
      refine ini_old T fs ws (i + 1) _ ((f, w) :: kvs) (fun g hg => hno g (List.mem_cons_of_mem _ hg)) hda (by rw [upd_ne (Ne.symm hda)]; exact ha) upd_same hnd'.2 (by simp only [List.length_cons]; omega) h0 (by omega)
        (fun j v e => by have := hσ (j + 1) v (by simpa using e); rw [← this]; congr 1; omega) fun H2 kvs2 e1 e2 e3 e4 e5 => hk H2 kvs2 e1 e2 (fun b hb hbd => by rw [e3 b hb hbd, upd_ne hbd]) (fun g hg => ?_) fun j g v ej ev => ?_
      · rw [e4 g (fun z => hg (List.mem_cons_of_mem _ z)), lookup_put, if_neg (fun z => hg (by simp [z]))]
      · cases j with
        | zero =>
          simp only [List.getElem?_cons_zero, Option.some.injEq] at ej ev
          subst ej; subst ev
          rw [e4 f hnd'.1, lookup_put, if_pos rfl]
        | succ j => exact e5 j g v (by simpa using ej) (by simpa using ev)
theorem ini_ok {P : Program} {w : World} {K : PySem.W.Frag} {mg : Str → Option Value} {base : Heap} {x qual : Str} {params : Arguments} {body : List Stmt} {scope : Scope} {f : Addr} {fd : FuncData} {N : List Str} {C : Addr} {fs : List Str} (F : FunD K x qual params body scope [] [] f fd) (S : FnScope N N scope)
    (hok : okIni N scope 1 fs body = true) (hN : N.length = fs.length + 1) (T : OexC K C) (hno : ∀ f ∈ fs, PySem.W.findIn K (.ref C) f = some none) (hne : fs ≠ []) (hnd : fs.Nodup) (hl : fs.length ≤ 900) : FnOk P w K mg base (CX P w) 1 f fd N (spI C fs) := by
  refine F.ok S (fun vs H Q E h => ?_) fun cdv A outer s H vs Q E hr h => ⟨tIni K 1 fs, pss_ini hok, ?_⟩
  · obtain ⟨a, ws, rfl, hw, _⟩ := h
    simp [hw, hN]
  · obtain ⟨a, ws, rfl, hw, ha, hk⟩ := h
    cases fs with
    | nil => exact absurd rfl hne
    | cons g fs =>
      cases ws with
      | nil => simp at hw
      | cons y ws =>
        have hst : L2.start N (.ref a :: y :: ws) = some (.ref a) :: some y :: (ws.map some ++ List.replicate (N.length - (ws.length + 1 + 1)) none) := by simp [L2.start]
        have hnd' := List.nodup_cons.mp hnd
        simp only [List.length_cons] at hw hl hN
        refine ⟨y, by rw [hst]; rfl, .ref a, by rw [hst]; rfl, a, C, rfl, T, hno g (by simp), .inl ⟨ha, fun d hd hda => ?_⟩⟩
        refine ini_old T fs ws 2 _ [(g, y)] (fun g hg => hno g (List.mem_cons_of_mem _ hg)) hda upd_same (by rw [upd_ne hda, upd_same]) hnd'.2 (by simp only [List.length_cons, List.length_nil]; omega) (by rw [hst]; rfl) (by omega) (fun j v e => ?_) fun H2 kvs2 e1 e2 e3 e4 e5 => hk H2 d kvs2 hd hda e1 e2 (fun b hb hbd => by rw [e3 b hb hbd, upd_ne hb, upd_ne hbd]) fun j g' v ej ev => ?_
        · rw [hst, show 2 + j = (j + 1) + 1 by omega, List.getElem?_cons_succ, List.getElem?_cons_succ, List.getElem?_append_left (by
            have := (List.getElem?_eq_some_iff.mp e).1
            simpa using this), List.getElem?_map, e]; rfl
        · cases j with
          | zero =>
            simp only [List.getElem?_cons_zero, Option.some.injEq] at ej ev
            subst ej; subst ev
            rw [e4 _ hnd'.1]
            simp [List.lookup]
          | succ j => exact e5 j g' v (by simpa using ej) (by simpa using ev)
end
end FL
/-! FL24: what the head says of a module; a law's end. -/
namespace FL
open PySem PySem.Spec PyProof.Rows L2

/-! ### constants of the module -/
mutual
def cnB (K : PySem.W.Frag) : PV → Value → Bool
  | .non, u => (match u with
    | .none => true
    | _ => false)
  | .bl b, u => (match u with
    | .bool c => b == c
    | _ => false)
  | .int i, u => (match u with
    | .int j _ => decide (i = j)
    | _ => false)
  | .str l, u => (match u with
    | .str y _ => decide (S l = y)
    | _ => false)
  | .tup ps, u => (match u with
    | .ref a => (match K.lookup a with
      | some ⟨.type c, _, .seq its _, _⟩ => decide (c = "tuple") && decide (its.size ≤ sizeLine) && cnBs K ps its.toList
      | _ => false)
    | _ => false)
  | .ref _, _ => false
  | .exc _ _, _ => false
def cnBs (K : PySem.W.Frag) : List PV → List Value → Bool
  | [], us => us.isEmpty
  | p :: ps, us => (match us with
    | u :: r => cnB K p u && cnBs K ps r
    | [] => false)
end
mutual
theorem cnB_ok {K : PySem.W.Frag} : ∀ {p : PV} {u : Value}, cnB K p u = true → ∃ v, RelV v u ∧ ∀ H ad, Rv K H ad p v
  | .non, u, h => by
    cases u <;> simp only [cnB, Bool.false_eq_true] at h
    exact ⟨.non, rfl, fun H ad => by simp [Rv]⟩
  | .bl b, u, h => by
    cases u <;> simp only [cnB, Bool.false_eq_true, beq_iff_eq] at h
    subst h
    exact ⟨.bl b, rfl, fun H ad => by simp [Rv]⟩
  | .int i, u, h => by
    cases u <;> simp only [cnB, Bool.false_eq_true, decide_eq_true_eq] at h
    subst h
    exact ⟨.int i, ⟨_, rfl⟩, fun H ad => by simp [Rv]⟩
  | .str l, u, h => by
    cases u <;> simp only [cnB, Bool.false_eq_true, decide_eq_true_eq] at h
    subst h
    exact ⟨.str (S l), ⟨_, rfl⟩, fun H ad => by simp [Rv]⟩
  | .tup ps, u, h => by
    unfold cnB at h
    split at h
    · rename_i a
      split at h
      · rename_i c od its n sl e
        simp only [Bool.and_eq_true, decide_eq_true_eq] at h
        obtain ⟨⟨rfl, h2⟩, h3⟩ := h
        obtain ⟨vs, r1, r2⟩ := cnBs_ok h3
        refine ⟨.ref a, rfl, fun H ad => ?_⟩
        simp only [Rv]
        exact ⟨a, vs, rfl, .inr ⟨_, its, n, e, rfl, rfl, h2, r1⟩, r2 H ad⟩
      · cases h
    · cases h
  | .ref _, u, h => by simp [cnB] at h
  | .exc _ _, u, h => by simp [cnB] at h
theorem cnBs_ok {K : PySem.W.Frag} : ∀ {ps : List PV} {us : List Value}, cnBs K ps us = true → ∃ vs, Vals vs us ∧ ∀ H ad, Rvs K H ad ps vs
  | [], us, h => by
    cases us with
    | nil => exact ⟨[], .nil, fun H ad => by simp [Rvs]⟩
    | cons _ _ => simp [cnBs] at h
  | p :: ps, us, h => by
    cases us with
    | nil => simp [cnBs] at h
    | cons u us =>
      simp only [cnBs, Bool.and_eq_true] at h
      obtain ⟨v, a, b⟩ := cnB_ok h.1
      obtain ⟨vs, c, d⟩ := cnBs_ok h.2
      exact ⟨v :: vs, .cons a c, fun H ad => Rvs.cons (b H ad) (d H ad)⟩
end
def consB (K : PySem.W.Frag) (x : Str) (p : PV) : Bool := match PySem.W.nsIn K mainGlobals x with
  | some (some u) => cnB K p u
  | _ => false

/-! ### exception classes -/
def clsVE (K : PySem.W.Frag) (C : Addr) : Bool := match K.lookup C with
  | some ⟨.type t, _, .cls cd, sl⟩ => decide (t = "type") && cd.hasDict && !cd.hasDel && (match cd.mro with
    | .ref B :: bm => decide (B = C) && PySem.HandSPX.refsVE bm
    | _ => false) && (match sl.toList with
    | [_, _, _, _, some (.builtin n), _] => decide (n = "ValueError.__new__")
    | _ => false)
  | _ => false
theorem clsVE_ok {K : PySem.W.Frag} {C : Addr} (h : clsVE K C = true) :
    ∃ nm q N bs bm sn sub ab col dd k0 k1 k2 k3 k5, K.lookup C = some (excClassObj nm q C N bs bm true sn sub ab col dd k0 k1 k2 k3 k5 "ValueError.__new__") ∧ PySem.HandSPX.refsVE bm = true := by
  unfold clsVE at h
  split at h
  · rename_i t dd cd sl e
    simp only [Bool.and_eq_true, decide_eq_true_eq, Bool.not_eq_true'] at h
    obtain ⟨⟨⟨⟨rfl, h1⟩, h2⟩, h3⟩, h4⟩ := h
    obtain ⟨nm, bs, mro, ns, q, hd, sn, sub, ab, col, del⟩ := cd
    dsimp only at h1 h2 h3
    subst h1 h2
    split at h3
    · simp only [Bool.and_eq_true, decide_eq_true_eq] at h3
      obtain ⟨rfl, h3⟩ := h3
      split at h4
      · rename_i k0 k1 k2 k3 n k5 es
        simp only [decide_eq_true_eq] at h4
        subst h4
        have hsl : sl = #[k0, k1, k2, k3, some (.builtin "ValueError.__new__"), k5] := by
          obtain ⟨l⟩ := sl
          dsimp only at es
          rw [es]
        subst hsl
        exact ⟨nm, q, ns, bs, _, sn, sub, ab, col, dd, k0, k1, k2, k3, k5, e, h3⟩
      · cases h4
    · cases h3
  · cases h
def excB (K : PySem.W.Frag) (c : Str) (fs : List Str) : Bool :=
  let C := He.ga K c
  (He.Fa.glo c).ok K && decide (PySem.W.subIn K (.ref C) (.type "BaseException") = some true) && decide (PySem.W.typeIn K (.ref C) = some (.type "type")) && PySem.W.keepIn K (.ref C) &&
    (if fs.isEmpty then PySem.W.excIn K C He.veBase "ValueError.__new__"
    else clsVE K C && decide (PySem.W.findIn K (.ref C) "__setattr__" = some (some (.builtin "object.__setattr__"))) && xfB K C && (fs.all fun f => decide (PySem.W.findIn K (.ref C) f = some none)) &&
      decide (PySem.W.findIn K (.ref C) "__init__" = some (some (.ref (He.ma K C "__init__")))) && decide (PySem.W.typeIn K (.ref (He.ma K C "__init__")) = some (.type "function")))
theorem excB_ok {K : PySem.W.Frag} {c : Str} {fs : List Str} (h : excB K c fs = true) (hne : fs ≠ []) : OexC K (He.ga K c) ∧ ∀ f ∈ fs, PySem.W.findIn K (.ref (He.ga K c)) f = some none := by
  cases fs with
  | nil => exact absurd rfl hne
  | cons f fs =>
    simp only [excB, List.isEmpty_cons, Bool.false_eq_true, if_false, Bool.and_eq_true, decide_eq_true_eq, List.all_eq_true] at h
    obtain ⟨⟨⟨⟨h1, h2⟩, h3⟩, h4⟩, ⟨⟨⟨⟨⟨h5, h6⟩, h7⟩, h8⟩, h9⟩, h10⟩⟩ := h
    exact ⟨⟨clsVE_ok h5, h6, h2, h3, h4⟩, h8⟩
theorem excB_all {X : Cx} {k : Nat} {c : Str} {fs : List Str} (h : excB X.K c fs = true) (ini : fs ≠ [] → fs.length ≤ 900 ∧ ∃ (fd : FuncData) (ps : List Str), FnOk X.prog X.w X.K X.mg X.base (CX X.prog X.w) k (He.ma X.K (He.ga X.K c) "__init__") fd ps (spI (He.ga X.K c) fs) ∧ Binds X.K fd ps []) :
    ExcOk X (k + 1) (He.ga X.K c) fs := by
  cases fs with
  | nil =>
    simp only [excB, List.isEmpty_nil, if_true, Bool.and_eq_true, decide_eq_true_eq] at h
    obtain ⟨⟨⟨⟨h1, h2⟩, h3⟩, h4⟩, h5⟩ := h
    exact ⟨h2, h3, h4, fun _ => h5, fun z => absurd rfl z⟩
  | cons f fs =>
    have q := excB_ok h (by simp)
    simp only [excB, List.isEmpty_cons, Bool.false_eq_true, if_false, Bool.and_eq_true, decide_eq_true_eq, List.all_eq_true] at h
    obtain ⟨⟨⟨⟨h1, h2⟩, h3⟩, h4⟩, ⟨⟨⟨⟨⟨h5, h6⟩, h7⟩, h8⟩, h9⟩, h10⟩⟩ := h
    obtain ⟨hl, fd, ps, hf, hb⟩ := ini (by simp)
    exact ⟨h2, h3, h4, fun z => (nomatch z), fun _ => ⟨q.1, xfB_ok h7, h8, hl, _, fd, ps, k, Nat.le_refl _, h9, h10, hf, hb⟩⟩

/-! ### the module -/
structure MD where
  exs : List (Str × List Str)
  hcs : List Str
  subs : List (Str × Str)
  cons : List (Str × PV)
def MD.G (d : MD) : GG := ⟨fun _ => none, fun x => d.cons.lookup x, fun x => d.exs.lookup x, fun a b => d.subs.contains (a, b), fun x => d.hcs.contains x⟩
def BN.every : List BN := [.len, .int, .str, .list, .tuple, .sum, .all, .any, .max, .min, .sorted]
theorem BN.mem_all (b : BN) : b ∈ BN.every := by cases b <;> simp [BN.every]
def MD.chk (d : MD) (K : PySem.W.Frag) : Bool :=
  (BN.every.all fun b => (He.Fa.free b.nm).ok K) && (He.Fa.free "range").ok K && (He.Fa.free "enumerate").ok K && (He.Fa.free "reversed").ok K && (He.Fa.free "isinstance").ok K && (He.Fa.free "bool").ok K && (He.Fa.free "dict").ok K && (d.cons.all fun c => consB K c.1 c.2) && (d.exs.all fun e => excB K e.1 e.2) &&
    (d.hcs.all fun h => (He.Fa.glo h).ok K && d.exs.all fun e => decide (PySem.W.exmOne K (.ref (He.ga K e.1)) (.ref (He.ga K h)) = some (d.subs.contains (e.1, h))))
theorem lookup_mem {β : Type} {x : Str} {b : β} : ∀ {l : List (Str × β)}, l.lookup x = some b → (x, b) ∈ l
  | [], h => by simp at h
  | (y, c) :: l, h => by
    by_cases hx : x = y
    · subst hx
      simp [List.lookup] at h
      subst h
      exact List.mem_cons_self ..
    · have e : (x == y) = false := by simpa using hx
      simp only [List.lookup, e] at h
      exact List.mem_cons_of_mem _ (lookup_mem h)
theorem MD.ok {d : MD} {X : Cx} {h : Heap} (KX : X.K.In h) (hns : h.Ns mainGlobals X.mg) (c : d.chk X.K = true) {k : Nat}
    (ini : ∀ e ∈ d.exs, e.2 ≠ [] → e.2.length ≤ 900 ∧ ∃ (fd : FuncData) (ps : List Str), FnOk X.prog X.w X.K X.mg X.base (CX X.prog X.w) k (He.ma X.K (He.ga X.K e.1) "__init__") fd ps (spI (He.ga X.K e.1) e.2) ∧ Binds X.K fd ps []) : MOk d.G X (k + 1) := by
  simp only [MD.chk, Bool.and_eq_true, List.all_eq_true, decide_eq_true_eq] at c
  obtain ⟨⟨⟨⟨⟨⟨⟨⟨⟨c1, c2⟩, c3⟩, c4⟩, d1⟩, d2⟩, d3⟩, c5⟩, c6⟩, c7⟩ := c
  have gl : ∀ e ∈ d.exs, X.mg e.1 = some (.ref (He.ga X.K e.1)) := fun e he => by
    have q := c6 e he
    simp only [excB, Bool.and_eq_true] at q
    exact He.glo_ok KX hns q.1.1.1.1
  refine ⟨fun x F e => by simp [MD.G] at e, fun x p e => ?_, fun b => He.free_ok KX hns (c1 b b.mem_all), ⟨He.free_ok KX hns c2, He.free_ok KX hns c3, He.free_ok KX hns c4, He.free_ok KX hns d1, He.free_ok KX hns d2, He.free_ok KX hns d3⟩, fun x fs e => ?_, fun x e => ?_⟩
  · have q := c5 _ (lookup_mem (show d.cons.lookup x = some p from e))
    unfold consB at q
    split at q
    · rename_i u eu
      obtain ⟨v, r1, r2⟩ := cnB_ok q
      exact ⟨u, v, PySem.W.mg_of KX hns eu, r1, r2⟩
    · cases q
  · have hm := lookup_mem (show d.exs.lookup x = some fs from e)
    exact ⟨_, gl _ hm, excB_all (c6 _ hm) (ini _ hm)⟩
  · have hm : x ∈ d.hcs := by simpa [MD.G] using e
    obtain ⟨q1, q2⟩ := c7 x hm
    refine ⟨_, .inl (He.glo_ok KX hns q1), fun c fs C ec em => ?_⟩
    have hc := lookup_mem (show d.exs.lookup c = some fs from ec)
    have e1 := gl _ hc
    rw [em] at e1
    cases e1
    exact q2 _ hc

/-! ### the Hook -/
def obsX (chk : PySem.W.Frag → Bool) (fn : List He.DefD) (K : PySem.W.Frag) : He.AlD := (chk K && fn.all fun d => d.ok K, fn.map fun d => He.fnW K d.at_)
def SaysX (chk : PySem.W.Frag → Bool) (fn : List He.DefD) (K : PySem.W.Frag) : Prop := obsX chk fn K = He.valD fn
def obsXG (n : Nat) (chk : PySem.W.Frag → Bool) (fn : List He.DefD) (g : Addr → Option Obj) : He.AlD := obsX chk fn (He.frG g (He.asD g n))
def hookX (n : Nat) (chk : PySem.W.Frag → Bool) (fn : List He.DefD) : PySem.W.Hook where
  α := He.AlD
  val := fun _ => He.valD fn
  obs := fun s => obsXG n chk fn s.heap.get?
  says := fun _ h => ∃ K : PySem.W.Frag, K.In h ∧ SaysX chk fn K
  keeps := fun _ _ _ ⟨K, hK, c⟩ kk => ⟨K, PySem.W.Frag.In.keeps hK kk, c⟩
  of := fun _ _ e => ⟨_, He.frG_in, e⟩
theorem obsXG_eq {n : Nat} {chk : PySem.W.Frag → Bool} {fn : List He.DefD} {g : Addr → Option Obj} {s : Shared} (h : ∀ a, g a = s.heap.get? a) : obsXG n chk fn g = (hookX n chk fn).obs s := by
  rw [show g = s.heap.get? from funext h]; rfl
section
variable {chk : PySem.W.Frag → Bool} {fn : List He.DefD} {K : PySem.W.Frag}
theorem SaysX.holds (c : SaysX chk fn K) : chk K = true := (He.ba (show (chk K && fn.all fun d => d.ok K) = true from congrArg (fun z : He.AlD => z.1) c)).1
theorem SaysX.def_ (c : SaysX chk fn K) (i : Nat) {d : He.DefD} (h : fn[i]? = some d) : ∃ fd, FunD K d.name d.qual d.params d.body d.scope (d.dvs K) (d.kws K) (He.fAd K d.at_) fd := by
  have c2 := (He.ba (show (chk K && fn.all fun d => d.ok K) = true from congrArg (fun z : He.AlD => z.1) c)).2
  have e : fn.map (fun d => He.fnW K d.at_) = fn.map He.DefD.val := congrArg (fun z : He.AlD => z.2) c
  have e2 := congrArg (fun l => l[i]?) e
  simp only [List.getElem?_map, h, Option.map_some, Option.some.injEq] at e2
  exact He.DefD.funD e2 (List.all_eq_true.mp c2 d (List.mem_of_getElem? h))
end

def clsBody : Stmt → List Stmt
  | .ClassDef _ _ _ b .. => b
  | _ => []
theorem glo_at {K : PySem.W.Frag} {h : Heap} {mg : Str → Option Value} {gls : List Str} (X : K.In h) (G : h.Ns mainGlobals mg) (c : (gls.all fun x => (He.Fa.glo x).ok K) = true) (i : Nat) {x : Str} (e : gls[i]? = some x) : mg x = some (.ref (He.ga K x)) :=
  He.glo_ok X G (List.all_eq_true.mp c x (List.mem_of_getElem? e))

/-! ### a law's end -/
/-- a context of the module, for what hangs on the module alone -/
def cx0 (P : Program) (w : World) (K : PySem.W.Frag) (mg : Str → Option Value) (base : Heap) : Cx :=
  cxOf (CX P w) P w K mg base [] Str.empty ⟨.function, [], false, false, []⟩ 0 .none callerA [] {} (fun _ => none) (fun _ _ _ => False)
theorem law_sp {G : GG} {X : Cx} {F : List PV → M PV} {H : Hp} {a : Addr} {ns : List Int} (hO : Only H) (hS : SqL X.K H a (ns.map V.int)) (hF : ∃ h', F [.ref 0] [.rls (ns.map PV.int)] = .ok (.bl true) h') :
    spF G X F 1 [.ref a] H (fun v _ => v = .bl true) fun _ _ _ => False := by
  have hq : SqF X.K H a (ns.map V.int) := by
    rcases hS with (z | ⟨o, z⟩) | z
    · rcases hO a with y | ⟨o, xs, y⟩
      · rw [y] at z; cases z
      · rw [y] at z; cases z
    · exact .inl ⟨o, z⟩
    · exact .inr z
  have hr : ∀ ns : List Int, Rvs X.K H [a] (ns.map PV.int) (ns.map V.int) := fun ns => by
    induction ns with
    | nil => simp [Rvs]
    | cons i r ih => exact Rvs.cons (by simp [Rv]) ih
  obtain ⟨h', e⟩ := hF
  refine ⟨rfl, [.ref 0], [.rls (ns.map PV.int)], [a], ⟨rfl, fun m o b e1 e2 => ?_, fun m m' b o u e1 e2 e3 e4 w1 w2 => ?_⟩, ?_, ?_⟩
  · cases m with
    | zero =>
      simp only [List.getElem?_cons_zero, Option.some.injEq] at e1 e2
      subst e1; subst e2
      exact ⟨_, hq, hr ns⟩
    | succ m => simp at e1
  · cases m with
    | zero =>
      simp only [List.getElem?_cons_zero, Option.some.injEq] at e1
      subst e1
      cases w1
    | succ m => simp at e1
  · exact Rvs.cons (by simp [Rv]) Rvs.nil
  · rw [e]
    intro b H' ad' x s r
    simpa [RvX, Rv] using r
theorem walk_w {l : PySem.W.OpenLaw} {n k : Nat} {q : Program} {loose : List Str} {XP : (Str → Option Value) → Heap → Prop} {YP : World → Heap → Prop} {d : DefRec} {x : Str} (e1 : l.most = some n) (e2 : n ≤ sizeLine) (e3 : d.params.defaults = []) (room : Room k callerA)
    (give : ∀ (w : World) (mg : Str → Option Value) (fa : Addr) (h : Heap), YP w h → h.Ns mainGlobals mg → mg d.name = some (.ref fa) → ∃ (K : PySem.W.Frag) (fd : FuncData) (sp : Sp), K.In h ∧ (∀ (s : Shared) (u : Value), BindsTo s fd ⟨[u], []⟩ [(x, u)]) ∧
      (∀ (H : Hp) (a : Addr) (ns : List Int), ns.length ≤ n → Only H → SqL K H a (ns.map V.int) → sp [.ref a] H (fun v _ => v = .bl true) fun _ _ _ => False) ∧ ∀ base : Heap, K.In base → base.Ns mainGlobals mg → FnOk l.prog w K mg base (CX l.prog w) k fa fd [x] sp) :
    PySem.W.WalkO q loose XP YP l.row.toRowW d [] (fun f vs => PySem.call f vs) :=
  Att.attach_call e1 e3 fun w s₀ s₁ mg mb fa o pm cd doc a vs ns G Y ho hd hcd hmg hobj hints hlen hg => by
    obtain ⟨K, fd, sp, KX, hb, hsp, hF⟩ := give w mg fa _ Y G.T.g hmg
    refine law_call KX G.T.g G.T.b G.T.builtins G.T.nolimit hg hobj hints (Nat.le_trans hlen e2) room hF hb (fun H hO hS => hsp H a ns hlen hO hS) fun H e s' z => ?_
    obtain ⟨_, _, _, _, _, _, _, _, _, _, _, _, y⟩ := z
    exact y
end FL
namespace FL
/-! FLW: what is wanted of a run of the evaluator; rules for simp, loops, heaps. -/
def Res.sat0 {α : Type} (r : Res α) (Q : α → MH → Prop) (E : Exc → MH → Prop) : Prop := match r with
  | .ok a h => Q a h
  | .exc c h => E c h
  | .bad => False
def RS.sat0 (r : RS) (Q : Fl → Fr → MH → Prop) (E : Exc → Fr → MH → Prop) : Prop := match r with
  | .ok f fr h => Q f fr h
  | .exc c fr h => E c fr h
  | .bad => False
section
variable {α β : Type} {Q : α → MH → Prop} {E : Exc → MH → Prop}
@[simp] theorem ite_app {c : Prop} [Decidable c] {a b : M α} {h : MH} : (if c then a else b) h = if c then a h else b h := by split <;> rfl
/-- nothing is raised -/
abbrev noE : Exc → MH → Prop := fun _ _ => False
end
section
variable {Q : Fl → Fr → MH → Prop} {E : Exc → Fr → MH → Prop}
/-- behind a statement -/
def sqK (K : Fr → MH → Prop) (Q : Fl → Fr → MH → Prop) : Fl → Fr → MH → Prop
  | .nx, fr, h => K fr h
  | f, fr, h => Q f fr h
@[simp] theorem sqK_nx {K : Fr → MH → Prop} {fr : Fr} {h : MH} : sqK K Q .nx fr h = K fr h := rfl
@[simp] theorem sqK_bk {K : Fr → MH → Prop} {fr : Fr} {h : MH} : sqK K Q .bk fr h = Q .bk fr h := rfl
@[simp] theorem sqK_ct {K : Fr → MH → Prop} {fr : Fr} {h : MH} : sqK K Q .ct fr h = Q .ct fr h := rfl
@[simp] theorem sqK_rt {K : Fr → MH → Prop} {fr : Fr} {h : MH} {v : PV} : sqK K Q (.rt v) fr h = Q (.rt v) fr h := rfl
/-- a def's end -/
def outK (Q : PV → MH → Prop) : Fl → Fr → MH → Prop
  | .rt v, _, h => Q v h
  | .nx, _, h => Q .non h
  | _, _, _ => False
@[simp] theorem outK_rt {Q : PV → MH → Prop} {v : PV} {fr : Fr} {h : MH} : outK Q (.rt v) fr h = Q v h := rfl
@[simp] theorem outK_nx {Q : PV → MH → Prop} {fr : Fr} {h : MH} : outK Q .nx fr h = Q .non h := rfl
@[simp] theorem outK_bk {Q : PV → MH → Prop} {fr : Fr} {h : MH} : outK Q .bk fr h = False := rfl
@[simp] theorem outK_ct {Q : PV → MH → Prop} {fr : Fr} {h : MH} : outK Q .ct fr h = False := rfl
/-- a loop's turn's end -/
def lpK (I : Fr → MH → Prop) (Q : Fl → Fr → MH → Prop) : Fl → Fr → MH → Prop
  | .nx, fr, h => I fr h
  | .ct, fr, h => I fr h
  | .bk, fr, h => Q .nx fr h
  | .rt v, fr, h => Q (.rt v) fr h
@[simp] theorem lpK_nx {I : Fr → MH → Prop} {fr : Fr} {h : MH} : lpK I Q .nx fr h = I fr h := rfl
@[simp] theorem lpK_ct {I : Fr → MH → Prop} {fr : Fr} {h : MH} : lpK I Q .ct fr h = I fr h := rfl
@[simp] theorem lpK_bk {I : Fr → MH → Prop} {fr : Fr} {h : MH} : lpK I Q .bk fr h = Q .nx fr h := rfl
@[simp] theorem lpK_rt {I : Fr → MH → Prop} {fr : Fr} {h : MH} {v : PV} : lpK I Q (.rt v) fr h = Q (.rt v) fr h := rfl
end
/-! ### comprehensions -/
/-! ### heaps -/
/-- the objects of h0 stand as they were, but those in S -/
structure Kept (S : List Nat) (h0 h : MH) : Prop where
  len : h0.length ≤ h.length
  get : ∀ n, n < h0.length → n ∉ S → h[n]? = h0[n]?
theorem Kept.refl (S : List Nat) (h : MH) : Kept S h h := ⟨Nat.le_refl _, fun _ _ _ => rfl⟩
theorem Kept.trans {S : List Nat} {h0 h1 h2 : MH} (a : Kept S h0 h1) (b : Kept S h1 h2) : Kept S h0 h2 := ⟨Nat.le_trans a.len b.len, fun n hn hs => (b.get n (Nat.lt_of_lt_of_le hn a.len) hs).trans (a.get n hn hs)⟩
theorem Kept.mono {S T : List Nat} {h0 h1 : MH} (a : Kept S h0 h1) (hs : ∀ n ∈ S, n ∈ T) : Kept T h0 h1 := ⟨a.len, fun n hn ht => a.get n hn fun z => ht (hs n z)⟩
theorem Kept.any {T : List Nat} {h0 h1 : MH} (a : Kept [] h0 h1) : Kept T h0 h1 := a.mono fun _ z => nomatch z
theorem Kept.app {S : List Nat} {h0 h : MH} (a : Kept S h0 h) (g : MH) : Kept S h0 (h ++ g) := ⟨by simp; have := a.len; omega, fun n hn hs => by rw [List.getElem?_append_left (Nat.lt_of_lt_of_le hn a.len)]; exact a.get n hn hs⟩
theorem Kept.setNew {S : List Nat} {h0 h : MH} (a : Kept S h0 h) {n : Nat} (hn : h0.length ≤ n) (o : MO) : Kept S h0 (h.set n o) := ⟨by simpa using a.len, fun k hk hs => by rw [List.getElem?_set_ne (by omega)]; exact a.get k hk hs⟩
theorem Kept.setIn {S : List Nat} {h0 h : MH} (a : Kept S h0 h) {n : Nat} (hn : n ∈ S) (o : MO) : Kept S h0 (h.set n o) := ⟨by simpa using a.len, fun k hk hs => by
  rw [List.getElem?_set_ne (fun (z : n = k) => hs (by rw [← z]; exact hn))]; exact a.get k hk hs⟩
theorem Kept.at {S : List Nat} {h0 h : MH} (a : Kept S h0 h) {n : Nat} {o : MO} (e : h0[n]? = some o) (hs : n ∉ S) : h[n]? = some o := by
  rw [a.get n (List.getElem?_eq_some_iff.mp e).1 hs]; exact e
theorem lget_lt {h : MH} {n : Nat} {xs : List PV} (e : lget h n = some xs) : n < h.length := by
  by_cases hn : n < h.length
  · exact hn
  · unfold lget at e
    rw [List.getElem?_eq_none (by omega)] at e
    cases e
theorem Kept.lget {S : List Nat} {h0 h : MH} (a : Kept S h0 h) {n : Nat} {xs : List PV} (e : FL.lget h0 n = some xs) (hs : n ∉ S) : FL.lget h n = some xs := by
  have hn := lget_lt e
  unfold FL.lget at e ⊢
  rw [a.get n hn hs]; exact e
theorem lget_lst {h : MH} {n : Nat} {xs : List PV} (e : h[n]? = some (.lst xs)) : lget h n = some xs := by unfold lget; rw [e]
theorem wl_lst {h : MH} {n : Nat} {xs : List PV} (e : h[n]? = some (.lst xs)) : wl h n = some xs := by unfold wl; rw [e]
@[simp] theorem get_new {h : MH} {o : MO} : (h ++ [o])[h.length]? = some o := by simp
theorem get_set {h : MH} {n : Nat} {o o' : MO} (e : h[n]? = some o) : (h.set n o')[n]? = some o' := by
  rw [List.getElem?_set_self (List.getElem?_eq_some_iff.mp e).1]
/-! ### the evaluator, form by form -/
section
variable {G : GG} {fr : Fr} {h : MH} {Q : PV → MH → Prop} {E : Exc → MH → Prop}
/-- a value that is a truth -/
def blK (K : Bool → MH → Prop) (v : PV) (h : MH) : Prop := match v with
  | .bl b => K b h
  | _ => False
@[simp] theorem blK_bl {K : Bool → MH → Prop} {b : Bool} : blK K (.bl b) h = K b h := rfl
section
variable {K : List PV → MH → Prop}
end
section
variable {K : Bool → MH → Prop}
end
section
variable {K : IT → MH → Prop}
/-- what a value gives to a walk -/
def itK (K : IT → MH → Prop) (x : PV) (h : MH) : Prop := match x with
  | .ref n => (lget h n).isSome = true ∧ K (.lst n) h
  | .tup xs => K (.seq xs) h
  | .str l => K (.seq (l.map fun c => .str [c])) h
  | _ => False
@[simp] theorem itK_ref {n : Nat} : itK K (.ref n) h = ((lget h n).isSome = true ∧ K (.lst n) h) := rfl
@[simp] theorem itK_tup {xs : List PV} : itK K (.tup xs) h = K (.seq xs) h := rfl
@[simp] theorem itK_str {l : List Char} : itK K (.str l) h = K (.seq (l.map fun c => .str [c])) h := rfl
end
end
section
variable {G : GG} {fr : Fr} {h : MH} {Q : Fl → Fr → MH → Prop} {E : Exc → Fr → MH → Prop}
end
namespace Raw
section
variable {α β : Type} {Q : α → MH → Prop} {E : Exc → MH → Prop}
@[simp] theorem sat_ok {a : α} {h : MH} : (Res.ok a h).sat0 Q E = Q a h := rfl
@[simp] theorem sat_exc {c : Exc} {h : MH} : (Res.exc c h : Res α).sat0 Q E = E c h := rfl
@[simp] theorem sat_bad : (Res.bad : Res α).sat0 Q E = False := rfl
@[simp] theorem sat_ret {a : α} {h : MH} : (M.ret a h).sat0 Q E = Q a h := rfl
@[simp] theorem sat_pure {a : α} {h : MH} : ((pure a : M α) h).sat0 Q E = Q a h := rfl
@[simp] theorem sat_badM {h : MH} : ((M.bad : M α) h).sat0 Q E = False := rfl
@[simp] theorem sat_bind {m : M β} {f : β → M α} {h : MH} : ((m >>= f) h).sat0 Q E = (m h).sat0 (fun a h' => (f a h').sat0 Q E) E := by
  rw [bind_eq]; cases m h <;> rfl
@[simp] theorem sat_nx {m : M α} {h : MH} : (m.nx h).sat0 Q E = (m h).sat0 Q (fun _ _ => False) := by
  unfold M.nx; cases m h <;> rfl
@[simp] theorem sat_ite {c : Prop} [Decidable c] {a b : Res α} : (if c then a else b).sat0 Q E = if c then a.sat0 Q E else b.sat0 Q E := by split <;> rfl
theorem sat_mono {r : Res α} {Q' : α → MH → Prop} {E' : Exc → MH → Prop} (s : r.sat0 Q E) (hq : ∀ a h, Q a h → Q' a h) (he : ∀ c h, E c h → E' c h) : r.sat0 Q' E' := by
  cases r with
  | ok a h => exact hq _ _ s
  | exc c h => exact he _ _ s
  | bad => exact s
theorem sat_ex {r : Res α} (s : r.sat0 Q (fun _ _ => False)) : ∃ a h, r = .ok a h ∧ Q a h := by
  cases r with
  | ok a h => exact ⟨a, h, rfl, s⟩
  | exc c h => exact s.elim
  | bad => exact s.elim
theorem sat_to {r : Res α} {Q' : α → MH → Prop} (s : r.sat0 Q noE) (hq : ∀ a h, Q a h → Q' a h) : r.sat0 Q' E := sat_mono s hq fun _ _ z => z.elim
end
section
variable {Q : Fl → Fr → MH → Prop} {E : Exc → Fr → MH → Prop}
@[simp] theorem ssat_ok {f : Fl} {fr : Fr} {h : MH} : (RS.ok f fr h).sat0 Q E = Q f fr h := rfl
@[simp] theorem ssat_exc {c : Exc} {fr : Fr} {h : MH} : (RS.exc c fr h).sat0 Q E = E c fr h := rfl
@[simp] theorem ssat_bad : RS.bad.sat0 Q E = False := rfl
@[simp] theorem ssat_ite {c : Prop} [Decidable c] {a b : RS} : (if c then a else b).sat0 Q E = if c then a.sat0 Q E else b.sat0 Q E := by split <;> rfl
@[simp] theorem ssat_of {α : Type} {r : Res α} {fr : Fr} {k : α → MH → RS} : (RS.of r fr k).sat0 Q E = r.sat0 (fun a h => (k a h).sat0 Q E) (fun c h => E c fr h) := by
  cases r <;> rfl
theorem ssat_mono {r : RS} {Q' : Fl → Fr → MH → Prop} {E' : Exc → Fr → MH → Prop} (s : r.sat0 Q E) (hq : ∀ f fr h, Q f fr h → Q' f fr h) (he : ∀ c fr h, E c fr h → E' c fr h) : r.sat0 Q' E' := by
  cases r with
  | ok f fr h => exact hq _ _ _ s
  | exc c fr h => exact he _ _ _ s
  | bad => exact s
@[simp] theorem ssat_nil {G : GG} {fr : Fr} {h : MH} : (evSs0 G .nil fr h).sat0 Q E = Q .nx fr h := rfl
@[simp] theorem ssat_cons {G : GG} {s : CS} {r : CSs} {fr : Fr} {h : MH} : (evSs0 G (.cons s r) fr h).sat0 Q E = (evS0 G s fr h).sat0 (sqK (fun fr h => (evSs0 G r fr h).sat0 Q E) Q) E := by
  show (match evS0 G s fr h with
    | .ok .nx fr1 h1 => evSs0 G r fr1 h1
    | x => x).sat0 Q E = _
  cases evS0 G s fr h with
  | ok f fr h => cases f <;> rfl
  | exc c fr h => rfl
  | bad => rfl
theorem sat_runF {G : GG} {n m : Nat} {b : CSs} {ps : List PV} {h : MH} {Q : PV → MH → Prop} {E : Exc → MH → Prop} (hl : ps.length = n) (s : (evSs0 G b (ps.map some ++ List.replicate m none) h).sat0 (outK Q) fun c _ h => E c h) : (runF G n m b ps h).sat0 Q E := by
  unfold runF
  rw [if_pos hl]
  cases e : evSs0 G b (ps.map some ++ List.replicate m none) h with
  | ok f fr h' => rw [e] at s; cases f <;> exact s
  | exc c fr h' => rw [e] at s; exact s
  | bad => rw [e] at s; exact s
theorem sat_def {G : GG} {n m : Nat} {b : CSs} {ps : List PV} {h : MH} {Q : PV → MH → Prop} {E : Exc → MH → Prop} {fr : Fr} (hl : ps.length = n) (hf : ps.map some ++ List.replicate m none = fr) (s : (evSs0 G b fr h).sat0 (outK Q) fun c _ h => E c h) : (runF G n m b ps h).sat0 Q E := by
  subst hf
  exact sat_runF hl s
/-- a for loop whose walk gives the items xs -/
theorem sat_for {t : IT} {tg : CT} {body : Fr → MH → RS} {xs : List PV} {I : Nat → Fr → MH → Prop} (hat : ∀ i fr h, I i fr h → i ≤ xs.length → t.at i h = some xs[i]?)
    (step : ∀ i x fr h, xs[i]? = some x → I i fr h → ∃ fr1, setT tg x fr = some fr1 ∧ (body fr1 h).sat0 (lpK (I (i + 1)) Q) E) (fin : ∀ fr h, I xs.length fr h → Q .nx fr h) :
    ∀ (f i : Nat) (fr : Fr) (h : MH), xs.length < i + f → i ≤ xs.length → I i fr h → (forR0 t tg body f i fr h).sat0 Q E
  | 0, i, fr, h, hf, hi, hI => by omega
  | f + 1, i, fr, h, hf, hi, hI => by
    unfold forR0
    rw [hat i fr h hI hi]
    by_cases hlt : i < xs.length
    · have hx : xs[i]? = some xs[i] := List.getElem?_eq_getElem hlt
      rw [hx]
      obtain ⟨fr1, e1, s1⟩ := step i _ fr h hx hI
      dsimp only
      rw [e1]
      dsimp only
      cases er : body fr1 h with
      | ok fl fr2 h2 =>
        rw [er] at s1
        cases fl with
        | nx => exact sat_for hat step fin f (i + 1) fr2 h2 (by omega) hlt s1
        | ct => exact sat_for hat step fin f (i + 1) fr2 h2 (by omega) hlt s1
        | bk => exact s1
        | rt v => exact s1
      | exc c fr2 h2 => rw [er] at s1; exact s1
      | bad => rw [er] at s1; exact s1
    · have : i = xs.length := by omega
      subst this
      rw [List.getElem?_eq_none (Nat.le_refl _)]
      exact fin fr h hI
/-- over a tuple, a text, a range -/
theorem sat_forS {xs : List PV} {tg : CT} {body : Fr → MH → RS} {fr : Fr} {h hF : MH} (I : Nat → Fr → MH → Prop) (h0 : I 0 fr h)
    (step : ∀ i x fr h, xs[i]? = some x → I i fr h → ∃ fr1, setT tg x fr = some fr1 ∧ (body fr1 h).sat0 (lpK (I (i + 1)) Q) E) (fin : ∀ fr h, I xs.length fr h → Q .nx fr h) :
    (forR0 (.seq xs) tg body ((IT.seq xs).fuel hF) 0 fr h).sat0 Q E :=
  sat_for (t := .seq xs) (fun i fr h _ _ => rfl) step fin _ 0 fr h (by show xs.length < 0 + (xs.length + 1); omega) (Nat.zero_le _) h0
/-- over a list that stays -/
theorem sat_forL {n : Nat} {xs : List PV} {tg : CT} {body : Fr → MH → RS} {fr : Fr} {h : MH} (hn : lget h n = some xs) (I : Nat → Fr → MH → Prop) (h0 : I 0 fr h) (stay : ∀ i fr h, I i fr h → lget h n = some xs)
    (step : ∀ i x fr h, xs[i]? = some x → I i fr h → ∃ fr1, setT tg x fr = some fr1 ∧ (body fr1 h).sat0 (lpK (I (i + 1)) Q) E) (fin : ∀ fr h, I xs.length fr h → Q .nx fr h) :
    (forR0 (.lst n) tg body ((IT.lst n).fuel h) 0 fr h).sat0 Q E :=
  sat_for (t := .lst n) (fun i fr h hI _ => by show (lget h n).map _ = _; rw [stay i fr h hI]; rfl) step fin _ 0 fr h (by show xs.length < 0 + (((lget h n).getD []).length + 1); rw [hn]; simp) (Nat.zero_le _) h0
theorem sat_forE {n : Nat} {xs : List PV} {tg : CT} {body : Fr → MH → RS} {fr : Fr} {h : MH} (hn : lget h n = some xs) (I : Nat → Fr → MH → Prop) (h0 : I 0 fr h) (stay : ∀ i fr h, I i fr h → lget h n = some xs)
    (step : ∀ i x fr h, xs[i]? = some x → I i fr h → ∃ fr1, setT tg (.tup [.int (i : Nat), x]) fr = some fr1 ∧ (body fr1 h).sat0 (lpK (I (i + 1)) Q) E) (fin : ∀ fr h, I xs.length fr h → Q .nx fr h) :
    (forR0 (.enl n) tg body ((IT.enl n).fuel h) 0 fr h).sat0 Q E := by
  have key : ∀ i : Nat, (xs.mapIdx fun i x => PV.tup [.int (i : Nat), x])[i]? = xs[i]?.map fun x => PV.tup [.int (i : Nat), x] := fun i => by simp
  refine sat_for (t := .enl n) (xs := xs.mapIdx fun i x => PV.tup [.int (i : Nat), x]) (I := I) (fun i fr h hI _ => ?_) (fun i x fr h hx hI => ?_) (fun fr h hI => fin fr h (by simpa using hI)) _ 0 fr h (by show _ < 0 + (((lget h n).getD []).length + 1); rw [hn]; simp) (Nat.zero_le _) h0
  · show (lget h n).map _ = _
    rw [stay i fr h hI, key]; rfl
  · rw [key] at hx
    cases e : xs[i]? with
    | none => rw [e] at hx; cases hx
    | some y =>
      rw [e] at hx
      simp only [Option.map_some, Option.some.injEq] at hx
      subst hx
      exact step i y fr h e hI
/-- a while loop: the measure goes down -/
theorem sat_whl {c : Fr → M Bool} {body : Fr → MH → RS} (I : Nat → Fr → MH → Prop) (step : ∀ m fr h, I m fr h → (c fr h).sat0 (fun b h1 => if b then (body fr h1).sat0 (lpK (fun fr2 h2 => ∃ m', m' < m ∧ I m' fr2 h2) Q) E else Q .nx fr h1) (fun x h1 => E x fr h1)) :
    ∀ (n m : Nat) (fr : Fr) (h : MH), m < n → I m fr h → (whlR0 c body n fr h).sat0 Q E
  | 0, m, fr, h, hn, hI => by omega
  | n + 1, m, fr, h, hn, hI => by
    unfold whlR0
    rw [ssat_of]
    refine sat_mono (step m fr h hI) (fun b h1 s => ?_) fun _ _ z => z
    cases b with
    | false => simpa using s
    | true =>
      simp only [if_true] at s ⊢
      cases er : body fr h1 with
      | ok fl fr2 h2 =>
        rw [er] at s
        cases fl with
        | nx => obtain ⟨m', hm, hI'⟩ := s; exact sat_whl I step n m' fr2 h2 (by omega) hI'
        | ct => obtain ⟨m', hm, hI'⟩ := s; exact sat_whl I step n m' fr2 h2 (by omega) hI'
        | bk => exact s
        | rt v => exact s
      | exc c fr2 h2 => rw [er] at s; exact s
      | bad => rw [er] at s; exact s
end
/-- J: what holds behind the turn i, the new list at n having acc -/
theorem sat_compL {t : IT} {n : Nat} {step : PV → M (Option PV)} {xs : List PV} {J : Nat → List PV → MH → Prop} {Q : Unit → MH → Prop} {E : Exc → MH → Prop} (hat : ∀ i acc h, J i acc h → i ≤ xs.length → t.at i h = some xs[i]?)
    (hs : ∀ i x acc h, xs[i]? = some x → J i acc h → (step x h).sat0 (fun r h2 => match r with
      | none => J (i + 1) acc h2
      | some v => wl h2 n = some acc ∧ acc.length < big ∧ J (i + 1) (acc ++ [v]) (h2.set n (.lst (acc ++ [v])))) noE) (fin : ∀ acc h, J xs.length acc h → Q () h) :
    ∀ (f i : Nat) (acc : List PV) (h : MH), xs.length < i + f → i ≤ xs.length → J i acc h → (compL0 t n step f i h).sat0 Q E
  | 0, i, acc, h, hf, hi, hJ => by omega
  | f + 1, i, acc, h, hf, hi, hJ => by
    unfold compL0
    rw [hat i acc h hJ hi]
    by_cases hlt : i < xs.length
    · have hx : xs[i]? = some xs[i] := List.getElem?_eq_getElem hlt
      rw [hx]
      have s := hs i _ acc h hx hJ
      dsimp only
      cases er : step xs[i] h with
      | ok r h2 =>
        rw [er] at s
        cases r with
        | none => exact sat_compL hat hs fin f (i + 1) acc h2 (by omega) hlt s
        | some v =>
          obtain ⟨e, hl, hJ'⟩ := s
          dsimp only
          rw [e]
          dsimp only
          rw [if_pos hl]
          exact sat_compL hat hs fin f (i + 1) _ _ (by omega) hlt hJ'
      | exc c h2 => rw [er] at s; exact s.elim
      | bad => rw [er] at s; exact s.elim
    · have : i = xs.length := by omega
      subst this
      rw [List.getElem?_eq_none (Nat.le_refl _)]
      exact fin acc h hJ
section
variable {G : GG} {fr : Fr} {h : MH} {Q : PV → MH → Prop} {E : Exc → MH → Prop}
@[simp] theorem w_loc {i : Nat} : (evE0 G (.loc i) fr h).sat0 Q E = (match fr[i]? with | some (some p) => Q p h | _ => False) := by
  show (match fr[i]? with | some (some p) => Res.ok p h | _ => .bad).sat0 Q E = _
  split <;> rfl
@[simp] theorem w_glb {x : PySem.Str} : (evE0 G (.glb x) fr h).sat0 Q E = (match G.cons x with | some p => Q p h | none => False) := by
  show (match G.cons x with | some p => Res.ok p h | none => .bad).sat0 Q E = _
  split <;> rfl
@[simp] theorem w_cst {c : PV} : (evE0 G (.cst c) fr h).sat0 Q E = Q c h := rfl
@[simp] theorem w_bin {op : PySem.Operator} {a b : CE} : (evE0 G (.bin op a b) fr h).sat0 Q E = (evE0 G a fr h).sat0 (fun x h1 => (evE0 G b fr h1).sat0 (fun y h2 => (binM op x y h2).sat0 Q noE) E) E := by
  show ((evE0 G a fr >>= fun x => evE0 G b fr >>= fun y => (binM op x y).nx) h).sat0 Q E = _
  simp only [sat_bind, sat_nx]
@[simp] theorem w_neg {a : CE} : (evE0 G (.neg a) fr h).sat0 Q E = (evE0 G a fr h).sat0 (fun x h1 => match x with | .int i => Q (.int (-i)) h1 | _ => False) E := by
  show ((evE0 G a fr >>= fun x => match x with | .int i => M.ret (.int (-i)) | _ => M.bad) h).sat0 Q E = _
  rw [sat_bind]; congr 1; funext x h1; cases x <;> rfl
@[simp] theorem w_cmp {op : PySem.CmpOp} {a b : CE} : (evE0 G (.cmp op a b) fr h).sat0 Q E = (evE0 G a fr h).sat0 (fun x h1 => (evE0 G b fr h1).sat0 (fun y h2 => (cmpM op x y h2).sat0 Q noE) E) E := by
  show ((evE0 G a fr >>= fun x => evE0 G b fr >>= fun y => (cmpM op x y).nx) h).sat0 Q E = _
  simp only [sat_bind, sat_nx]
@[simp] theorem sat_isBl {v : PV} {K : Bool → MH → Prop} : (isBl v h).sat0 K E = blK K v h := by cases v <;> rfl
@[simp] theorem w_chn {o1 o2 : PySem.CmpOp} {a b c : CE} : (evE0 G (.chn o1 o2 a b c) fr h).sat0 Q E = (evE0 G a fr h).sat0 (fun x h1 => (evE0 G b fr h1).sat0 (fun y h2 => (cmpM o1 x y h2).sat0 (blK fun k h3 => if k then (evE0 G c fr h3).sat0 (fun z h4 => (cmpM o2 y z h4).sat0 Q noE) E else Q (.bl false) h3) noE) E) E := by
  show ((evE0 G a fr >>= fun x => evE0 G b fr >>= fun y => (cmpM o1 x y).nx >>= fun r => isBl r >>= fun k => if k then (evE0 G c fr >>= fun z => (cmpM o2 y z).nx) else M.ret (.bl false)) h).sat0 Q E = _
  simp only [sat_bind, sat_nx, sat_isBl]
  congr 1; funext x h1; congr 1; funext y h2
  cases cmpM o1 x y h2 with
  | ok r h3 =>
    simp only [sat_ok]
    cases r <;> first | rfl | skip
    rename_i k
    cases k <;> simp [sat_bind, sat_nx]
  | exc c h3 => rfl
  | bad => rfl
@[simp] theorem w_bop {k : Bool} {es : CEs} : (evE0 G (.bop k es) fr h).sat0 Q E = (evB0 G k es fr h).sat0 Q E := rfl
@[simp] theorem w_bop1 {k : Bool} {e : CE} : (evB0 G k (.cons e .nil) fr h).sat0 Q E = (evE0 G e fr h).sat0 Q E := rfl
@[simp] theorem w_bop2 {k : Bool} {e f : CE} {es : CEs} : (evB0 G k (.cons e (.cons f es)) fr h).sat0 Q E = (evE0 G e fr h).sat0 (blK fun b h1 => if b == k then (evB0 G k (.cons f es) fr h1).sat0 Q E else Q (.bl b) h1) E := by
  show ((evE0 G e fr >>= fun x => isBl x >>= fun b => if b == k then evB0 G k (.cons f es) fr else M.ret (.bl b)) h).sat0 Q E = _
  simp only [sat_bind, sat_isBl, ite_app, sat_ite, sat_ret]
@[simp] theorem w_nt {a : CE} : (evE0 G (.nt a) fr h).sat0 Q E = (evE0 G a fr h).sat0 (blK fun b h1 => Q (.bl (!b)) h1) E := by
  show ((evE0 G a fr >>= fun x => isBl x >>= fun b => M.ret (.bl (!b))) h).sat0 Q E = _
  simp only [sat_bind, sat_isBl, sat_ret]
@[simp] theorem w_sub {a i : CE} : (evE0 G (.sub a i) fr h).sat0 Q E = (evE0 G a fr h).sat0 (fun x h1 => (evE0 G i fr h1).sat0 (fun y h2 => (ixM x y h2).sat0 Q noE) E) E := by
  show ((evE0 G a fr >>= fun x => evE0 G i fr >>= fun y => (ixM x y).nx) h).sat0 Q E = _
  simp only [sat_bind, sat_nx]
@[simp] theorem w_slc {a : CE} {lo hi : CO} : (evE0 G (.slc a lo hi) fr h).sat0 Q E = (evE0 G a fr h).sat0 (fun x h1 => (evO0 G lo fr h1).sat0 (fun l h2 => (evO0 G hi fr h2).sat0 (fun u h3 => (slcM x l u h3).sat0 Q noE) E) E) E := by
  show ((evE0 G a fr >>= fun x => evO0 G lo fr >>= fun l => evO0 G hi fr >>= fun u => (slcM x l u).nx) h).sat0 Q E = _
  simp only [sat_bind, sat_nx]
@[simp] theorem w_on {K : Option Int → MH → Prop} : (evO0 G .none fr h).sat0 K E = K none h := rfl
@[simp] theorem w_os {e : CE} {K : Option Int → MH → Prop} : (evO0 G (.some e) fr h).sat0 K E = (evE0 G e fr h).sat0 (fun x h1 => match x with | .int i => K (some i) h1 | _ => False) E := by
  show ((evE0 G e fr >>= fun x => match x with | .int i => M.ret (some i) | _ => M.bad) h).sat0 K E = _
  rw [sat_bind]; congr 1; funext x h1; cases x <;> rfl
@[simp] theorem w_tup {es : CEs} : (evE0 G (.tup es) fr h).sat0 Q E = (evEs0 G es fr h).sat0 (fun xs h1 => xs.length ≤ big ∧ Q (.tup xs) h1) E := by
  show ((evEs0 G es fr >>= fun xs => if xs.length ≤ big then M.ret (.tup xs) else M.bad) h).sat0 Q E = _
  simp only [sat_bind, ite_app, sat_ite, sat_ret, sat_badM]
  congr 1; funext xs h1; split <;> simp [*]
@[simp] theorem w_lst {es : CEs} : (evE0 G (.lst es) fr h).sat0 Q E = (evEs0 G es fr h).sat0 (fun xs h1 => xs.length ≤ big ∧ Q (.ref h1.length) (h1 ++ [.lst xs])) E := by
  show ((evEs0 G es fr >>= fun xs => if xs.length ≤ big then newL xs else M.bad) h).sat0 Q E = _
  simp only [sat_bind, ite_app, sat_ite, sat_badM]
  congr 1; funext xs h1; split <;> simp [*, newL]
@[simp] theorem w_dnew {tk : Bool} : (evE0 G (.dnew tk) fr h).sat0 Q E = Q (.ref h.length) (h ++ [if tk then .dtp [] else .dct []]) := rfl
@[simp] theorem w_call {f : PySem.Str} {es : CEs} : (evE0 G (.call f es) fr h).sat0 Q E = (match G.fns f with | some F => (evEs0 G es fr h).sat0 (fun xs h1 => (F xs h1).sat0 Q E) E | none => False) := by
  show ((match G.fns f with | some F => evEs0 G es fr >>= F | none => M.bad) h).sat0 Q E = _
  cases G.fns f with
  | none => rfl
  | some F => exact sat_bind
@[simp] theorem w_blt {b : BN} {es : CEs} : (evE0 G (.blt b es) fr h).sat0 Q E = (evEs0 G es fr h).sat0 (fun xs h1 => (bltM b xs h1).sat0 Q noE) E := by
  show ((evEs0 G es fr >>= fun xs => (bltM b xs).nx) h).sat0 Q E = _
  simp only [sat_bind, sat_nx]
@[simp] theorem w_mth {m : MN} {o : CE} {es : CEs} : (evE0 G (.mth m o es) fr h).sat0 Q E = (evE0 G o fr h).sat0 (fun x h1 => match kindT h1 x with | some T => okTM T m = true ∧ (evEs0 G es fr h1).sat0 (fun xs h2 => (mthM T m x xs h2).sat0 Q noE) E | none => False) E := by
  show ((evE0 G o fr >>= fun x => (fun h => match kindT h x with
      | some T => if okTM T m then .ok T h else .bad
      | none => .bad : M KT) >>= fun T => evEs0 G es fr >>= fun xs => (mthM T m x xs).nx) h).sat0 Q E = _
  rw [sat_bind]; congr 1; funext x h1
  rw [sat_bind]
  cases kindT h1 x with
  | none => rfl
  | some T =>
    dsimp only
    cases okTM T m <;> simp [sat_bind, sat_nx]
@[simp] theorem w_isi {a : CE} {ts : List TN} {tp : Bool} : (evE0 G (.isi a ts tp) fr h).sat0 Q E = (evE0 G a fr h).sat0 (fun x h1 => match pkOf h1 x with | some k => Q (.bl (ts.any (isTN k))) h1 | none => False) E := by
  show ((evE0 G a fr >>= fun x => isiM ts x) h).sat0 Q E = _
  rw [sat_bind]; congr 1; funext x h1
  unfold isiM
  cases pkOf h1 x <;> rfl
@[simp] theorem w_dd1 {k v : CE} : (evE0 G (.dd1 k v) fr h).sat0 Q E = (evE0 G k fr (h ++ [.dtp []])).sat0 (fun x h1 => (evE0 G v fr h1).sat0 (fun y h2 => (dsetM h.length x y h2).sat0 (fun _ h3 => Q (.ref h.length) h3) noE) E) E := by
  show ((evE0 G k fr >>= fun x => evE0 G v fr >>= fun y => (dsetM h.length x y).nx >>= fun _ => M.ret (.ref h.length)) (h ++ [.dtp []])).sat0 Q E = _
  simp only [sat_bind, sat_nx, sat_ret]
section
variable {K : List PV → MH → Prop}
@[simp] theorem w_es0 : (evEs0 G .nil fr h).sat0 K E = K [] h := rfl
@[simp] theorem w_es {e : CE} {es : CEs} : (evEs0 G (.cons e es) fr h).sat0 K E = (evE0 G e fr h).sat0 (fun x h1 => (evEs0 G es fr h1).sat0 (fun xs h2 => K (x :: xs) h2) E) E := by
  show ((evE0 G e fr >>= fun x => evEs0 G es fr >>= fun xs => M.ret (x :: xs)) h).sat0 K E = _
  simp only [sat_bind, sat_ret]
end
section
variable {K : Bool → MH → Prop}
@[simp] theorem w_all0 : (evAll0 G .nil fr h).sat0 K E = K true h := rfl
@[simp] theorem w_all1 {e : CE} : (evAll0 G (.cons e .nil) fr h).sat0 K E = (evE0 G e fr h).sat0 (blK K) E := by
  show ((evE0 G e fr >>= fun x => isBl x) h).sat0 K E = _
  simp only [sat_bind, sat_isBl]
end
section
variable {K : IT → MH → Prop}
@[simp] theorem w_val {e : CE} : (evI0 G (.val e) fr h).sat0 K E = (evE0 G e fr h).sat0 (itK K) E := by
  show ((evE0 G e fr >>= fun x => fun h => match x with
      | .ref n => match lget h n with
        | some _ => .ok (.lst n) h
        | none => .bad
      | .tup xs => .ok (.seq xs) h
      | .str l => .ok (.seq (l.map fun c => .str [c])) h
      | _ => .bad) h).sat0 K E = _
  rw [sat_bind]; congr 1; funext x h1
  cases x <;> first | rfl | skip
  rename_i n
  unfold itK
  dsimp only
  cases lget h1 n <;> simp
@[simp] theorem w_rng1 {e : CE} : (evI0 G (.rng1 e) fr h).sat0 K E = (evE0 G e fr h).sat0 (fun x h1 => match x with | .int i => okR i = true ∧ K (.seq (nats 0 i.toNat)) h1 | _ => False) E := by
  show ((evE0 G e fr >>= fun x => match x with | .int i => if okR i then M.ret (.seq (nats 0 i.toNat)) else M.bad | _ => M.bad) h).sat0 K E = _
  rw [sat_bind]; congr 1; funext x h1
  cases x <;> first | rfl | skip
  rename_i i
  dsimp only
  cases okR i <;> simp
@[simp] theorem w_rng2 {a b : CE} : (evI0 G (.rng2 a b) fr h).sat0 K E = (evE0 G a fr h).sat0 (fun x h1 => (evE0 G b fr h1).sat0 (fun y h2 => match x, y with | .int i, .int j => (okR i && okR j) = true ∧ K (.seq (nats i (j - i).toNat)) h2 | _, _ => False) E) E := by
  show ((evE0 G a fr >>= fun x => evE0 G b fr >>= fun y => match x, y with
    | .int i, .int j => if okR i && okR j then M.ret (.seq (nats i (j - i).toNat)) else M.bad
    | _, _ => M.bad) h).sat0 K E = _
  rw [sat_bind]; congr 1; funext x h1; rw [sat_bind]; congr 1; funext y h2
  cases x <;> cases y <;> first | rfl | skip
  rename_i i j
  dsimp only
  cases okR i && okR j <;> simp
@[simp] theorem w_enm {e : CE} : (evI0 G (.enm e) fr h).sat0 K E = (evE0 G e fr h).sat0 (fun x h1 => match x with | .ref n => (lget h1 n).isSome = true ∧ K (.enl n) h1 | _ => False) E := by
  show ((evE0 G e fr >>= fun x => fun h => match x with
      | .ref n => match lget h n with
        | some _ => .ok (.enl n) h
        | none => .bad
      | _ => .bad) h).sat0 K E = _
  rw [sat_bind]; congr 1; funext x h1
  cases x <;> first | rfl | skip
  rename_i n
  dsimp only
  cases lget h1 n <;> simp
end
end
section
variable {G : GG} {fr : Fr} {h : MH} {Q : Fl → Fr → MH → Prop} {E : Exc → Fr → MH → Prop}
@[simp] theorem ws_expr {e : CE} : (evS0 G (.expr e) fr h).sat0 Q E = (evE0 G e fr h).sat0 (fun _ h1 => Q .nx fr h1) (fun c h => E c fr h) := ssat_of
@[simp] theorem ws_asg {i : Nat} {e : CE} : (evS0 G (.asg i e) fr h).sat0 Q E = (evE0 G e fr h).sat0 (fun v h1 => Q .nx (fr.set i (some v)) h1) (fun c h => E c fr h) := ssat_of
@[simp] theorem ws_tas {is : List Nat} {e : CE} : (evS0 G (.tas is e) fr h).sat0 Q E = (evE0 G e fr h).sat0 (fun v h1 => match setT (.tup is) v fr with | some fr1 => Q .nx fr1 h1 | none => False) (fun c h => E c fr h) := by
  show (RS.of (evE0 G e fr h) fr fun v h1 => match setT (.tup is) v fr with | some fr1 => .ok .nx fr1 h1 | none => .bad).sat0 Q E = _
  rw [ssat_of]; congr 1; funext v h1; split <;> rfl
@[simp] theorem ws_sst {o i e : CE} : (evS0 G (.sst o i e) fr h).sat0 Q E = (evE0 G e fr h).sat0 (fun v h1 => (evE0 G o fr h1).sat0 (fun ov h2 => (evE0 G i fr h2).sat0 (fun iv h3 => (setM ov iv v h3).sat0 (fun _ h4 => Q .nx fr h4) noE) (fun c h => E c fr h)) (fun c h => E c fr h)) (fun c h => E c fr h) := by
  show (RS.of ((evE0 G e fr >>= fun v => evE0 G o fr >>= fun ov => evE0 G i fr >>= fun iv => (setM ov iv v).nx) h) fr fun _ h1 => .ok .nx fr h1).sat0 Q E = _
  simp only [ssat_of, sat_bind, sat_nx, ssat_ok]
@[simp] theorem ws_aug {i : Nat} {e : CE} : (evS0 G (.aug i e) fr h).sat0 Q E = (match fr[i]? with | some (some (.int a)) => (evE0 G e fr h).sat0 (fun v h1 => match v with | .int b => Q .nx (fr.set i (some (.int (a + b)))) h1 | _ => False) (fun c h => E c fr h) | _ => False) := by
  show (match fr[i]? with
    | some (some (.int a)) => RS.of (evE0 G e fr h) fr fun v h1 => match v with
      | .int b => .ok .nx (fr.set i (some (.int (a + b)))) h1
      | _ => .bad
    | _ => .bad).sat0 Q E = _
  split
  · rw [ssat_of]; congr 1; funext v h1; cases v <;> rfl
  · rfl
@[simp] theorem ws_ret {e : CE} : (evS0 G (.ret e) fr h).sat0 Q E = (evE0 G e fr h).sat0 (fun v h1 => Q (.rt v) fr h1) (fun c h => E c fr h) := ssat_of
@[simp] theorem ws_retN : (evS0 G .retN fr h).sat0 Q E = Q (.rt .non) fr h := rfl
@[simp] theorem ws_ite {c : CE} {a b : CSs} : (evS0 G (.ite c a b) fr h).sat0 Q E = (evE0 G c fr h).sat0 (blK fun k h1 => if k then (evSs0 G a fr h1).sat0 Q E else (evSs0 G b fr h1).sat0 Q E) (fun c h => E c fr h) := by
  show (RS.of ((evE0 G c fr >>= isBl) h) fr fun k h1 => if k then evSs0 G a fr h1 else evSs0 G b fr h1).sat0 Q E = _
  rw [ssat_of, sat_bind]; congr 1; funext v h1
  cases v <;> first | rfl | skip
  rename_i k
  cases k <;> rfl
theorem ws_whl {n : Nat} {c : CE} {b : CSs} : (evS0 G (.whl n c b) fr h).sat0 Q E = (whlR0 (fun fr => evE0 G c fr >>= isBl) (evSs0 G b) n fr h).sat0 Q E := rfl
theorem ws_for {t : CT} {it : CI} {b : CSs} : (evS0 G (.fors t it b) fr h).sat0 Q E = (evI0 G it fr h).sat0 (fun I h1 => (forR0 I t (evSs0 G b) (I.fuel h1) 0 fr h1).sat0 Q E) (fun c h => E c fr h) := ssat_of
@[simp] theorem ws_brk : (evS0 G .brk fr h).sat0 Q E = Q .bk fr h := rfl
@[simp] theorem ws_cnt : (evS0 G .cnt fr h).sat0 Q E = Q .ct fr h := rfl
@[simp] theorem ws_pas : (evS0 G .pas fr h).sat0 Q E = Q .nx fr h := rfl
@[simp] theorem ws_rse {c : PySem.Str} {es : CEs} : (evS0 G (.rse c es) fr h).sat0 Q E = (match G.exs c with | some fs => es.len = fs.length ∧ (evEs0 G es fr h).sat0 (fun xs h1 => (xs.length = fs.length ∧ xs.length ≤ 900) ∧ E ⟨c, xs⟩ fr h1) (fun c h => E c fr h) | none => False) := by
  show (match G.exs c with
    | some fs => if es.len = fs.length then RS.of (evEs0 G es fr h) fr fun xs h1 => if xs.length = fs.length ∧ xs.length ≤ 900 then .exc ⟨c, xs⟩ fr h1 else .bad
      else .bad
    | none => .bad).sat0 Q E = _
  cases G.exs c with
  | none => rfl
  | some fs =>
    dsimp only
    by_cases he : es.len = fs.length
    · rw [if_pos he, ssat_of]
      simp only [he, true_and]
      congr 1; funext xs h1
      by_cases q : xs.length = fs.length ∧ xs.length ≤ 900
      · rw [if_pos q, ssat_exc]; exact propext ⟨fun z => ⟨q, z⟩, fun z => z.2⟩
      · rw [if_neg q, ssat_bad]; exact propext ⟨fun z => z.elim, fun z => q z.1⟩
    · rw [if_neg he]; simp [he]
theorem ws_tri {b : CSs} {hs : CHs} (hk : hsKn G hs = true) : (evS0 G (.tri b hs) fr h).sat0 Q E = (evSs0 G b fr h).sat0 Q (fun c fr1 h1 => (evHs G hs c fr1 h1).sat0 Q E) := by
  show (if hsKn G hs then match evSs0 G b fr h with
      | .exc c fr1 h1 => evHs G hs c fr1 h1
      | r => r
    else .bad).sat0 Q E = _
  rw [if_pos hk]
  cases evSs0 G b fr h <;> rfl
end
end Raw
@[irreducible] def Res.sat {α : Type} (r : Res α) (Q : α → MH → Prop) (E : Exc → MH → Prop) : Prop := r.sat0 Q E
@[irreducible] def RS.sat (r : RS) (Q : Fl → Fr → MH → Prop) (E : Exc → Fr → MH → Prop) : Prop := r.sat0 Q E
@[irreducible] def evE (G : GG) (e : CE) (fr : Fr) : M PV := evE0 G e fr
@[irreducible] def evEs (G : GG) (e : CEs) (fr : Fr) : M (List PV) := evEs0 G e fr
@[irreducible] def evB (G : GG) (k : Bool) (e : CEs) (fr : Fr) : M PV := evB0 G k e fr
@[irreducible] def evAll (G : GG) (e : CEs) (fr : Fr) : M Bool := evAll0 G e fr
@[irreducible] def evO (G : GG) (e : CO) (fr : Fr) : M (Option Int) := evO0 G e fr
@[irreducible] def evI (G : GG) (e : CI) (fr : Fr) : M IT := evI0 G e fr
@[irreducible] def evS (G : GG) (e : CS) (fr : Fr) (h : MH) : RS := evS0 G e fr h
@[irreducible] def evSs (G : GG) (e : CSs) (fr : Fr) (h : MH) : RS := evSs0 G e fr h
@[irreducible] def forR (t : IT) (tg : CT) (body : Fr → MH → RS) (f i : Nat) (fr : Fr) (h : MH) : RS := forR0 t tg body f i fr h
@[irreducible] def whlR (c : Fr → M Bool) (body : Fr → MH → RS) (n : Nat) (fr : Fr) (h : MH) : RS := whlR0 c body n fr h
@[irreducible] def compL (t : IT) (n : Nat) (step : PV → M (Option PV)) (f i : Nat) : M Unit := compL0 t n step f i
section
variable {α β : Type} {Q : α → MH → Prop} {E : Exc → MH → Prop}
@[simp] theorem sat_ok {a : α} {h : MH} : (Res.ok a h).sat Q E = Q a h := by with_unfolding_all exact Raw.sat_ok
@[simp] theorem sat_exc {c : Exc} {h : MH} : (Res.exc c h : Res α).sat Q E = E c h := by with_unfolding_all exact Raw.sat_exc
@[simp] theorem sat_bad : (Res.bad : Res α).sat Q E = False := by with_unfolding_all exact Raw.sat_bad
@[simp] theorem sat_ret {a : α} {h : MH} : (M.ret a h).sat Q E = Q a h := by with_unfolding_all exact Raw.sat_ret
@[simp] theorem sat_pure {a : α} {h : MH} : ((pure a : M α) h).sat Q E = Q a h := by with_unfolding_all exact Raw.sat_pure
@[simp] theorem sat_badM {h : MH} : ((M.bad : M α) h).sat Q E = False := by with_unfolding_all exact Raw.sat_badM
@[simp] theorem sat_bind {m : M β} {f : β → M α} {h : MH} : ((m >>= f) h).sat Q E = (m h).sat (fun a h' => (f a h').sat Q E) E := by with_unfolding_all exact Raw.sat_bind
@[simp] theorem sat_nx {m : M α} {h : MH} : (m.nx h).sat Q E = (m h).sat Q (fun _ _ => False) := by with_unfolding_all exact Raw.sat_nx
@[simp] theorem sat_ite {c : Prop} [Decidable c] {a b : Res α} : (if c then a else b).sat Q E = if c then a.sat Q E else b.sat Q E := by with_unfolding_all exact Raw.sat_ite
theorem sat_mono {r : Res α} {Q' : α → MH → Prop} {E' : Exc → MH → Prop} (s : r.sat Q E) (hq : ∀ a h, Q a h → Q' a h) (he : ∀ c h, E c h → E' c h) : r.sat Q' E' := by with_unfolding_all exact Raw.sat_mono s hq he
theorem sat_ex {r : Res α} (s : r.sat Q (fun _ _ => False)) : ∃ a h, r = .ok a h ∧ Q a h := by with_unfolding_all exact Raw.sat_ex s
theorem sat_to {r : Res α} {Q' : α → MH → Prop} (s : r.sat Q noE) (hq : ∀ a h, Q a h → Q' a h) : r.sat Q' E := by with_unfolding_all exact Raw.sat_to s hq
end
section
variable {Q : Fl → Fr → MH → Prop} {E : Exc → Fr → MH → Prop}
@[simp] theorem ssat_ok {f : Fl} {fr : Fr} {h : MH} : (RS.ok f fr h).sat Q E = Q f fr h := by with_unfolding_all exact Raw.ssat_ok
@[simp] theorem ssat_exc {c : Exc} {fr : Fr} {h : MH} : (RS.exc c fr h).sat Q E = E c fr h := by with_unfolding_all exact Raw.ssat_exc
@[simp] theorem ssat_bad : RS.bad.sat Q E = False := by with_unfolding_all exact Raw.ssat_bad
@[simp] theorem ssat_ite {c : Prop} [Decidable c] {a b : RS} : (if c then a else b).sat Q E = if c then a.sat Q E else b.sat Q E := by with_unfolding_all exact Raw.ssat_ite
@[simp] theorem ssat_of {α : Type} {r : Res α} {fr : Fr} {k : α → MH → RS} : (RS.of r fr k).sat Q E = r.sat (fun a h => (k a h).sat Q E) (fun c h => E c fr h) := by with_unfolding_all exact Raw.ssat_of
theorem ssat_mono {r : RS} {Q' : Fl → Fr → MH → Prop} {E' : Exc → Fr → MH → Prop} (s : r.sat Q E) (hq : ∀ f fr h, Q f fr h → Q' f fr h) (he : ∀ c fr h, E c fr h → E' c fr h) : r.sat Q' E' := by with_unfolding_all exact Raw.ssat_mono s hq he
@[simp] theorem ssat_nil {G : GG} {fr : Fr} {h : MH} : (evSs G .nil fr h).sat Q E = Q .nx fr h := by with_unfolding_all exact Raw.ssat_nil
@[simp] theorem ssat_cons {G : GG} {s : CS} {r : CSs} {fr : Fr} {h : MH} : (evSs G (.cons s r) fr h).sat Q E = (evS G s fr h).sat (sqK (fun fr h => (evSs G r fr h).sat Q E) Q) E := by with_unfolding_all exact Raw.ssat_cons
theorem sat_runF {G : GG} {n m : Nat} {b : CSs} {ps : List PV} {h : MH} {Q : PV → MH → Prop} {E : Exc → MH → Prop} (hl : ps.length = n) (s : (evSs G b (ps.map some ++ List.replicate m none) h).sat (outK Q) fun c _ h => E c h) : (runF G n m b ps h).sat Q E := by with_unfolding_all exact Raw.sat_runF hl s
theorem sat_def {G : GG} {n m : Nat} {b : CSs} {ps : List PV} {h : MH} {Q : PV → MH → Prop} {E : Exc → MH → Prop} {fr : Fr} (hl : ps.length = n) (hf : ps.map some ++ List.replicate m none = fr) (s : (evSs G b fr h).sat (outK Q) fun c _ h => E c h) : (runF G n m b ps h).sat Q E := by with_unfolding_all exact Raw.sat_def hl hf s
/-- a for loop whose walk gives the items xs -/
theorem sat_for {t : IT} {tg : CT} {body : Fr → MH → RS} {xs : List PV} {I : Nat → Fr → MH → Prop} (hat : ∀ i fr h, I i fr h → i ≤ xs.length → t.at i h = some xs[i]?)
    (step : ∀ i x fr h, xs[i]? = some x → I i fr h → ∃ fr1, setT tg x fr = some fr1 ∧ (body fr1 h).sat (lpK (I (i + 1)) Q) E) (fin : ∀ fr h, I xs.length fr h → Q .nx fr h) :
    ∀ (f i : Nat) (fr : Fr) (h : MH), xs.length < i + f → i ≤ xs.length → I i fr h → (forR t tg body f i fr h).sat Q E := by with_unfolding_all exact Raw.sat_for hat step fin
/-- over a tuple, a text, a range -/
theorem sat_forS {xs : List PV} {tg : CT} {body : Fr → MH → RS} {fr : Fr} {h hF : MH} (I : Nat → Fr → MH → Prop) (h0 : I 0 fr h)
    (step : ∀ i x fr h, xs[i]? = some x → I i fr h → ∃ fr1, setT tg x fr = some fr1 ∧ (body fr1 h).sat (lpK (I (i + 1)) Q) E) (fin : ∀ fr h, I xs.length fr h → Q .nx fr h) :
    (forR (.seq xs) tg body ((IT.seq xs).fuel hF) 0 fr h).sat Q E := by with_unfolding_all exact Raw.sat_forS I h0 step fin
/-- over a list that stays -/
theorem sat_forL {n : Nat} {xs : List PV} {tg : CT} {body : Fr → MH → RS} {fr : Fr} {h : MH} (hn : lget h n = some xs) (I : Nat → Fr → MH → Prop) (h0 : I 0 fr h) (stay : ∀ i fr h, I i fr h → lget h n = some xs)
    (step : ∀ i x fr h, xs[i]? = some x → I i fr h → ∃ fr1, setT tg x fr = some fr1 ∧ (body fr1 h).sat (lpK (I (i + 1)) Q) E) (fin : ∀ fr h, I xs.length fr h → Q .nx fr h) :
    (forR (.lst n) tg body ((IT.lst n).fuel h) 0 fr h).sat Q E := by with_unfolding_all exact Raw.sat_forL hn I h0 stay step fin
theorem sat_forE {n : Nat} {xs : List PV} {tg : CT} {body : Fr → MH → RS} {fr : Fr} {h : MH} (hn : lget h n = some xs) (I : Nat → Fr → MH → Prop) (h0 : I 0 fr h) (stay : ∀ i fr h, I i fr h → lget h n = some xs)
    (step : ∀ i x fr h, xs[i]? = some x → I i fr h → ∃ fr1, setT tg (.tup [.int (i : Nat), x]) fr = some fr1 ∧ (body fr1 h).sat (lpK (I (i + 1)) Q) E) (fin : ∀ fr h, I xs.length fr h → Q .nx fr h) :
    (forR (.enl n) tg body ((IT.enl n).fuel h) 0 fr h).sat Q E := by with_unfolding_all exact Raw.sat_forE hn I h0 stay step fin
/-- a while loop: the measure goes down -/
theorem sat_whl {c : Fr → M Bool} {body : Fr → MH → RS} (I : Nat → Fr → MH → Prop) (step : ∀ m fr h, I m fr h → (c fr h).sat (fun b h1 => if b then (body fr h1).sat (lpK (fun fr2 h2 => ∃ m', m' < m ∧ I m' fr2 h2) Q) E else Q .nx fr h1) (fun x h1 => E x fr h1)) :
    ∀ (n m : Nat) (fr : Fr) (h : MH), m < n → I m fr h → (whlR c body n fr h).sat Q E := by with_unfolding_all exact Raw.sat_whl I step
end
/-- J: what holds behind the turn i, the new list at n having acc -/
theorem sat_compL {t : IT} {n : Nat} {step : PV → M (Option PV)} {xs : List PV} {J : Nat → List PV → MH → Prop} {Q : Unit → MH → Prop} {E : Exc → MH → Prop} (hat : ∀ i acc h, J i acc h → i ≤ xs.length → t.at i h = some xs[i]?)
    (hs : ∀ i x acc h, xs[i]? = some x → J i acc h → (step x h).sat (fun r h2 => match r with
      | none => J (i + 1) acc h2
      | some v => wl h2 n = some acc ∧ acc.length < big ∧ J (i + 1) (acc ++ [v]) (h2.set n (.lst (acc ++ [v])))) noE) (fin : ∀ acc h, J xs.length acc h → Q () h) :
    ∀ (f i : Nat) (acc : List PV) (h : MH), xs.length < i + f → i ≤ xs.length → J i acc h → (compL t n step f i h).sat Q E := by with_unfolding_all exact Raw.sat_compL hat hs fin
section
variable {G : GG} {fr : Fr} {h : MH} {Q : PV → MH → Prop} {E : Exc → MH → Prop}
@[simp] theorem w_loc {i : Nat} : (evE G (.loc i) fr h).sat Q E = (match fr[i]? with | some (some p) => Q p h | _ => False) := by with_unfolding_all exact Raw.w_loc
@[simp] theorem w_glb {x : PySem.Str} : (evE G (.glb x) fr h).sat Q E = (match G.cons x with | some p => Q p h | none => False) := by with_unfolding_all exact Raw.w_glb
@[simp] theorem w_cst {c : PV} : (evE G (.cst c) fr h).sat Q E = Q c h := by with_unfolding_all exact Raw.w_cst
@[simp] theorem w_bin {op : PySem.Operator} {a b : CE} : (evE G (.bin op a b) fr h).sat Q E = (evE G a fr h).sat (fun x h1 => (evE G b fr h1).sat (fun y h2 => (binM op x y h2).sat Q noE) E) E := by with_unfolding_all exact Raw.w_bin
@[simp] theorem w_neg {a : CE} : (evE G (.neg a) fr h).sat Q E = (evE G a fr h).sat (fun x h1 => match x with | .int i => Q (.int (-i)) h1 | _ => False) E := by with_unfolding_all exact Raw.w_neg
@[simp] theorem w_cmp {op : PySem.CmpOp} {a b : CE} : (evE G (.cmp op a b) fr h).sat Q E = (evE G a fr h).sat (fun x h1 => (evE G b fr h1).sat (fun y h2 => (cmpM op x y h2).sat Q noE) E) E := by with_unfolding_all exact Raw.w_cmp
@[simp] theorem sat_isBl {v : PV} {K : Bool → MH → Prop} : (isBl v h).sat K E = blK K v h := by with_unfolding_all exact Raw.sat_isBl
@[simp] theorem w_chn {o1 o2 : PySem.CmpOp} {a b c : CE} : (evE G (.chn o1 o2 a b c) fr h).sat Q E = (evE G a fr h).sat (fun x h1 => (evE G b fr h1).sat (fun y h2 => (cmpM o1 x y h2).sat (blK fun k h3 => if k then (evE G c fr h3).sat (fun z h4 => (cmpM o2 y z h4).sat Q noE) E else Q (.bl false) h3) noE) E) E := by with_unfolding_all exact Raw.w_chn
@[simp] theorem w_bop {k : Bool} {es : CEs} : (evE G (.bop k es) fr h).sat Q E = (evB G k es fr h).sat Q E := by with_unfolding_all exact Raw.w_bop
@[simp] theorem w_bop1 {k : Bool} {e : CE} : (evB G k (.cons e .nil) fr h).sat Q E = (evE G e fr h).sat Q E := by with_unfolding_all exact Raw.w_bop1
@[simp] theorem w_bop2 {k : Bool} {e f : CE} {es : CEs} : (evB G k (.cons e (.cons f es)) fr h).sat Q E = (evE G e fr h).sat (blK fun b h1 => if b == k then (evB G k (.cons f es) fr h1).sat Q E else Q (.bl b) h1) E := by with_unfolding_all exact Raw.w_bop2
@[simp] theorem w_nt {a : CE} : (evE G (.nt a) fr h).sat Q E = (evE G a fr h).sat (blK fun b h1 => Q (.bl (!b)) h1) E := by with_unfolding_all exact Raw.w_nt
@[simp] theorem w_sub {a i : CE} : (evE G (.sub a i) fr h).sat Q E = (evE G a fr h).sat (fun x h1 => (evE G i fr h1).sat (fun y h2 => (ixM x y h2).sat Q noE) E) E := by with_unfolding_all exact Raw.w_sub
@[simp] theorem w_slc {a : CE} {lo hi : CO} : (evE G (.slc a lo hi) fr h).sat Q E = (evE G a fr h).sat (fun x h1 => (evO G lo fr h1).sat (fun l h2 => (evO G hi fr h2).sat (fun u h3 => (slcM x l u h3).sat Q noE) E) E) E := by with_unfolding_all exact Raw.w_slc
@[simp] theorem w_on {K : Option Int → MH → Prop} : (evO G .none fr h).sat K E = K none h := by with_unfolding_all exact Raw.w_on
@[simp] theorem w_os {e : CE} {K : Option Int → MH → Prop} : (evO G (.some e) fr h).sat K E = (evE G e fr h).sat (fun x h1 => match x with | .int i => K (some i) h1 | _ => False) E := by with_unfolding_all exact Raw.w_os
@[simp] theorem w_tup {es : CEs} : (evE G (.tup es) fr h).sat Q E = (evEs G es fr h).sat (fun xs h1 => xs.length ≤ big ∧ Q (.tup xs) h1) E := by with_unfolding_all exact Raw.w_tup
@[simp] theorem w_lst {es : CEs} : (evE G (.lst es) fr h).sat Q E = (evEs G es fr h).sat (fun xs h1 => xs.length ≤ big ∧ Q (.ref h1.length) (h1 ++ [.lst xs])) E := by with_unfolding_all exact Raw.w_lst
@[simp] theorem w_dnew {tk : Bool} : (evE G (.dnew tk) fr h).sat Q E = Q (.ref h.length) (h ++ [if tk then .dtp [] else .dct []]) := by with_unfolding_all exact Raw.w_dnew
@[simp] theorem w_call {f : PySem.Str} {es : CEs} : (evE G (.call f es) fr h).sat Q E = (match G.fns f with | some F => (evEs G es fr h).sat (fun xs h1 => (F xs h1).sat Q E) E | none => False) := by with_unfolding_all exact Raw.w_call
@[simp] theorem w_blt {b : BN} {es : CEs} : (evE G (.blt b es) fr h).sat Q E = (evEs G es fr h).sat (fun xs h1 => (bltM b xs h1).sat Q noE) E := by with_unfolding_all exact Raw.w_blt
@[simp] theorem w_mth {m : MN} {o : CE} {es : CEs} : (evE G (.mth m o es) fr h).sat Q E = (evE G o fr h).sat (fun x h1 => match kindT h1 x with | some T => okTM T m = true ∧ (evEs G es fr h1).sat (fun xs h2 => (mthM T m x xs h2).sat Q noE) E | none => False) E := by with_unfolding_all exact Raw.w_mth
@[simp] theorem w_isi {a : CE} {ts : List TN} {tp : Bool} : (evE G (.isi a ts tp) fr h).sat Q E = (evE G a fr h).sat (fun x h1 => match pkOf h1 x with | some k => Q (.bl (ts.any (isTN k))) h1 | none => False) E := by with_unfolding_all exact Raw.w_isi
@[simp] theorem w_dd1 {k v : CE} : (evE G (.dd1 k v) fr h).sat Q E = (evE G k fr (h ++ [.dtp []])).sat (fun x h1 => (evE G v fr h1).sat (fun y h2 => (dsetM h.length x y h2).sat (fun _ h3 => Q (.ref h.length) h3) noE) E) E := by with_unfolding_all exact Raw.w_dd1
section
variable {K : List PV → MH → Prop}
@[simp] theorem w_es0 : (evEs G .nil fr h).sat K E = K [] h := by with_unfolding_all exact Raw.w_es0
@[simp] theorem w_es {e : CE} {es : CEs} : (evEs G (.cons e es) fr h).sat K E = (evE G e fr h).sat (fun x h1 => (evEs G es fr h1).sat (fun xs h2 => K (x :: xs) h2) E) E := by with_unfolding_all exact Raw.w_es
end
section
variable {K : Bool → MH → Prop}
@[simp] theorem w_all0 : (evAll G .nil fr h).sat K E = K true h := by with_unfolding_all exact Raw.w_all0
@[simp] theorem w_all1 {e : CE} : (evAll G (.cons e .nil) fr h).sat K E = (evE G e fr h).sat (blK K) E := by with_unfolding_all exact Raw.w_all1
end
section
variable {K : IT → MH → Prop}
@[simp] theorem w_val {e : CE} : (evI G (.val e) fr h).sat K E = (evE G e fr h).sat (itK K) E := by with_unfolding_all exact Raw.w_val
@[simp] theorem w_rng1 {e : CE} : (evI G (.rng1 e) fr h).sat K E = (evE G e fr h).sat (fun x h1 => match x with | .int i => okR i = true ∧ K (.seq (nats 0 i.toNat)) h1 | _ => False) E := by with_unfolding_all exact Raw.w_rng1
@[simp] theorem w_rng2 {a b : CE} : (evI G (.rng2 a b) fr h).sat K E = (evE G a fr h).sat (fun x h1 => (evE G b fr h1).sat (fun y h2 => match x, y with | .int i, .int j => (okR i && okR j) = true ∧ K (.seq (nats i (j - i).toNat)) h2 | _, _ => False) E) E := by with_unfolding_all exact Raw.w_rng2
@[simp] theorem w_enm {e : CE} : (evI G (.enm e) fr h).sat K E = (evE G e fr h).sat (fun x h1 => match x with | .ref n => (lget h1 n).isSome = true ∧ K (.enl n) h1 | _ => False) E := by with_unfolding_all exact Raw.w_enm
end
end
section
variable {G : GG} {fr : Fr} {h : MH} {Q : Fl → Fr → MH → Prop} {E : Exc → Fr → MH → Prop}
@[simp] theorem ws_expr {e : CE} : (evS G (.expr e) fr h).sat Q E = (evE G e fr h).sat (fun _ h1 => Q .nx fr h1) (fun c h => E c fr h) := by with_unfolding_all exact Raw.ws_expr
@[simp] theorem ws_asg {i : Nat} {e : CE} : (evS G (.asg i e) fr h).sat Q E = (evE G e fr h).sat (fun v h1 => Q .nx (fr.set i (some v)) h1) (fun c h => E c fr h) := by with_unfolding_all exact Raw.ws_asg
@[simp] theorem ws_tas {is : List Nat} {e : CE} : (evS G (.tas is e) fr h).sat Q E = (evE G e fr h).sat (fun v h1 => match setT (.tup is) v fr with | some fr1 => Q .nx fr1 h1 | none => False) (fun c h => E c fr h) := by with_unfolding_all exact Raw.ws_tas
@[simp] theorem ws_sst {o i e : CE} : (evS G (.sst o i e) fr h).sat Q E = (evE G e fr h).sat (fun v h1 => (evE G o fr h1).sat (fun ov h2 => (evE G i fr h2).sat (fun iv h3 => (setM ov iv v h3).sat (fun _ h4 => Q .nx fr h4) noE) (fun c h => E c fr h)) (fun c h => E c fr h)) (fun c h => E c fr h) := by with_unfolding_all exact Raw.ws_sst
@[simp] theorem ws_aug {i : Nat} {e : CE} : (evS G (.aug i e) fr h).sat Q E = (match fr[i]? with | some (some (.int a)) => (evE G e fr h).sat (fun v h1 => match v with | .int b => Q .nx (fr.set i (some (.int (a + b)))) h1 | _ => False) (fun c h => E c fr h) | _ => False) := by with_unfolding_all exact Raw.ws_aug
@[simp] theorem ws_ret {e : CE} : (evS G (.ret e) fr h).sat Q E = (evE G e fr h).sat (fun v h1 => Q (.rt v) fr h1) (fun c h => E c fr h) := by with_unfolding_all exact Raw.ws_ret
@[simp] theorem ws_retN : (evS G .retN fr h).sat Q E = Q (.rt .non) fr h := by with_unfolding_all exact Raw.ws_retN
@[simp] theorem ws_ite {c : CE} {a b : CSs} : (evS G (.ite c a b) fr h).sat Q E = (evE G c fr h).sat (blK fun k h1 => if k then (evSs G a fr h1).sat Q E else (evSs G b fr h1).sat Q E) (fun c h => E c fr h) := by with_unfolding_all exact Raw.ws_ite
theorem ws_whl {n : Nat} {c : CE} {b : CSs} : (evS G (.whl n c b) fr h).sat Q E = (whlR (fun fr => evE G c fr >>= isBl) (evSs G b) n fr h).sat Q E := by with_unfolding_all exact Raw.ws_whl
theorem ws_for {t : CT} {it : CI} {b : CSs} : (evS G (.fors t it b) fr h).sat Q E = (evI G it fr h).sat (fun I h1 => (forR I t (evSs G b) (I.fuel h1) 0 fr h1).sat Q E) (fun c h => E c fr h) := by with_unfolding_all exact Raw.ws_for
@[simp] theorem ws_brk : (evS G .brk fr h).sat Q E = Q .bk fr h := by with_unfolding_all exact Raw.ws_brk
@[simp] theorem ws_cnt : (evS G .cnt fr h).sat Q E = Q .ct fr h := by with_unfolding_all exact Raw.ws_cnt
@[simp] theorem ws_pas : (evS G .pas fr h).sat Q E = Q .nx fr h := by with_unfolding_all exact Raw.ws_pas
@[simp] theorem ws_rse {c : PySem.Str} {es : CEs} : (evS G (.rse c es) fr h).sat Q E = (match G.exs c with | some fs => es.len = fs.length ∧ (evEs G es fr h).sat (fun xs h1 => (xs.length = fs.length ∧ xs.length ≤ 900) ∧ E ⟨c, xs⟩ fr h1) (fun c h => E c fr h) | none => False) := by with_unfolding_all exact Raw.ws_rse
theorem ws_tri {b : CSs} {hs : CHs} (hk : hsKn G hs = true) : (evS G (.tri b hs) fr h).sat Q E = (evSs G b fr h).sat Q (fun c fr1 h1 => (evHs G hs c fr1 h1).sat Q E) := by with_unfolding_all exact Raw.ws_tri hk
end
end FL
namespace FL
/-! FLV: operators and built-ins on known values, for simp. -/
open PySem
@[simp] theorem eqv_S {a b : List Char} : PyData.eqv (.str (S a)) (.str (S b)) = decide (a = b) := by
  have : PyData.eqv (.str (S a)) (.str (S b)) = (S a == S b) := rfl
  rw [this]
  by_cases h : a = b
  · subst h; simp
  · have : S a ≠ S b := fun z => h (S_inj z)
    simp [h, this]
@[simp] theorem eqv_int {a b : Int} : PyData.eqv (.int a) (.int b) = decide (a = b) := by
  have : PyData.eqv (.int a) (.int b) = (a == b) := rfl
  rw [this]; by_cases h : a = b <;> simp [h]
@[simp] theorem snap_str {h : MH} {n : Nat} {l : List Char} : snap h n (.str l) = some (.str (S l)) := by cases n <;> rfl
@[simp] theorem snap_int {h : MH} {n : Nat} {i : Int} : snap h n (.int i) = some (.int i) := by cases n <;> rfl
@[simp] theorem snap_bl {h : MH} {n : Nat} {b : Bool} : snap h n (.bl b) = some (.bool b) := by cases n <;> rfl
@[simp] theorem snap_non {h : MH} {n : Nat} : snap h n .non = some .none := by cases n <;> rfl
theorem snap_tup {h : MH} {n : Nat} {xs : List PV} : snap h (n + 1) (.tup xs) = (mapO (snap h n) xs).map .tuple := rfl
@[simp] theorem mapO_nil {α β : Type} {f : α → Option β} : mapO f [] = some [] := rfl
theorem mapO_cons {α β : Type} {f : α → Option β} {x : α} {xs : List α} {y : β} {ys : List β} (h1 : f x = some y) (h2 : mapO f xs = some ys) : mapO f (x :: xs) = some (y :: ys) := by
  unfold mapO; rw [h1]; dsimp only; rw [h2]
theorem mapO_map {α β γ : Type} {f : β → Option γ} {g : α → β} {k : α → γ} : ∀ {l : List α}, (∀ a ∈ l, f (g a) = some (k a)) → mapO f (l.map g) = some (l.map k)
  | [], _ => rfl
  | a :: l, h => mapO_cons (h a (by simp)) (mapO_map fun b hb => h b (by simp [hb]))
theorem mapO_all {α β : Type} {f : α → Option β} {k : α → β} : ∀ {l : List α}, (∀ a ∈ l, f a = some (k a)) → mapO f l = some (l.map k)
  | [], _ => rfl
  | a :: l, h => mapO_cons (h a (by simp)) (mapO_all fun b hb => h b (by simp [hb]))
section
variable {h : MH} {Q : PV → MH → Prop} {E : Exc → MH → Prop}
theorem inB_t {x : PV} {ys : List PV} : inB x (.tup ys) h = (match snap h dp x, snap h dp (.tup ys) with
    | some d, some (.tuple ds) => .ok (ds.any fun z => PyData.eqv z d) h
    | _, _ => .bad) := by
  unfold inB; cases x <;> first | rfl | skip
  rename_i l; cases l with
  | nil => rfl
  | cons c l => cases l <;> rfl
theorem inB_tup {x : PV} {ys : List PV} {d : PyData} {ds : List PyData} (h1 : snap h dp x = some d) (h2 : mapO (snap h 59) ys = some ds) : inB x (.tup ys) h = .ok (ds.any fun z => PyData.eqv z d) h := by
  rw [inB_t, h1, show snap h dp (.tup ys) = (mapO (snap h 59) ys).map .tuple from rfl, h2]; rfl
theorem inB_lst {x : PV} {n : Nat} {xs : List PV} {d : PyData} {ds : List PyData} (e : lget h n = some xs) (h1 : snap h dp x = some d) (h2 : mapO (snap h 59) xs = some ds) : inB x (.ref n) h = .ok (ds.any fun z => PyData.eqv z d) h := by
  have h3 : snap h dp (.ref n) = some (.list ds) := by
    show (match lget h n with | some xs => (mapO (snap h 59) xs).map PyData.list | none => none) = _
    rw [e]; dsimp only; rw [h2]; rfl
  have h4 : inB x (.ref n) h = hasM x n h := by
    unfold inB
    cases x <;> first | rfl | skip
    rename_i l
    cases l with
    | nil => rfl
    | cons c l => cases l <;> rfl
  rw [h4]
  unfold hasM
  unfold lget at e
  split at e
  · rename_i xs' e'; rw [e']; dsimp only; rw [h1, h3]
  · rename_i xs' e'; rw [e']; dsimp only; rw [h1, h3]
  · cases e
theorem snaps_s {h : MH} {n : Nat} (l : List (List Char)) : mapO (snap h n) (l.map PV.str) = some (l.map fun a => .str (S a)) := mapO_map fun _ _ => snap_str
theorem any_s {l : List (List Char)} {a : List Char} : ((l.map fun b => PyData.str (S b)).any fun z => PyData.eqv z (.str (S a))) = decide (a ∈ l) := by
  induction l with
  | nil => rfl
  | cons b l ih =>
    simp only [List.map_cons, List.any_cons, ih, eqv_S]
    by_cases hb : b = a
    · simp [hb]
    · have : a ≠ b := fun z => hb z.symm
      simp [hb, this]
/-! ### items -/
theorem atI_nat {α : Type} {xs : List α} {k : Nat} : L2.atI xs (k : Int) = xs[k]? := by
  unfold L2.atI L2.ixN
  rw [if_pos (Int.natCast_nonneg k)]
  by_cases hk : k < xs.length
  · rw [if_pos (by exact_mod_cast hk)]; rfl
  · rw [if_neg (by exact_mod_cast hk)]
    rw [List.getElem?_eq_none (by omega)]; rfl
@[simp] theorem atI_0 {α : Type} {xs : List α} : L2.atI xs 0 = xs[0]? := atI_nat (k := 0)
@[simp] theorem atI_1 {α : Type} {xs : List α} : L2.atI xs 1 = xs[1]? := atI_nat (k := 1)
@[simp] theorem atI_2 {α : Type} {xs : List α} : L2.atI xs 2 = xs[2]? := atI_nat (k := 2)
@[simp] theorem atI_3 {α : Type} {xs : List α} : L2.atI xs 3 = xs[3]? := atI_nat (k := 3)
/-- an item that is there -/
def atK {α : Type} (K : α → Prop) : Option α → Prop
  | some x => K x
  | none => False
@[simp] theorem atK_some {α : Type} {K : α → Prop} {x : α} : atK K (some x) = K x := rfl
@[simp] theorem atK_none {α : Type} {K : α → Prop} : atK K none = False := rfl
/-! ### numbers, texts -/
/-! ### built-ins -/
/-! ### methods -/
theorem kind_l {n : Nat} {xs : List PV} (e : lget h n = some xs) : kindT h (.ref n) = some .list := by
  unfold lget at e
  unfold kindT
  split at e
  · rename_i e'; dsimp only; rw [e']
  · rename_i e'; dsimp only; rw [e']
  · cases e
@[simp] theorem kind_s {l : List Char} : kindT h (.str l) = some .str := rfl
@[simp] theorem ok_append : okTM .list .append = true := rfl
@[simp] theorem ok_pop : okTM .list .pop = true := rfl
@[simp] theorem ok_index : okTM .list .index = true := rfl
theorem ixN_nat {n k : Nat} (hk : k < n) : L2.ixN n (k : Int) = some k := by
  unfold L2.ixN
  rw [if_pos (Int.natCast_nonneg k), if_pos (by exact_mod_cast hk)]; rfl
end
namespace Raw
open PySem
section
variable {h : MH} {Q : PV → MH → Prop} {E : Exc → MH → Prop}
theorem v_eq {x y : PV} {d e : PyData} (h1 : snap h dp x = some d) (h2 : snap h dp y = some e) : (cmpM .Eq x y h).sat0 Q E = Q (.bl (PyData.eqv d e)) h := by
  show (eqM x y h).sat0 Q E = _
  unfold eqM; rw [h1, h2]; rfl
theorem v_ne {x y : PV} {d e : PyData} (h1 : snap h dp x = some d) (h2 : snap h dp y = some e) : (cmpM .NotEq x y h).sat0 Q E = Q (.bl (!PyData.eqv d e)) h := by
  show (neM x y h).sat0 Q E = _
  unfold neM; rw [h1, h2]; rfl
@[simp] theorem v_eq_s {a b : List Char} : (cmpM .Eq (.str a) (.str b) h).sat0 Q E = Q (.bl (decide (a = b))) h := by rw [v_eq snap_str snap_str, eqv_S]
@[simp] theorem v_ne_s {a b : List Char} : (cmpM .NotEq (.str a) (.str b) h).sat0 Q E = Q (.bl (!decide (a = b))) h := by rw [v_ne snap_str snap_str, eqv_S]
@[simp] theorem v_eq_i {a b : Int} : (cmpM .Eq (.int a) (.int b) h).sat0 Q E = Q (.bl (decide (a = b))) h := by rw [v_eq snap_int snap_int, eqv_int]
@[simp] theorem v_ne_i {a b : Int} : (cmpM .NotEq (.int a) (.int b) h).sat0 Q E = Q (.bl (!decide (a = b))) h := by rw [v_ne snap_int snap_int, eqv_int]
@[simp] theorem v_lt_i {a b : Int} : (cmpM .Lt (.int a) (.int b) h).sat0 Q E = Q (.bl (decide (a < b))) h := rfl
@[simp] theorem v_le_i {a b : Int} : (cmpM .LtE (.int a) (.int b) h).sat0 Q E = Q (.bl (decide (a ≤ b))) h := rfl
@[simp] theorem v_gt_i {a b : Int} : (cmpM .Gt (.int a) (.int b) h).sat0 Q E = Q (.bl (decide (b < a))) h := rfl
@[simp] theorem v_ge_i {a b : Int} : (cmpM .GtE (.int a) (.int b) h).sat0 Q E = Q (.bl (decide (b ≤ a))) h := rfl
theorem v_lt_t {xs ys : List PV} {d e : PyData} (h1 : snap h dp (.tup xs) = some d) (h2 : snap h dp (.tup ys) = some e) (hs : soft d e = true) : (cmpM .Lt (.tup xs) (.tup ys) h).sat0 Q E = Q (.bl (PySem.W.dataLt d e)) h := by
  show (ltM (.tup xs) (.tup ys) h).sat0 Q E = _
  unfold ltM; rw [h1, h2]; dsimp only; rw [if_pos hs]; rfl
@[simp] theorem v_is_n : (cmpM .Is .non .non h).sat0 Q E = Q (.bl true) h := rfl
@[simp] theorem v_is_i {i : Int} : (cmpM .Is (.int i) .non h).sat0 Q E = Q (.bl false) h := rfl
@[simp] theorem v_is_s {l : List Char} : (cmpM .Is (.str l) .non h).sat0 Q E = Q (.bl false) h := rfl
@[simp] theorem v_is_b {b : Bool} : (cmpM .Is (.bl b) .non h).sat0 Q E = Q (.bl false) h := rfl
@[simp] theorem v_is_t {l : List PV} : (cmpM .Is (.tup l) .non h).sat0 Q E = Q (.bl false) h := rfl
@[simp] theorem v_is_r {n : Nat} : (cmpM .Is (.ref n) .non h).sat0 Q E = Q (.bl false) h := rfl
@[simp] theorem v_isn_n : (cmpM .IsNot .non .non h).sat0 Q E = Q (.bl false) h := rfl
@[simp] theorem v_isn_i {i : Int} : (cmpM .IsNot (.int i) .non h).sat0 Q E = Q (.bl true) h := rfl
@[simp] theorem v_isn_s {l : List Char} : (cmpM .IsNot (.str l) .non h).sat0 Q E = Q (.bl true) h := rfl
@[simp] theorem v_isn_b {b : Bool} : (cmpM .IsNot (.bl b) .non h).sat0 Q E = Q (.bl true) h := rfl
@[simp] theorem v_isn_t {l : List PV} : (cmpM .IsNot (.tup l) .non h).sat0 Q E = Q (.bl true) h := rfl
@[simp] theorem v_isn_r {n : Nat} : (cmpM .IsNot (.ref n) .non h).sat0 Q E = Q (.bl true) h := rfl
theorem inM_sat {x y : PV} {b : Bool} (e : inB x y h = .ok b h) : (cmpM .In x y h).sat0 Q E = Q (.bl b) h := by
  show (inM x y h).sat0 Q E = _
  unfold inM; rw [sat_bind, e]; rfl
theorem ninM_sat {x y : PV} {b : Bool} (e : inB x y h = .ok b h) : (cmpM .NotIn x y h).sat0 Q E = Q (.bl (!b)) h := by
  show (ninM x y h).sat0 Q E = _
  unfold ninM; rw [sat_bind, e]; rfl
/-- a text in a tuple of texts -/
theorem v_in_st {a : List Char} (l : List (List Char)) {ys : List PV} (e : ys = l.map PV.str) : (cmpM .In (.str a) (.tup ys) h).sat0 Q E = Q (.bl (decide (a ∈ l))) h := by
  subst e; rw [inM_sat (inB_tup snap_str (snaps_s l)), any_s]
theorem v_in_sl {a : List Char} (l : List (List Char)) {n : Nat} (e : lget h n = some (l.map PV.str)) : (cmpM .In (.str a) (.ref n) h).sat0 Q E = Q (.bl (decide (a ∈ l))) h := by
  rw [inM_sat (inB_lst e snap_str (snaps_s l)), any_s]
theorem v_nin_sl {a : List Char} (l : List (List Char)) {n : Nat} (e : lget h n = some (l.map PV.str)) : (cmpM .NotIn (.str a) (.ref n) h).sat0 Q E = Q (.bl (!decide (a ∈ l))) h := by
  rw [ninM_sat (inB_lst e snap_str (snaps_s l)), any_s]
@[simp] theorem v_ix_t {xs : List PV} {i : Int} : (ixM (.tup xs) (.int i) h).sat0 Q E = atK (fun p => Q p h) (L2.atI xs i) := by
  show (match L2.atI xs i with | some p => Res.ok p h | none => .bad).sat0 Q E = _
  cases L2.atI xs i <;> rfl
theorem v_ix_s {l : List Char} {i : Int} (hl : l.length ≤ big) : (ixM (.str l) (.int i) h).sat0 Q E = atK (fun c => Q (.str [c]) h) (L2.atI l i) := by
  show (if l.length ≤ big then match L2.atI l i with | some c => Res.ok (PV.str [c]) h | none => .bad else .bad).sat0 Q E = _
  rw [if_pos hl]; cases L2.atI l i <;> rfl
theorem v_ix_l {n : Nat} {xs : List PV} {i : Int} (e : lget h n = some xs) : (ixM (.ref n) (.int i) h).sat0 Q E = atK (fun p => Q p h) (L2.atI xs i) := by
  unfold lget at e
  unfold ixM
  split at e
  · rename_i xs' e'; cases e; dsimp only; rw [e']; dsimp only; cases L2.atI xs i <;> rfl
  · rename_i xs' e'; cases e; dsimp only; rw [e']; dsimp only; cases L2.atI xs i <;> rfl
  · cases e
@[simp] theorem v_add_i {a b : Int} : (binM .Add (.int a) (.int b) h).sat0 Q E = Q (.int (a + b)) h := rfl
@[simp] theorem v_sub_i {a b : Int} : (binM .Sub (.int a) (.int b) h).sat0 Q E = Q (.int (a - b)) h := rfl
@[simp] theorem v_and_i {a b : Int} : (binM .BitAnd (.int a) (.int b) h).sat0 Q E = Q (.int (Builtin.bitAnd a b)) h := rfl
theorem v_mul_i {a b : Int} (hs : (small64 a || small64 b) = true) : (binM .Mult (.int a) (.int b) h).sat0 Q E = Q (.int (a * b)) h := by
  show ((if small64 a || small64 b then M.ret (.int (a * b)) else M.bad : M PV) h).sat0 Q E = _
  rw [if_pos hs]; rfl
theorem v_div_i {a b : Int} (hb : 0 < b ∧ b.natAbs.log2 < 9000) : (binM .FloorDiv (.int a) (.int b) h).sat0 Q E = Q (.int (a / b)) h := by
  show ((if 0 < b ∧ b.natAbs.log2 < 9000 then M.ret (.int (a / b)) else M.bad : M PV) h).sat0 Q E = _
  rw [if_pos hb]; rfl
theorem v_mod_i {a b : Int} (hb : 0 < b) : (binM .Mod (.int a) (.int b) h).sat0 Q E = Q (.int (a % b)) h := by
  show ((if 0 < b then M.ret (.int (a % b)) else M.bad : M PV) h).sat0 Q E = _
  rw [if_pos hb]; rfl
theorem v_shl_i {a b : Int} (hb : 0 ≤ b ∧ b ≤ 1000000 ∧ a.natAbs < 2 ^ 64) : (binM .LShift (.int a) (.int b) h).sat0 Q E = Q (.int (a * 2 ^ b.toNat)) h := by
  show ((if 0 ≤ b ∧ b ≤ 1000000 ∧ a.natAbs < 2 ^ 64 then M.ret (.int (a * 2 ^ b.toNat)) else M.bad : M PV) h).sat0 Q E = _
  rw [if_pos hb]; rfl
theorem v_shr_i {a b : Int} (hb : 0 ≤ b) : (binM .RShift (.int a) (.int b) h).sat0 Q E = Q (.int (a / 2 ^ b.toNat)) h := by
  show ((if 0 ≤ b then M.ret (.int (a / 2 ^ b.toNat)) else M.bad : M PV) h).sat0 Q E = _
  rw [if_pos hb]; rfl
theorem v_pow_i {a b : Int} (hb : 0 ≤ b ∧ (Builtin.Int.intBits a : Int) * b ≤ 2 ^ 27) : (binM .Pow (.int a) (.int b) h).sat0 Q E = Q (.int (a ^ b.toNat)) h := by
  show ((if 0 ≤ b ∧ (Builtin.Int.intBits a : Int) * b ≤ 2 ^ 27 then M.ret (.int (a ^ b.toNat)) else M.bad : M PV) h).sat0 Q E = _
  rw [if_pos hb]; rfl
theorem v_add_s {a b : List Char} (hl : a.length + b.length ≤ big) : (binM .Add (.str a) (.str b) h).sat0 Q E = Q (.str (a ++ b)) h := by
  show (okLen _ _ h).sat0 Q E = _
  unfold okLen; rw [if_pos hl]; rfl
theorem v_add_t {a b : List PV} (hl : a.length + b.length ≤ big) : (binM .Add (.tup a) (.tup b) h).sat0 Q E = Q (.tup (a ++ b)) h := by
  show (okLen _ _ h).sat0 Q E = _
  unfold okLen; rw [if_pos hl]; rfl
theorem v_add_l {a b : Nat} {xs ys : List PV} (e1 : wl h a = some xs) (e2 : wl h b = some ys) (hl : xs.length + ys.length ≤ big) : (binM .Add (.ref a) (.ref b) h).sat0 Q E = Q (.ref h.length) (h ++ [.lst (xs ++ ys)]) := by
  show (match wl h a, wl h b with | some xs, some ys => okLen (xs.length + ys.length) (newL (xs ++ ys)) h | _, _ => .bad).sat0 Q E = _
  rw [e1, e2]; dsimp only; unfold okLen; rw [if_pos hl]; rfl
theorem v_mul_l {a : Nat} {k : Int} {xs : List PV} (e1 : wl h a = some xs) (hk : -(2 ^ 63) ≤ k ∧ k < 2 ^ 63) (hl : xs.length * k.toNat ≤ big) : (binM .Mult (.ref a) (.int k) h).sat0 Q E = Q (.ref h.length) (h ++ [.lst (List.replicate k.toNat xs).flatten]) := by
  show (match wl h a with | some xs => if -(2 ^ 63) ≤ k ∧ k < 2 ^ 63 then okLen (xs.length * k.toNat) (newL (List.replicate k.toNat xs).flatten) h else .bad | _ => .bad).sat0 Q E = _
  rw [e1]; dsimp only; rw [if_pos hk]; unfold okLen; rw [if_pos hl]; rfl
@[simp] theorem v_len_t {xs : List PV} : (bltM .len [.tup xs] h).sat0 Q E = Q (.int xs.length) h := rfl
theorem v_len_s {l : List Char} (hl : l.length ≤ big) : (bltM .len [.str l] h).sat0 Q E = Q (.int l.length) h := by
  show (if l.length ≤ big then Res.ok (PV.int l.length) h else .bad).sat0 Q E = _
  rw [if_pos hl]; rfl
theorem v_len_l {n : Nat} {xs : List PV} (e : lget h n = some xs) : (bltM .len [.ref n] h).sat0 Q E = Q (.int xs.length) h := by
  show (lenM (.ref n) h).sat0 Q E = _
  unfold lget at e
  unfold lenM
  split at e
  · rename_i xs' e'; cases e; dsimp only; rw [e']; rfl
  · rename_i xs' e'; cases e; dsimp only; rw [e']; rfl
  · cases e
@[simp] theorem v_int_i {i : Int} : (bltM .int [.int i] h).sat0 Q E = Q (.int i) h := rfl
@[simp] theorem v_int_b {b : Bool} : (bltM .int [.bl b] h).sat0 Q E = Q (.int (if b then 1 else 0)) h := rfl
theorem v_list {n : Nat} {xs : List PV} (e : lget h n = some xs) : (bltM .list [.ref n] h).sat0 Q E = Q (.ref h.length) (h ++ [.lst xs]) := by
  show (match seqOf h (.ref n) with | some xs => newL xs h | none => .bad).sat0 Q E = _
  rw [show seqOf h (.ref n) = lget h n from rfl, e]; rfl
theorem v_tuple {n : Nat} {xs : List PV} (e : lget h n = some xs) : (bltM .tuple [.ref n] h).sat0 Q E = Q (.tup xs) h := by
  show (match seqOf h (.ref n) with | some xs => Res.ok (PV.tup xs) h | none => Res.bad).sat0 Q E = _
  rw [show seqOf h (.ref n) = lget h n from rfl, e]; rfl
@[simp] theorem v_min2 {i j : Int} : (bltM .min [.int i, .int j] h).sat0 Q E = Q (.int (if j < i then j else i)) h := rfl
@[simp] theorem v_append {n : Nat} {v : PV} : (mthM .list .append (.ref n) [v] h).sat0 Q E = atK (fun xs => xs.length < big ∧ Q .non (h.set n (.lst (xs ++ [v])))) (wl h n) := by
  show (match wl h n with | some xs => if xs.length < big then Res.ok PV.non (h.set n (.lst (xs ++ [v]))) else .bad | none => .bad).sat0 Q E = _
  cases wl h n with
  | none => rfl
  | some xs => dsimp only; split <;> simp [*]
theorem v_set {n : Nat} {xs : List PV} {i : Int} {j : Nat} {v : PV} {K : Unit → MH → Prop} {E : Exc → MH → Prop} (e : h[n]? = some (.lst xs)) (ei : L2.ixN xs.length i = some j) : (setM (.ref n) (.int i) v h).sat0 K E = K () (h.set n (.lst (xs.set j v))) := by
  unfold setM; dsimp only; rw [e]; dsimp only; rw [ei]; rfl
end
end Raw

open PySem
section
variable {h : MH} {Q : PV → MH → Prop} {E : Exc → MH → Prop}
theorem v_eq {x y : PV} {d e : PyData} (h1 : snap h dp x = some d) (h2 : snap h dp y = some e) : (cmpM .Eq x y h).sat Q E = Q (.bl (PyData.eqv d e)) h := by with_unfolding_all exact Raw.v_eq h1 h2
theorem v_ne {x y : PV} {d e : PyData} (h1 : snap h dp x = some d) (h2 : snap h dp y = some e) : (cmpM .NotEq x y h).sat Q E = Q (.bl (!PyData.eqv d e)) h := by with_unfolding_all exact Raw.v_ne h1 h2
@[simp] theorem v_eq_s {a b : List Char} : (cmpM .Eq (.str a) (.str b) h).sat Q E = Q (.bl (decide (a = b))) h := by with_unfolding_all exact Raw.v_eq_s
@[simp] theorem v_ne_s {a b : List Char} : (cmpM .NotEq (.str a) (.str b) h).sat Q E = Q (.bl (!decide (a = b))) h := by with_unfolding_all exact Raw.v_ne_s
@[simp] theorem v_eq_i {a b : Int} : (cmpM .Eq (.int a) (.int b) h).sat Q E = Q (.bl (decide (a = b))) h := by with_unfolding_all exact Raw.v_eq_i
@[simp] theorem v_ne_i {a b : Int} : (cmpM .NotEq (.int a) (.int b) h).sat Q E = Q (.bl (!decide (a = b))) h := by with_unfolding_all exact Raw.v_ne_i
@[simp] theorem v_lt_i {a b : Int} : (cmpM .Lt (.int a) (.int b) h).sat Q E = Q (.bl (decide (a < b))) h := by with_unfolding_all exact Raw.v_lt_i
@[simp] theorem v_le_i {a b : Int} : (cmpM .LtE (.int a) (.int b) h).sat Q E = Q (.bl (decide (a ≤ b))) h := by with_unfolding_all exact Raw.v_le_i
@[simp] theorem v_gt_i {a b : Int} : (cmpM .Gt (.int a) (.int b) h).sat Q E = Q (.bl (decide (b < a))) h := by with_unfolding_all exact Raw.v_gt_i
@[simp] theorem v_ge_i {a b : Int} : (cmpM .GtE (.int a) (.int b) h).sat Q E = Q (.bl (decide (b ≤ a))) h := by with_unfolding_all exact Raw.v_ge_i
theorem v_lt_t {xs ys : List PV} {d e : PyData} (h1 : snap h dp (.tup xs) = some d) (h2 : snap h dp (.tup ys) = some e) (hs : soft d e = true) : (cmpM .Lt (.tup xs) (.tup ys) h).sat Q E = Q (.bl (PySem.W.dataLt d e)) h := by with_unfolding_all exact Raw.v_lt_t h1 h2 hs
@[simp] theorem v_is_n : (cmpM .Is .non .non h).sat Q E = Q (.bl true) h := by with_unfolding_all exact Raw.v_is_n
@[simp] theorem v_is_i {i : Int} : (cmpM .Is (.int i) .non h).sat Q E = Q (.bl false) h := by with_unfolding_all exact Raw.v_is_i
@[simp] theorem v_is_s {l : List Char} : (cmpM .Is (.str l) .non h).sat Q E = Q (.bl false) h := by with_unfolding_all exact Raw.v_is_s
@[simp] theorem v_is_b {b : Bool} : (cmpM .Is (.bl b) .non h).sat Q E = Q (.bl false) h := by with_unfolding_all exact Raw.v_is_b
@[simp] theorem v_is_t {l : List PV} : (cmpM .Is (.tup l) .non h).sat Q E = Q (.bl false) h := by with_unfolding_all exact Raw.v_is_t
@[simp] theorem v_is_r {n : Nat} : (cmpM .Is (.ref n) .non h).sat Q E = Q (.bl false) h := by with_unfolding_all exact Raw.v_is_r
@[simp] theorem v_isn_n : (cmpM .IsNot .non .non h).sat Q E = Q (.bl false) h := by with_unfolding_all exact Raw.v_isn_n
@[simp] theorem v_isn_i {i : Int} : (cmpM .IsNot (.int i) .non h).sat Q E = Q (.bl true) h := by with_unfolding_all exact Raw.v_isn_i
@[simp] theorem v_isn_s {l : List Char} : (cmpM .IsNot (.str l) .non h).sat Q E = Q (.bl true) h := by with_unfolding_all exact Raw.v_isn_s
@[simp] theorem v_isn_b {b : Bool} : (cmpM .IsNot (.bl b) .non h).sat Q E = Q (.bl true) h := by with_unfolding_all exact Raw.v_isn_b
@[simp] theorem v_isn_t {l : List PV} : (cmpM .IsNot (.tup l) .non h).sat Q E = Q (.bl true) h := by with_unfolding_all exact Raw.v_isn_t
@[simp] theorem v_isn_r {n : Nat} : (cmpM .IsNot (.ref n) .non h).sat Q E = Q (.bl true) h := by with_unfolding_all exact Raw.v_isn_r
theorem inM_sat {x y : PV} {b : Bool} (e : inB x y h = .ok b h) : (cmpM .In x y h).sat Q E = Q (.bl b) h := by with_unfolding_all exact Raw.inM_sat e
theorem ninM_sat {x y : PV} {b : Bool} (e : inB x y h = .ok b h) : (cmpM .NotIn x y h).sat Q E = Q (.bl (!b)) h := by with_unfolding_all exact Raw.ninM_sat e
/-- a text in a tuple of texts -/
theorem v_in_st {a : List Char} (l : List (List Char)) {ys : List PV} (e : ys = l.map PV.str) : (cmpM .In (.str a) (.tup ys) h).sat Q E = Q (.bl (decide (a ∈ l))) h := by with_unfolding_all exact Raw.v_in_st l e
theorem v_in_sl {a : List Char} (l : List (List Char)) {n : Nat} (e : lget h n = some (l.map PV.str)) : (cmpM .In (.str a) (.ref n) h).sat Q E = Q (.bl (decide (a ∈ l))) h := by with_unfolding_all exact Raw.v_in_sl l e
theorem v_nin_sl {a : List Char} (l : List (List Char)) {n : Nat} (e : lget h n = some (l.map PV.str)) : (cmpM .NotIn (.str a) (.ref n) h).sat Q E = Q (.bl (!decide (a ∈ l))) h := by with_unfolding_all exact Raw.v_nin_sl l e
@[simp] theorem v_ix_t {xs : List PV} {i : Int} : (ixM (.tup xs) (.int i) h).sat Q E = atK (fun p => Q p h) (L2.atI xs i) := by with_unfolding_all exact Raw.v_ix_t
theorem v_ix_s {l : List Char} {i : Int} (hl : l.length ≤ big) : (ixM (.str l) (.int i) h).sat Q E = atK (fun c => Q (.str [c]) h) (L2.atI l i) := by with_unfolding_all exact Raw.v_ix_s hl
theorem v_ix_l {n : Nat} {xs : List PV} {i : Int} (e : lget h n = some xs) : (ixM (.ref n) (.int i) h).sat Q E = atK (fun p => Q p h) (L2.atI xs i) := by with_unfolding_all exact Raw.v_ix_l e
@[simp] theorem v_add_i {a b : Int} : (binM .Add (.int a) (.int b) h).sat Q E = Q (.int (a + b)) h := by with_unfolding_all exact Raw.v_add_i
@[simp] theorem v_sub_i {a b : Int} : (binM .Sub (.int a) (.int b) h).sat Q E = Q (.int (a - b)) h := by with_unfolding_all exact Raw.v_sub_i
@[simp] theorem v_and_i {a b : Int} : (binM .BitAnd (.int a) (.int b) h).sat Q E = Q (.int (Builtin.bitAnd a b)) h := by with_unfolding_all exact Raw.v_and_i
theorem v_mul_i {a b : Int} (hs : (small64 a || small64 b) = true) : (binM .Mult (.int a) (.int b) h).sat Q E = Q (.int (a * b)) h := by with_unfolding_all exact Raw.v_mul_i hs
theorem v_div_i {a b : Int} (hb : 0 < b ∧ b.natAbs.log2 < 9000) : (binM .FloorDiv (.int a) (.int b) h).sat Q E = Q (.int (a / b)) h := by with_unfolding_all exact Raw.v_div_i hb
theorem v_mod_i {a b : Int} (hb : 0 < b) : (binM .Mod (.int a) (.int b) h).sat Q E = Q (.int (a % b)) h := by with_unfolding_all exact Raw.v_mod_i hb
theorem v_shl_i {a b : Int} (hb : 0 ≤ b ∧ b ≤ 1000000 ∧ a.natAbs < 2 ^ 64) : (binM .LShift (.int a) (.int b) h).sat Q E = Q (.int (a * 2 ^ b.toNat)) h := by with_unfolding_all exact Raw.v_shl_i hb
theorem v_shr_i {a b : Int} (hb : 0 ≤ b) : (binM .RShift (.int a) (.int b) h).sat Q E = Q (.int (a / 2 ^ b.toNat)) h := by with_unfolding_all exact Raw.v_shr_i hb
theorem v_pow_i {a b : Int} (hb : 0 ≤ b ∧ (Builtin.Int.intBits a : Int) * b ≤ 2 ^ 27) : (binM .Pow (.int a) (.int b) h).sat Q E = Q (.int (a ^ b.toNat)) h := by with_unfolding_all exact Raw.v_pow_i hb
theorem v_add_s {a b : List Char} (hl : a.length + b.length ≤ big) : (binM .Add (.str a) (.str b) h).sat Q E = Q (.str (a ++ b)) h := by with_unfolding_all exact Raw.v_add_s hl
theorem v_add_t {a b : List PV} (hl : a.length + b.length ≤ big) : (binM .Add (.tup a) (.tup b) h).sat Q E = Q (.tup (a ++ b)) h := by with_unfolding_all exact Raw.v_add_t hl
theorem v_add_l {a b : Nat} {xs ys : List PV} (e1 : wl h a = some xs) (e2 : wl h b = some ys) (hl : xs.length + ys.length ≤ big) : (binM .Add (.ref a) (.ref b) h).sat Q E = Q (.ref h.length) (h ++ [.lst (xs ++ ys)]) := by with_unfolding_all exact Raw.v_add_l e1 e2 hl
theorem v_mul_l {a : Nat} {k : Int} {xs : List PV} (e1 : wl h a = some xs) (hk : -(2 ^ 63) ≤ k ∧ k < 2 ^ 63) (hl : xs.length * k.toNat ≤ big) : (binM .Mult (.ref a) (.int k) h).sat Q E = Q (.ref h.length) (h ++ [.lst (List.replicate k.toNat xs).flatten]) := by with_unfolding_all exact Raw.v_mul_l e1 hk hl
@[simp] theorem v_len_t {xs : List PV} : (bltM .len [.tup xs] h).sat Q E = Q (.int xs.length) h := by with_unfolding_all exact Raw.v_len_t
theorem v_len_s {l : List Char} (hl : l.length ≤ big) : (bltM .len [.str l] h).sat Q E = Q (.int l.length) h := by with_unfolding_all exact Raw.v_len_s hl
theorem v_len_l {n : Nat} {xs : List PV} (e : lget h n = some xs) : (bltM .len [.ref n] h).sat Q E = Q (.int xs.length) h := by with_unfolding_all exact Raw.v_len_l e
@[simp] theorem v_int_i {i : Int} : (bltM .int [.int i] h).sat Q E = Q (.int i) h := by with_unfolding_all exact Raw.v_int_i
@[simp] theorem v_int_b {b : Bool} : (bltM .int [.bl b] h).sat Q E = Q (.int (if b then 1 else 0)) h := by with_unfolding_all exact Raw.v_int_b
theorem v_list {n : Nat} {xs : List PV} (e : lget h n = some xs) : (bltM .list [.ref n] h).sat Q E = Q (.ref h.length) (h ++ [.lst xs]) := by with_unfolding_all exact Raw.v_list e
theorem v_tuple {n : Nat} {xs : List PV} (e : lget h n = some xs) : (bltM .tuple [.ref n] h).sat Q E = Q (.tup xs) h := by with_unfolding_all exact Raw.v_tuple e
@[simp] theorem v_min2 {i j : Int} : (bltM .min [.int i, .int j] h).sat Q E = Q (.int (if j < i then j else i)) h := by with_unfolding_all exact Raw.v_min2
@[simp] theorem v_append {n : Nat} {v : PV} : (mthM .list .append (.ref n) [v] h).sat Q E = atK (fun xs => xs.length < big ∧ Q .non (h.set n (.lst (xs ++ [v])))) (wl h n) := by with_unfolding_all exact Raw.v_append
theorem v_set {n : Nat} {xs : List PV} {i : Int} {j : Nat} {v : PV} {K : Unit → MH → Prop} {E : Exc → MH → Prop} (e : h[n]? = some (.lst xs)) (ei : L2.ixN xs.length i = some j) : (setM (.ref n) (.int i) v h).sat K E = K () (h.set n (.lst (xs.set j v))) := by with_unfolding_all exact Raw.v_set e ei
end
end FL
namespace FL
/-! FLC: comprehensions. -/
def lcStep (G : GG) (elt : CE) (t : CT) (ifs : CEs) (fr0 : Fr) : PV → M (Option PV) := fun x => fun h => match setT t x fr0 with
  | some fr1 => match evAll0 G ifs fr1 h with
    | .ok true h1 => match evE0 G elt fr1 h1 with
      | .ok v h2 => .ok (some v) h2
      | _ => .bad
    | .ok false h1 => .ok none h1
    | _ => .bad
  | none => .bad
section
variable {G : GG} {fr : Fr} {h : MH} {Q : PV → MH → Prop} {E : Exc → MH → Prop}
end
/-- a walk over a list that stays -/
theorem at_lst {S : List Nat} {h0 : MH} {n : Nat} {xs : List PV} (e : lget h0 n = some xs) (hn : n ∉ S) : ∀ h1, Kept S h0 h1 → ∀ i, i ≤ xs.length → (IT.lst n).at i h1 = some xs[i]? := fun h1 k i _ => by
  show (lget h1 n).map _ = _
  rw [k.lget e hn]; rfl
theorem fuel_lst {h0 : MH} {n : Nat} {xs : List PV} (e : lget h0 n = some xs) : xs.length < (IT.lst n).fuel h0 := by
  show _ < ((lget h0 n).getD []).length + 1
  rw [e]; simp
theorem at_seq {S : List Nat} {h0 : MH} {xs : List PV} : ∀ h1, Kept S h0 h1 → ∀ i, i ≤ xs.length → (IT.seq xs).at i h1 = some xs[i]? := fun _ _ _ _ => rfl
theorem fuel_seq {h0 : MH} {xs : List PV} : xs.length < (IT.seq xs).fuel h0 := Nat.lt_succ_self _
namespace Raw
section
variable {G : GG} {fr : Fr} {h : MH} {Q : PV → MH → Prop} {E : Exc → MH → Prop}
theorem w_lc {elt : CE} {own : List (PySem.Str × Nat)} {t : CT} {it : CI} {ifs : CEs} : (evE0 G (.lc elt own t it ifs) fr h).sat0 Q E =
    (evI0 G it fr h).sat0 (fun I h0 => (compL0 I h0.length (lcStep G elt t ifs (wipeF fr (own.map (·.2)))) (I.fuel h0) 0 (h0 ++ [.lst []])).sat0 (fun _ h1 => Q (.ref h0.length) h1) noE) E := by
  show ((evI0 G it fr >>= fun I => fun h0 => match compL0 I h0.length (lcStep G elt t ifs (wipeF fr (own.map (·.2)))) (I.fuel h0) 0 (h0 ++ [.lst []]) with
      | .ok _ h1 => .ok (.ref h0.length) h1
      | _ => .bad : M PV) h).sat0 Q E = _
  rw [sat_bind]
  congr 1
  funext I h0
  cases compL0 I h0.length (lcStep G elt t ifs (wipeF fr (own.map (·.2)))) (I.fuel h0) 0 (h0 ++ [.lst []]) <;> rfl
theorem sat_lcStep {elt : CE} {t : CT} {ifs : CEs} {fr0 fr1 : Fr} {x : PV} {K : Option PV → MH → Prop} (e : setT t x fr0 = some fr1) (s : (evAll0 G ifs fr1 h).sat0 (fun b h1 => if b then (evE0 G elt fr1 h1).sat0 (fun v h2 => K (some v) h2) noE else K none h1) noE) : (lcStep G elt t ifs fr0 x h).sat0 K noE := by
  unfold lcStep
  rw [e]
  dsimp only
  cases ea : evAll0 G ifs fr1 h with
  | ok b h1 =>
    rw [ea] at s
    cases b with
    | false => exact s
    | true =>
      have s' : (evE0 G elt fr1 h1).sat0 (fun v h2 => K (some v) h2) noE := s
      dsimp only
      cases ee : evE0 G elt fr1 h1 with
      | ok v h2 => rw [ee] at s'; exact s'
      | exc c h2 => rw [ee] at s'; exact s'
      | bad => rw [ee] at s'; exact s'
  | exc c h1 => rw [ea] at s; exact s
  | bad => rw [ea] at s; exact s
end
/-- each item gives g x, nothing old changes -/
theorem sat_lcP {I : IT} {xs : List PV} {g : PV → Option PV} {S : List Nat} {h0 : MH} {step : PV → M (Option PV)} {Q : Unit → MH → Prop} (hS : ∀ n ∈ S, n < h0.length) (hat : ∀ h1, Kept S h0 h1 → ∀ i, i ≤ xs.length → I.at i h1 = some xs[i]?) (hf : xs.length < I.fuel h0) (hb : xs.length ≤ big)
    (hs : ∀ x ∈ xs, ∀ h1, Kept S h0 h1 → h0.length < h1.length → (step x h1).sat0 (fun r h2 => r = g x ∧ Kept S h1 h2) noE) (fin : ∀ h1, Kept S h0 h1 → h1[h0.length]? = some (.lst (xs.filterMap g)) → Q () h1) :
    (compL0 I h0.length step (I.fuel h0) 0 (h0 ++ [.lst []])).sat0 Q noE := by
  refine sat_compL (J := fun i acc h1 => Kept S h0 h1 ∧ h1[h0.length]? = some (.lst acc) ∧ acc = (xs.take i).filterMap g) (xs := xs) (fun i acc h1 q hi => hat h1 q.1 i hi) ?_ ?_ _ 0 [] _ (by omega) (Nat.zero_le _) ⟨(Kept.refl S h0).app _, by simp, rfl⟩
  · rintro i x acc h1 hx ⟨k1, k2, rfl⟩
    refine sat_mono (hs x (List.mem_of_getElem? hx) h1 k1 (List.getElem?_eq_some_iff.mp k2).1) ?_ fun _ _ z => z
    rintro r h2 ⟨rfl, k3⟩
    have hn : h0.length ∉ S := fun z => Nat.lt_irrefl _ (hS _ z)
    have k4 := k3.at k2 hn
    have ht : xs.take (i + 1) = xs.take i ++ [x] := by
      rw [List.take_add_one, hx]; rfl
    cases eg : g x with
    | none =>
      refine ⟨k1.trans k3, k4, ?_⟩
      rw [ht, List.filterMap_append]; simp [eg]
    | some v =>
      refine ⟨wl_lst k4, ?_, (k1.trans k3).setNew (Nat.le_refl _) _, get_set k4, ?_⟩
      · have h1 := List.length_filterMap_le g (xs.take i)
        have h2 : (xs.take i).length ≤ i := by rw [List.length_take]; omega
        have h3 := (List.getElem?_eq_some_iff.mp hx).1
        omega
      · rw [ht, List.filterMap_append]; simp [eg]
  · rintro acc h1 ⟨k1, k2, rfl⟩
    rw [List.take_length] at k2
    exact fin h1 k1 k2
end Raw

section
variable {G : GG} {fr : Fr} {h : MH} {Q : PV → MH → Prop} {E : Exc → MH → Prop}
theorem w_lc {elt : CE} {own : List (PySem.Str × Nat)} {t : CT} {it : CI} {ifs : CEs} : (evE G (.lc elt own t it ifs) fr h).sat Q E =
    (evI G it fr h).sat (fun I h0 => (compL I h0.length (lcStep G elt t ifs (wipeF fr (own.map (·.2)))) (I.fuel h0) 0 (h0 ++ [.lst []])).sat (fun _ h1 => Q (.ref h0.length) h1) noE) E := by with_unfolding_all exact Raw.w_lc
theorem sat_lcStep {elt : CE} {t : CT} {ifs : CEs} {fr0 fr1 : Fr} {x : PV} {K : Option PV → MH → Prop} (e : setT t x fr0 = some fr1) (s : (evAll G ifs fr1 h).sat (fun b h1 => if b then (evE G elt fr1 h1).sat (fun v h2 => K (some v) h2) noE else K none h1) noE) : (lcStep G elt t ifs fr0 x h).sat K noE := by with_unfolding_all exact Raw.sat_lcStep e s
end
/-- each item gives g x, nothing old changes -/
theorem sat_lcP {I : IT} {xs : List PV} {g : PV → Option PV} {S : List Nat} {h0 : MH} {step : PV → M (Option PV)} {Q : Unit → MH → Prop} (hS : ∀ n ∈ S, n < h0.length) (hat : ∀ h1, Kept S h0 h1 → ∀ i, i ≤ xs.length → I.at i h1 = some xs[i]?) (hf : xs.length < I.fuel h0) (hb : xs.length ≤ big)
    (hs : ∀ x ∈ xs, ∀ h1, Kept S h0 h1 → h0.length < h1.length → (step x h1).sat (fun r h2 => r = g x ∧ Kept S h1 h2) noE) (fin : ∀ h1, Kept S h0 h1 → h1[h0.length]? = some (.lst (xs.filterMap g)) → Q () h1) :
    (compL I h0.length step (I.fuel h0) 0 (h0 ++ [.lst []])).sat Q noE := by with_unfolding_all exact Raw.sat_lcP hS hat hf hb hs fin
end FL
set_option maxHeartbeats 0
namespace K48
open PySem PySem.Spec PyProof.Rows L2 FL
def top (i : Nat) : Stmt := PySem.Challenge.pw_rowferry_k48_numbered_orders.main.body.getD i (.Pass ⟨0, 0, 0, 0⟩)
def md : MD where
  exs := [("TooMany", ["what", "most"]), ("BadNumber", ["number"]), ("NotAnOrder", [])]
  hcs := ["BadNumber", "NotAnOrder", "TooMany"]
  subs := [("TooMany", "TooMany"), ("BadNumber", "BadNumber"), ("NotAnOrder", "NotAnOrder")]
  cons := [("MOST_COUNTED", (.int 12)), ("ADDING", (.tup [(.str ['a', 'd', 'd', 't', 'a', 'b', 'l', 'e']), (.str ['a', 'd', 'd', 'c', 'o', 'l', 'u', 'm', 'n']), (.str ['a', 'd', 'd', 'r', 'u', 'l', 'e'])])), ("DROPPING", (.tup [(.str ['d', 'r', 'o', 'p', 't', 'a', 'b', 'l', 'e']), (.str ['d', 'r', 'o', 'p', 'c', 'o', 'l', 'u', 'm', 'n']), (.str ['d', 'r', 'o', 'p', 'r', 'u', 'l', 'e'])]))]
abbrev G0 : GG := md.G
def fD (x : Str) (i : Nat) : He.DefD := ⟨(x, none), x, x, defArgs (top i), defBody (top i), defScope (top i), [], []⟩
def iS (i j : Nat) : Stmt := (clsBody (top i)).getD j (.Pass ⟨0, 0, 0, 0⟩)
def iD (c : Str) (q : Str) (i j : Nat) : He.DefD := ⟨(c, some "__init__"), "__init__", q, defArgs (iS i j), defBody (iS i j), defScope (iS i j), [], []⟩
def fn0 : List He.DefD := [iD "TooMany" "TooMany.__init__" 3 0, iD "BadNumber" "BadNumber.__init__" 4 0, fD "is_whole" 7, fD "noun" 11, fD "touches" 12, fD "lean" 13, fD "befores" 15, fD "free_places" 16, fD "completions" 17, fD "count_orders" 18, fD "order_at" 19, fD "least_order" 20, fD "order_number" 21, fD "_law_deck" 23, fD "_law_draw" 24, fD "_law_word" 25, fD "_law_same" 26, fD "_law_kinds" 27, fD "_law_touches" 28, fD "_law_leans" 29]
def fn1 : List He.DefD := [fD "_law_swapped" 30, fD "_law_path" 31, fD "_law_step" 32, fD "_law_loose" 33, fD "_law_orders" 34, fD "_law_at" 35, fD "_law_number" 36, fD "_law_counted" 37, fD "_law_least" 38, fD "_law_refused" 39, fD "_law_mixed" 41, fD "_law_small" 40, fD "_law_chains" 42, fD "_law_woven" 43, fD "_law_ways" 44, fD "_law_rank" 45, fD "_law_first" 46, fD "_law_large" 47, fD "law" 48]
def fn : List He.DefD := fn0 ++ fn1
def gls : List Str := (["is_whole", "noun", "touches", "lean", "befores", "free_places", "completions", "count_orders", "order_at", "least_order", "order_number", "_law_deck", "_law_draw", "_law_word", "_law_same", "_law_kinds", "_law_touches", "_law_leans", "_law_swapped", "_law_path", "_law_step", "_law_loose", "_law_orders", "_law_at", "_law_number", "_law_counted", "_law_least", "_law_refused", "_law_mixed", "_law_small"] : List Str) ++ (["_law_chains", "_law_woven", "_law_ways", "_law_rank", "_law_first", "_law_large", "law"] : List Str)
def chk (K : PySem.W.Frag) : Bool := md.chk K && gls.all fun x => (He.Fa.glo x).ok K
def N_is_whole : List Str := ["value"]
def c_is_whole : CSs := (.cons (.ret (.bop true (.cons (.isi (.loc 0) [.int] false) (.cons (.nt (.isi (.loc 0) [.bool] false)) .nil)))) .nil)
def F_is_whole : List PV → M PV := runF G0 1 0 c_is_whole
def G_is_whole : GG := G0.add "is_whole" F_is_whole
def N_noun : List Str := ["step"]
def c_noun : CSs := (.cons (.ite (.cmp .In (.sub (.loc 0) (.cst (.int 0))) (.tup (.cons (.cst (.str ['a', 'd', 'd', 't', 'a', 'b', 'l', 'e'])) (.cons (.cst (.str ['d', 'r', 'o', 'p', 't', 'a', 'b', 'l', 'e'])) .nil)))) (.cons (.ret (.cst (.str ['t', 'a', 'b', 'l', 'e']))) .nil) .nil) (.cons (.ite (.cmp .In (.sub (.loc 0) (.cst (.int 0))) (.tup (.cons (.cst (.str ['a', 'd', 'd', 'c', 'o', 'l', 'u', 'm', 'n'])) (.cons (.cst (.str ['d', 'r', 'o', 'p', 'c', 'o', 'l', 'u', 'm', 'n'])) .nil)))) (.cons (.ret (.cst (.str ['c', 'o', 'l', 'u', 'm', 'n']))) .nil) .nil) (.cons (.ret (.cst (.str ['r', 'u', 'l', 'e']))) .nil)))
def F_noun : List PV → M PV := runF G_is_whole 1 0 c_noun
def G_noun : GG := G_is_whole.add "noun" F_noun
def N_touches : List Str := ["first", "second", "one", "two"]
def c_touches : CSs := (.cons (.asg 2 (.call "noun" (.cons (.loc 0) .nil))) (.cons (.asg 3 (.call "noun" (.cons (.loc 1) .nil))) (.cons (.ite (.bop true (.cons (.cmp .Eq (.loc 2) (.cst (.str ['t', 'a', 'b', 'l', 'e']))) (.cons (.cmp .Eq (.loc 3) (.cst (.str ['c', 'o', 'l', 'u', 'm', 'n']))) .nil))) (.cons (.ite (.cmp .Eq (.sub (.loc 0) (.cst (.int 0))) (.cst (.str ['d', 'r', 'o', 'p', 't', 'a', 'b', 'l', 'e']))) (.cons (.ret (.cst (.bl true))) .nil) .nil) (.cons (.ret (.cmp .In (.sub (.loc 0) (.cst (.int 1))) (.tup (.cons (.sub (.loc 1) (.cst (.int 1))) (.cons (.sub (.loc 1) (.cst (.int 3))) .nil))))) .nil)) .nil) (.cons (.ite (.bop true (.cons (.cmp .Eq (.loc 2) (.cst (.str ['t', 'a', 'b', 'l', 'e']))) (.cons (.cmp .Eq (.loc 3) (.cst (.str ['r', 'u', 'l', 'e']))) .nil))) (.cons (.ret (.cmp .Eq (.sub (.loc 0) (.cst (.int 1))) (.sub (.loc 1) (.cst (.int 1))))) .nil) .nil) (.cons (.ite (.bop true (.cons (.cmp .Eq (.loc 2) (.cst (.str ['c', 'o', 'l', 'u', 'm', 'n']))) (.cons (.cmp .Eq (.loc 3) (.cst (.str ['r', 'u', 'l', 'e']))) .nil))) (.cons (.ret (.bop false (.cons (.cmp .In (.sub (.loc 0) (.cst (.int 2))) (.sub (.loc 1) (.cst (.int 2)))) (.cons (.cmp .In (.sub (.loc 0) (.cst (.int 2))) (.sub (.loc 1) (.cst (.int 3)))) .nil)))) .nil) .nil) (.cons (.ite (.bop true (.cons (.cmp .Eq (.loc 2) (.cst (.str ['c', 'o', 'l', 'u', 'm', 'n']))) (.cons (.cmp .Eq (.loc 3) (.cst (.str ['c', 'o', 'l', 'u', 'm', 'n']))) .nil))) (.cons (.ret (.cmp .Eq (.tup (.cons (.sub (.loc 0) (.cst (.int 1))) (.cons (.sub (.loc 0) (.cst (.int 2))) .nil))) (.tup (.cons (.sub (.loc 1) (.cst (.int 1))) (.cons (.sub (.loc 1) (.cst (.int 2))) .nil))))) .nil) .nil) (.cons (.ret (.cst (.bl false))) .nil)))))))
def F_touches : List PV → M PV := runF G_noun 2 2 c_touches
def G_touches : GG := G_noun.add "touches" F_touches
def N_lean : List Str := ["first", "second", "adding", "dropping"]
def c_lean : CSs := (.cons (.ite (.cmp .Eq (.loc 0) (.loc 1)) (.cons (.ret (.cst (.bl true))) .nil) .nil) (.cons (.asg 2 (.bop true (.cons (.cmp .In (.sub (.loc 0) (.cst (.int 0))) (.glb "ADDING")) (.cons (.cmp .In (.sub (.loc 1) (.cst (.int 0))) (.glb "ADDING")) .nil)))) (.cons (.asg 3 (.bop true (.cons (.cmp .In (.sub (.loc 0) (.cst (.int 0))) (.glb "DROPPING")) (.cons (.cmp .In (.sub (.loc 1) (.cst (.int 0))) (.glb "DROPPING")) .nil)))) (.cons (.ite (.bop true (.cons (.nt (.loc 2)) (.cons (.nt (.loc 3)) .nil))) (.cons (.ret (.cst (.bl true))) .nil) .nil) (.cons (.ret (.bop false (.cons (.call "touches" (.cons (.loc 0) (.cons (.loc 1) .nil))) (.cons (.call "touches" (.cons (.loc 1) (.cons (.loc 0) .nil))) .nil)))) .nil)))))
def F_lean : List PV → M PV := runF G_touches 2 2 c_lean
def G_lean : GG := G_touches.add "lean" F_lean
def N_befores : List Str := ["steps", "found", "at", "step", "total", "before"]
def c_befores : CSs := (.cons (.asg 1 (.lst .nil)) (.cons (.fors (.tup [2, 3]) (.enm (.loc 0)) (.cons (.asg 4 (.cst (.int 0))) (.cons (.fors (.one 5) (.rng1 (.loc 2)) (.cons (.ite (.call "lean" (.cons (.sub (.loc 0) (.loc 5)) (.cons (.loc 3) .nil))) (.cons (.asg 4 (.bin .Add (.loc 4) (.bin .LShift (.cst (.int 1)) (.loc 5)))) .nil) .nil) .nil)) (.cons (.expr (.mth .append (.loc 1) (.cons (.loc 4) .nil))) .nil)))) (.cons (.ret (.loc 1)) .nil)))
def F_befores : List PV → M PV := runF G_lean 1 5 c_befores
def G_befores : GG := G_lean.add "befores" F_befores
def N_free_places : List Str := ["steps", "needs", "mask", "found", "at", "step", "pair"]
def c_free_places : CSs := (.cons (.asg 3 (.lst .nil)) (.cons (.fors (.tup [4, 5]) (.enm (.loc 0)) (.cons (.ite (.bop true (.cons (.cmp .Eq (.bin .BitAnd (.bin .RShift (.loc 2) (.loc 4)) (.cst (.int 1))) (.cst (.int 0))) (.cons (.cmp .Eq (.bin .BitAnd (.loc 2) (.sub (.loc 1) (.loc 4))) (.sub (.loc 1) (.loc 4))) .nil))) (.cons (.expr (.mth .append (.loc 3) (.cons (.tup (.cons (.loc 5) (.cons (.loc 4) .nil))) .nil))) .nil) .nil) .nil)) (.cons (.ret (.lc (.sub (.loc 6) (.cst (.int 1))) [("pair", 6)] (.one 6) (.val (.blt .sorted (.cons (.loc 3) .nil))) .nil)) .nil)))
def F_free_places : List PV → M PV := runF G_befores 3 4 c_free_places
def G_free_places : GG := G_befores.add "free_places" F_free_places
def N_completions : List Str := ["steps", "needs", "full", "ways", "back", "mask", "total", "at"]
def c_completions : CSs := (.cons (.ite (.cmp .Gt (.blt .len (.cons (.loc 0) .nil)) (.glb "MOST_COUNTED")) (.cons (.rse "TooMany" (.cons (.cst (.str ['c', 'o', 'u', 'n', 't', 'e', 'd'])) (.cons (.glb "MOST_COUNTED") .nil))) .nil) .nil) (.cons (.asg 1 (.call "befores" (.cons (.loc 0) .nil))) (.cons (.asg 2 (.bin .Sub (.bin .LShift (.cst (.int 1)) (.blt .len (.cons (.loc 0) .nil))) (.cst (.int 1)))) (.cons (.asg 3 (.bin .Mult (.lst (.cons (.cst (.int 0)) .nil)) (.bin .Add (.loc 2) (.cst (.int 1))))) (.cons (.sst (.loc 3) (.loc 2) (.cst (.int 1))) (.cons (.fors (.one 4) (.rng1 (.loc 2)) (.cons (.asg 5 (.bin .Sub (.bin .Sub (.loc 2) (.cst (.int 1))) (.loc 4))) (.cons (.asg 6 (.cst (.int 0))) (.cons (.fors (.one 7) (.rng1 (.blt .len (.cons (.loc 0) .nil))) (.cons (.ite (.bop true (.cons (.cmp .Eq (.bin .BitAnd (.bin .RShift (.loc 5) (.loc 7)) (.cst (.int 1))) (.cst (.int 0))) (.cons (.cmp .Eq (.bin .BitAnd (.loc 5) (.sub (.loc 1) (.loc 7))) (.sub (.loc 1) (.loc 7))) .nil))) (.cons (.asg 6 (.bin .Add (.loc 6) (.sub (.loc 3) (.bin .Add (.loc 5) (.bin .LShift (.cst (.int 1)) (.loc 7)))))) .nil) .nil) .nil)) (.cons (.sst (.loc 3) (.loc 5) (.loc 6)) .nil))))) (.cons (.ret (.loc 3)) .nil)))))))
def F_completions : List PV → M PV := runF G_free_places 1 7 c_completions
def G_completions : GG := G_free_places.add "completions" F_completions
def N_count_orders : List Str := ["steps"]
def c_count_orders : CSs := (.cons (.ret (.sub (.call "completions" (.cons (.loc 0) .nil)) (.cst (.int 0)))) .nil)
def F_count_orders : List PV → M PV := runF G_completions 1 0 c_count_orders
def G_count_orders : GG := G_completions.add "count_orders" F_count_orders
def N_order_at : List Str := ["steps", "number", "ways", "needs", "mask", "found", "at", "count"]
def c_order_at : CSs := (.cons (.asg 2 (.call "completions" (.cons (.loc 0) .nil))) (.cons (.ite (.bop false (.cons (.nt (.call "is_whole" (.cons (.loc 1) .nil))) (.cons (.nt (.chn .LtE .Lt (.cst (.int 0)) (.loc 1) (.sub (.loc 2) (.cst (.int 0))))) .nil))) (.cons (.rse "BadNumber" (.cons (.loc 1) .nil)) .nil) .nil) (.cons (.asg 3 (.call "befores" (.cons (.loc 0) .nil))) (.cons (.asg 4 (.cst (.int 0))) (.cons (.asg 5 (.lst .nil)) (.cons (.whl 100000 (.cmp .Lt (.blt .len (.cons (.loc 5) .nil)) (.blt .len (.cons (.loc 0) .nil))) (.cons (.fors (.one 6) (.val (.call "free_places" (.cons (.loc 0) (.cons (.loc 3) (.cons (.loc 4) .nil))))) (.cons (.asg 7 (.sub (.loc 2) (.bin .Add (.loc 4) (.bin .LShift (.cst (.int 1)) (.loc 6))))) (.cons (.ite (.cmp .Lt (.loc 1) (.loc 7)) (.cons (.expr (.mth .append (.loc 5) (.cons (.sub (.loc 0) (.loc 6)) .nil))) (.cons (.asg 4 (.bin .Add (.loc 4) (.bin .LShift (.cst (.int 1)) (.loc 6)))) (.cons .brk .nil))) .nil) (.cons (.asg 1 (.bin .Sub (.loc 1) (.loc 7))) .nil)))) .nil)) (.cons (.ret (.loc 5)) .nil)))))))
def F_order_at : List PV → M PV := runF G_count_orders 2 6 c_order_at
def G_order_at : GG := G_count_orders.add "order_at" F_order_at
def N_least_order : List Str := ["steps"]
def c_least_order : CSs := (.cons (.ret (.call "order_at" (.cons (.loc 0) (.cons (.cst (.int 0)) .nil)))) .nil)
def F_least_order : List PV → M PV := runF G_order_at 1 0 c_least_order
def G_least_order : GG := G_order_at.add "least_order" F_least_order
def N_order_number : List Str := ["steps", "other", "ways", "needs", "mask", "number", "step", "chosen", "at"]
def c_order_number : CSs := (.cons (.asg 2 (.call "completions" (.cons (.loc 0) .nil))) (.cons (.ite (.cmp .NotEq (.blt .len (.cons (.loc 1) .nil)) (.blt .len (.cons (.loc 0) .nil))) (.cons (.rse "NotAnOrder" .nil) .nil) .nil) (.cons (.asg 3 (.call "befores" (.cons (.loc 0) .nil))) (.cons (.asg 4 (.cst (.int 0))) (.cons (.asg 5 (.cst (.int 0))) (.cons (.fors (.one 6) (.val (.loc 1)) (.cons (.asg 7 (.cst .non)) (.cons (.fors (.one 8) (.val (.call "free_places" (.cons (.loc 0) (.cons (.loc 3) (.cons (.loc 4) .nil))))) (.cons (.ite (.cmp .Eq (.sub (.loc 0) (.loc 8)) (.loc 6)) (.cons (.asg 7 (.loc 8)) (.cons .brk .nil)) .nil) (.cons (.asg 5 (.bin .Add (.loc 5) (.sub (.loc 2) (.bin .Add (.loc 4) (.bin .LShift (.cst (.int 1)) (.loc 8)))))) .nil))) (.cons (.ite (.cmp .Is (.loc 7) (.cst .non)) (.cons (.rse "NotAnOrder" .nil) .nil) .nil) (.cons (.asg 4 (.bin .Add (.loc 4) (.bin .LShift (.cst (.int 1)) (.loc 7)))) .nil))))) (.cons (.ret (.loc 5)) .nil)))))))
def F_order_number : List PV → M PV := runF G_least_order 2 7 c_order_number
def G_order_number : GG := G_least_order.add "order_number" F_order_number
def N__law_deck : List Str := ["script", "cells", "seed", "cell"]
def c__law_deck : CSs := (.cons (.asg 1 (.lc (.bin .Mod (.blt .int (.cons (.loc 3) .nil)) (.bin .Pow (.cst (.int 10)) (.cst (.int 40)))) [("cell", 3)] (.one 3) (.val (.slc (.loc 0) .none (.some (.cst (.int 63))))) .nil)) (.cons (.asg 2 (.cst (.int 7))) (.cons (.fors (.one 3) (.val (.loc 1)) (.cons (.asg 2 (.bin .Mod (.bin .Add (.bin .Mult (.loc 2) (.cst (.int 48271))) (.loc 3)) (.cst (.int 2147483647)))) .nil)) (.cons (.ret (.lst (.cons (.cst (.int 0)) (.cons (.cst (.int 0)) (.cons (.loc 2) (.cons (.loc 1) .nil)))))) .nil))))
def F__law_deck : List PV → M PV := runF G_order_number 1 3 c__law_deck
def G__law_deck : GG := G_order_number.add "_law_deck" F__law_deck
def N__law_draw : List Str := ["deck", "many", "number", "loaded"]
def c__law_draw : CSs := (.cons (.asg 2 (.sub (.loc 0) (.cst (.int 1)))) (.cons (.asg 3 (.cmp .Gt (.loc 2) (.cst (.int 0)))) (.cons (.ite (.bop true (.cons (.nt (.loc 3)) (.cons (.cmp .Lt (.sub (.loc 0) (.cst (.int 0))) (.blt .len (.cons (.sub (.loc 0) (.cst (.int 3))) .nil))) .nil))) (.cons (.asg 2 (.sub (.sub (.loc 0) (.cst (.int 3))) (.sub (.loc 0) (.cst (.int 0))))) (.cons (.sst (.loc 0) (.cst (.int 0)) (.bin .Add (.sub (.loc 0) (.cst (.int 0))) (.cst (.int 1)))) (.cons (.asg 3 (.cst (.bl true))) .nil))) .nil) (.cons (.ite (.loc 3) (.cons (.sst (.loc 0) (.cst (.int 1)) (.bin .FloorDiv (.loc 2) (.loc 1))) (.cons (.ret (.bin .Mod (.blt .int (.cons (.loc 2) .nil)) (.loc 1))) .nil)) .nil) (.cons (.asg 2 (.bin .Mod (.blt .int (.cons (.bin .Add (.bin .Mult (.sub (.loc 0) (.cst (.int 2))) (.cst (.int 1103515245))) (.cst (.int 12345))) .nil)) (.cst (.int 2147483648)))) (.cons (.sst (.loc 0) (.cst (.int 2)) (.loc 2)) (.cons (.ret (.bin .Mod (.blt .int (.cons (.bin .FloorDiv (.loc 2) (.cst (.int 65536))) .nil)) (.loc 1))) .nil)))))))
def F__law_draw : List PV → M PV := runF G__law_deck 2 2 c__law_draw
def G__law_draw : GG := G__law_deck.add "_law_draw" F__law_draw
def N__law_word : List Str := ["deck", "used", "letters", "kind", "size", "word", "k", "pairs", "pair"]
def c__law_word : CSs := (.cons (.asg 2 (.cst (.str ['a', 'b', 'c', 'd', 'e', 'f', 'g', 'h', 'i', 'j', 'k', 'l', 'm', 'n', 'o', 'p', 'q', 'r', 's', 't', 'u', 'v', 'w', 'x', 'y', 'z']))) (.cons (.asg 3 (.call "_law_draw" (.cons (.loc 0) (.cons (.cst (.int 4)) .nil)))) (.cons (.asg 4 (.sub (.lst (.cons (.cst (.int 1)) (.cons (.cst (.int 1)) (.cons (.cst (.int 2)) (.cons (.bin .Add (.cst (.int 1)) (.call "_law_draw" (.cons (.loc 0) (.cons (.cst (.int 8)) .nil)))) .nil))))) (.loc 3))) (.cons (.asg 5 (.cst (.str []))) (.cons (.fors (.one 6) (.rng1 (.loc 4)) (.cons (.asg 5 (.bin .Add (.loc 5) (.sub (.loc 2) (.call "_law_draw" (.cons (.loc 0) (.cons (.sub (.lst (.cons (.cst (.int 4)) (.cons (.cst (.int 26)) (.cons (.cst (.int 26)) (.cons (.cst (.int 26)) .nil))))) (.loc 3)) .nil)))))) .nil)) (.cons (.ite (.cmp .NotIn (.loc 5) (.loc 1)) (.cons (.ret (.loc 5)) .nil) .nil) (.cons (.asg 7 (.lc (.bin .Add (.sub (.loc 2) (.bin .FloorDiv (.loc 6) (.cst (.int 26)))) (.sub (.loc 2) (.bin .Mod (.loc 6) (.cst (.int 26))))) [("k", 6)] (.one 6) (.rng1 (.cst (.int 676))) .nil)) (.cons (.ret (.sub (.lc (.loc 8) [("pair", 8)] (.one 8) (.val (.loc 7)) (.cons (.cmp .NotIn (.loc 8) (.loc 1)) .nil)) (.cst (.int 0)))) .nil))))))))
def F__law_word : List PV → M PV := runF G__law_draw 2 7 c__law_word
def G__law_word : GG := G__law_draw.add "_law_word" F__law_word
def N__law_same : List Str := ["actual", "due", "stack", "turn", "pair", "at"]
def c__law_same : CSs := (.cons (.asg 2 (.lst (.cons (.tup (.cons (.loc 0) (.cons (.loc 1) .nil))) .nil))) (.cons (.fors (.one 3) (.rng1 (.cst (.int 200000))) (.cons (.ite (.cmp .Eq (.blt .len (.cons (.loc 2) .nil)) (.cst (.int 0))) (.cons (.ret (.cst (.bl true))) .nil) .nil) (.cons (.asg 4 (.mth .pop (.loc 2) .nil)) (.cons (.ite (.isi (.sub (.loc 4) (.cst (.int 1))) [.tuple, .list] true) (.cons (.ite (.cmp .NotEq (.isi (.sub (.loc 4) (.cst (.int 1))) [.tuple] false) (.isi (.sub (.loc 4) (.cst (.int 0))) [.tuple] false)) (.cons (.ret (.cst (.bl false))) .nil) .nil) (.cons (.ite (.bop false (.cons (.cmp .NotEq (.isi (.sub (.loc 4) (.cst (.int 1))) [.list] false) (.isi (.sub (.loc 4) (.cst (.int 0))) [.list] false)) (.cons (.cmp .NotEq (.blt .len (.cons (.sub (.loc 4) (.cst (.int 0))) .nil)) (.blt .len (.cons (.sub (.loc 4) (.cst (.int 1))) .nil))) .nil))) (.cons (.ret (.cst (.bl false))) .nil) .nil) (.cons (.fors (.one 5) (.rng1 (.blt .len (.cons (.sub (.loc 4) (.cst (.int 1))) .nil))) (.cons (.expr (.mth .append (.loc 2) (.cons (.tup (.cons (.sub (.sub (.loc 4) (.cst (.int 0))) (.loc 5)) (.cons (.sub (.sub (.loc 4) (.cst (.int 1))) (.loc 5)) .nil))) .nil))) .nil)) .nil))) (.cons (.ite (.isi (.sub (.loc 4) (.cst (.int 1))) [.str] false) (.cons (.ite (.bop false (.cons (.nt (.isi (.sub (.loc 4) (.cst (.int 0))) [.str] false)) (.cons (.cmp .NotEq (.sub (.loc 4) (.cst (.int 0))) (.sub (.loc 4) (.cst (.int 1)))) .nil))) (.cons (.ret (.cst (.bl false))) .nil) .nil) .nil) (.cons (.ite (.isi (.sub (.loc 4) (.cst (.int 1))) [.bool] false) (.cons (.ite (.bop false (.cons (.nt (.isi (.sub (.loc 4) (.cst (.int 0))) [.bool] false)) (.cons (.cmp .NotEq (.sub (.loc 4) (.cst (.int 0))) (.sub (.loc 4) (.cst (.int 1)))) .nil))) (.cons (.ret (.cst (.bl false))) .nil) .nil) .nil) (.cons (.ite (.cmp .Is (.sub (.loc 4) (.cst (.int 1))) (.cst .non)) (.cons (.ite (.cmp .IsNot (.sub (.loc 4) (.cst (.int 0))) (.cst .non)) (.cons (.ret (.cst (.bl false))) .nil) .nil) .nil) (.cons (.ite (.bop false (.cons (.isi (.sub (.loc 4) (.cst (.int 0))) [.bool] false) (.cons (.nt (.isi (.sub (.loc 4) (.cst (.int 0))) [.int] false)) (.cons (.cmp .NotEq (.sub (.loc 4) (.cst (.int 0))) (.sub (.loc 4) (.cst (.int 1)))) .nil)))) (.cons (.ret (.cst (.bl false))) .nil) .nil) .nil)) .nil)) .nil)) .nil)) .nil)))) (.cons (.ret (.cst (.bl false))) .nil)))
def F__law_same : List PV → M PV := runF G__law_word 2 4 c__law_same
def G__law_same : GG := G__law_word.add "_law_same" F__law_same
def N__law_kinds : List Str := []
def c__law_kinds : CSs := (.cons (.ret (.lst (.cons (.lst (.cons (.cst (.str ['a', 'd', 'd', 't', 'a', 'b', 'l', 'e'])) (.cons (.cst (.str ['a', 'd', 'd', 'c', 'o', 'l', 'u', 'm', 'n'])) (.cons (.cst (.str ['a', 'd', 'd', 'r', 'u', 'l', 'e'])) .nil)))) (.cons (.lst (.cons (.cst (.str ['d', 'r', 'o', 'p', 't', 'a', 'b', 'l', 'e'])) (.cons (.cst (.str ['d', 'r', 'o', 'p', 'c', 'o', 'l', 'u', 'm', 'n'])) (.cons (.cst (.str ['d', 'r', 'o', 'p', 'r', 'u', 'l', 'e'])) .nil)))) .nil)))) .nil)
def F__law_kinds : List PV → M PV := runF G__law_same 0 0 c__law_kinds
def G__law_kinds : GG := G__law_same.add "_law_kinds" F__law_kinds
def N__law_touches : List Str := ["kinds", "one", "two"]
def c__law_touches : CSs := (.cons (.ite (.bop true (.cons (.cmp .Eq (.sub (.loc 1) (.cst (.int 0))) (.sub (.loc 0) (.cst (.int 0)))) (.cons (.cmp .Eq (.sub (.loc 2) (.cst (.int 0))) (.sub (.loc 0) (.cst (.int 1)))) .nil))) (.cons (.ret (.bop false (.cons (.cmp .Eq (.sub (.loc 0) (.cst (.int 0))) (.cst (.str ['d', 'r', 'o', 'p', 't', 'a', 'b', 'l', 'e']))) (.cons (.cmp .Eq (.sub (.loc 1) (.cst (.int 1))) (.sub (.loc 2) (.cst (.int 1)))) (.cons (.cmp .Eq (.sub (.loc 1) (.cst (.int 1))) (.sub (.loc 2) (.cst (.int 3)))) .nil))))) .nil) .nil) (.cons (.ite (.bop true (.cons (.cmp .Eq (.sub (.loc 1) (.cst (.int 0))) (.sub (.loc 0) (.cst (.int 0)))) (.cons (.cmp .Eq (.sub (.loc 2) (.cst (.int 0))) (.sub (.loc 0) (.cst (.int 2)))) .nil))) (.cons (.ret (.cmp .Eq (.sub (.loc 1) (.cst (.int 1))) (.sub (.loc 2) (.cst (.int 1))))) .nil) .nil) (.cons (.ite (.bop true (.cons (.cmp .Eq (.sub (.loc 1) (.cst (.int 0))) (.sub (.loc 0) (.cst (.int 1)))) (.cons (.cmp .Eq (.sub (.loc 2) (.cst (.int 0))) (.sub (.loc 0) (.cst (.int 2)))) .nil))) (.cons (.ret (.cmp .In (.sub (.loc 1) (.cst (.int 2))) (.bin .Add (.sub (.loc 2) (.cst (.int 2))) (.sub (.loc 2) (.cst (.int 3)))))) .nil) .nil) (.cons (.ite (.bop true (.cons (.cmp .Eq (.sub (.loc 1) (.cst (.int 0))) (.sub (.loc 0) (.cst (.int 1)))) (.cons (.cmp .Eq (.sub (.loc 2) (.cst (.int 0))) (.sub (.loc 0) (.cst (.int 1)))) .nil))) (.cons (.ret (.cmp .Eq (.slc (.loc 1) (.some (.cst (.int 1))) (.some (.cst (.int 3)))) (.slc (.loc 2) (.some (.cst (.int 1))) (.some (.cst (.int 3)))))) .nil) .nil) (.cons (.ret (.cst (.bl false))) .nil)))))
def F__law_touches : List PV → M PV := runF G__law_kinds 3 0 c__law_touches
def G__law_touches : GG := G__law_kinds.add "_law_touches" F__law_touches
def N__law_leans : List Str := ["one", "two", "kinds"]
def c__law_leans : CSs := (.cons (.ite (.cmp .Eq (.loc 0) (.loc 1)) (.cons (.ret (.cst (.bl true))) .nil) .nil) (.cons (.fors (.one 2) (.val (.call "_law_kinds" .nil)) (.cons (.ite (.bop true (.cons (.cmp .In (.sub (.loc 0) (.cst (.int 0))) (.loc 2)) (.cons (.cmp .In (.sub (.loc 1) (.cst (.int 0))) (.loc 2)) .nil))) (.cons (.ret (.bop false (.cons (.call "_law_touches" (.cons (.loc 2) (.cons (.loc 0) (.cons (.loc 1) .nil)))) (.cons (.call "_law_touches" (.cons (.loc 2) (.cons (.loc 1) (.cons (.loc 0) .nil)))) .nil)))) .nil) .nil) .nil)) (.cons (.ret (.cst (.bl true))) .nil)))
def F__law_leans : List PV → M PV := runF G__law_touches 2 1 c__law_leans
def G__law_leans : GG := G__law_touches.add "_law_leans" F__law_leans
def N__law_swapped : List Str := ["steps", "at"]
def c__law_swapped : CSs := (.cons (.ret (.bin .Add (.bin .Add (.slc (.loc 0) .none (.some (.loc 1))) (.lst (.cons (.sub (.loc 0) (.bin .Add (.loc 1) (.cst (.int 1)))) (.cons (.sub (.loc 0) (.loc 1)) .nil)))) (.slc (.loc 0) (.some (.bin .Add (.loc 1) (.cst (.int 2)))) .none))) .nil)
def F__law_swapped : List PV → M PV := runF G__law_leans 2 0 c__law_swapped
def G__law_swapped : GG := G__law_leans.add "_law_swapped" F__law_swapped
def N__law_path : List Str := ["deck", "words", "k"]
def c__law_path : CSs := (.cons (.ret (.blt .tuple (.cons (.lc (.sub (.loc 1) (.call "_law_draw" (.cons (.loc 0) (.cons (.blt .len (.cons (.loc 1) .nil)) .nil)))) [("k", 2)] (.one 2) (.rng1 (.call "_law_draw" (.cons (.loc 0) (.cons (.cst (.int 3)) .nil)))) .nil) .nil))) .nil)
def F__law_path : List PV → M PV := runF G__law_swapped 2 1 c__law_path
def G__law_path : GG := G__law_swapped.add "_law_path" F__law_path
def N__law_step : List Str := ["deck", "kind", "tables", "words", "names", "paths"]
def c__law_step : CSs := (.cons (.asg 4 (.lst (.cons (.sub (.loc 2) (.call "_law_draw" (.cons (.loc 0) (.cons (.cst (.int 3)) .nil)))) (.cons (.sub (.loc 2) (.call "_law_draw" (.cons (.loc 0) (.cons (.cst (.int 3)) .nil)))) .nil)))) (.cons (.asg 4 (.bin .Add (.loc 4) (.lst (.cons (.sub (.loc 3) (.call "_law_draw" (.cons (.loc 0) (.cons (.cst (.int 3)) .nil)))) (.cons (.sub (.loc 3) (.call "_law_draw" (.cons (.loc 0) (.cons (.cst (.int 3)) .nil)))) .nil))))) (.cons (.asg 5 (.lst (.cons (.call "_law_path" (.cons (.loc 0) (.cons (.loc 3) .nil))) (.cons (.call "_law_path" (.cons (.loc 0) (.cons (.loc 3) .nil))) .nil)))) (.cons (.ret (.sub (.lst (.cons (.tup (.cons (.cst (.str ['a', 'd', 'd', 't', 'a', 'b', 'l', 'e'])) (.cons (.sub (.loc 4) (.cst (.int 0))) .nil))) (.cons (.tup (.cons (.cst (.str ['a', 'd', 'd', 'c', 'o', 'l', 'u', 'm', 'n'])) (.cons (.sub (.loc 4) (.cst (.int 0))) (.cons (.sub (.loc 4) (.cst (.int 2))) (.cons (.sub (.loc 4) (.cst (.int 1))) .nil))))) (.cons (.tup (.cons (.cst (.str ['a', 'd', 'd', 'r', 'u', 'l', 'e'])) (.cons (.sub (.loc 4) (.cst (.int 0))) (.cons (.sub (.loc 5) (.cst (.int 0))) (.cons (.sub (.loc 5) (.cst (.int 1))) .nil))))) (.cons (.tup (.cons (.cst (.str ['d', 'r', 'o', 'p', 't', 'a', 'b', 'l', 'e'])) (.cons (.sub (.loc 4) (.cst (.int 0))) .nil))) (.cons (.tup (.cons (.cst (.str ['d', 'r', 'o', 'p', 'c', 'o', 'l', 'u', 'm', 'n'])) (.cons (.sub (.loc 4) (.cst (.int 0))) (.cons (.sub (.loc 4) (.cst (.int 2))) .nil)))) (.cons (.tup (.cons (.cst (.str ['d', 'r', 'o', 'p', 'r', 'u', 'l', 'e'])) (.cons (.sub (.loc 4) (.cst (.int 0))) (.cons (.sub (.loc 5) (.cst (.int 0))) (.cons (.sub (.loc 5) (.cst (.int 1))) .nil))))) (.cons (.tup (.cons (.cst (.str ['n', 'a', 'm', 'e', 't', 'a', 'b', 'l', 'e'])) (.cons (.sub (.loc 4) (.cst (.int 0))) (.cons (.sub (.loc 4) (.cst (.int 1))) .nil)))) (.cons (.tup (.cons (.cst (.str ['n', 'a', 'm', 'e', 'c', 'o', 'l', 'u', 'm', 'n'])) (.cons (.sub (.loc 4) (.cst (.int 0))) (.cons (.sub (.loc 4) (.cst (.int 2))) (.cons (.sub (.loc 4) (.cst (.int 3))) .nil))))) .nil))))))))) (.loc 1))) .nil))))
def F__law_step : List PV → M PV := runF G__law_path 4 2 c__law_step
def G__law_step : GG := G__law_path.add "_law_step" F__law_step
def N__law_loose : List Str := ["deck", "tables", "k", "words", "low", "steps", "turn", "kind"]
def c__law_loose : CSs := (.cons (.asg 1 (.lst .nil)) (.cons (.fors (.one 2) (.rng1 (.cst (.int 3))) (.cons (.expr (.mth .append (.loc 1) (.cons (.call "_law_word" (.cons (.loc 0) (.cons (.loc 1) .nil))) .nil))) .nil)) (.cons (.asg 3 (.lst .nil)) (.cons (.fors (.one 2) (.rng1 (.cst (.int 3))) (.cons (.expr (.mth .append (.loc 3) (.cons (.call "_law_word" (.cons (.loc 0) (.cons (.loc 3) .nil))) .nil))) .nil)) (.cons (.sst (.loc 3) (.cst (.int 2)) (.sub (.lst (.cons (.sub (.loc 3) (.cst (.int 2))) (.cons (.sub (.loc 1) (.cst (.int 0))) .nil))) (.call "_law_draw" (.cons (.loc 0) (.cons (.cst (.int 2)) .nil))))) (.cons (.asg 4 (.sub (.lst (.cons (.cst (.int 0)) (.cons (.cst (.int 3)) (.cons (.cst (.int 0)) (.cons (.cst (.int 0)) .nil))))) (.call "_law_draw" (.cons (.loc 0) (.cons (.cst (.int 4)) .nil))))) (.cons (.asg 5 (.lst .nil)) (.cons (.fors (.one 6) (.rng1 (.call "_law_draw" (.cons (.loc 0) (.cons (.cst (.int 9)) .nil)))) (.cons (.asg 7 (.bin .Add (.loc 4) (.call "_law_draw" (.cons (.loc 0) (.cons (.cst (.int 3)) .nil))))) (.cons (.ite (.cmp .Eq (.call "_law_draw" (.cons (.loc 0) (.cons (.cst (.int 12)) .nil))) (.cst (.int 11))) (.cons (.asg 7 (.call "_law_draw" (.cons (.loc 0) (.cons (.cst (.int 8)) .nil)))) .nil) .nil) (.cons (.expr (.mth .append (.loc 5) (.cons (.call "_law_step" (.cons (.loc 0) (.cons (.loc 7) (.cons (.loc 1) (.cons (.loc 3) .nil))))) .nil))) .nil)))) (.cons (.ret (.loc 5)) .nil)))))))))
def F__law_loose : List PV → M PV := runF G__law_step 1 7 c__law_loose
def G__law_loose : GG := G__law_step.add "_law_loose" F__law_loose
def N__law_orders : List Str := ["steps", "found", "seen", "turn", "at", "other"]
def c__law_orders : CSs := (.cons (.asg 1 (.lst (.cons (.blt .list (.cons (.loc 0) .nil)) .nil))) (.cons (.asg 2 (.dd1 (.blt .tuple (.cons (.loc 0) .nil)) (.cst (.bl true)))) (.cons (.fors (.one 3) (.rng1 (.cst (.int 800))) (.cons (.ite (.cmp .Lt (.loc 3) (.blt .len (.cons (.loc 1) .nil))) (.cons (.fors (.one 4) (.rng1 (.bin .Sub (.blt .len (.cons (.loc 0) .nil)) (.cst (.int 1)))) (.cons (.ite (.nt (.call "_law_leans" (.cons (.sub (.sub (.loc 1) (.loc 3)) (.loc 4)) (.cons (.sub (.sub (.loc 1) (.loc 3)) (.bin .Add (.loc 4) (.cst (.int 1)))) .nil)))) (.cons (.asg 5 (.call "_law_swapped" (.cons (.sub (.loc 1) (.loc 3)) (.cons (.loc 4) .nil)))) (.cons (.ite (.cmp .NotIn (.blt .tuple (.cons (.loc 5) .nil)) (.loc 2)) (.cons (.sst (.loc 2) (.blt .tuple (.cons (.loc 5) .nil)) (.cst (.bl true))) (.cons (.expr (.mth .append (.loc 1) (.cons (.loc 5) .nil))) .nil)) .nil) .nil)) .nil) .nil)) .nil) .nil) .nil)) (.cons (.ret (.blt .sorted (.cons (.loc 1) .nil))) .nil))))
def F__law_orders : List PV → M PV := runF G__law_loose 1 5 c__law_orders
def G__law_orders : GG := G__law_loose.add "_law_orders" F__law_orders
def N__law_at : List Str := ["steps", "number", "e"]
def c__law_at : CSs := (.cons (.tri (.cons (.ret (.tup (.cons (.cst (.str ['o', 'r', 'd', 'e', 'r'])) (.cons (.call "order_at" (.cons (.loc 0) (.cons (.loc 1) .nil))) .nil)))) .nil) (.cons "BadNumber" (some 2) (.tup [(.cst (.str ['B', 'a', 'd', 'N', 'u', 'm', 'b', 'e', 'r'])), (.fld "number")]) (.cons "TooMany" (some 2) (.tup [(.cst (.str ['T', 'o', 'o', 'M', 'a', 'n', 'y'])), (.fld "what"), (.fld "most")]) .nil))) .nil)
def F__law_at : List PV → M PV := runF G__law_orders 2 1 c__law_at
def G__law_at : GG := G__law_orders.add "_law_at" F__law_at
def N__law_number : List Str := ["steps", "other", "e"]
def c__law_number : CSs := (.cons (.tri (.cons (.ret (.tup (.cons (.cst (.str ['n', 'u', 'm', 'b', 'e', 'r'])) (.cons (.call "order_number" (.cons (.loc 0) (.cons (.loc 1) .nil))) .nil)))) .nil) (.cons "NotAnOrder" none (.tup [(.cst (.str ['N', 'o', 't', 'A', 'n', 'O', 'r', 'd', 'e', 'r']))]) (.cons "TooMany" (some 2) (.tup [(.cst (.str ['T', 'o', 'o', 'M', 'a', 'n', 'y'])), (.fld "what"), (.fld "most")]) .nil))) .nil)
def F__law_number : List PV → M PV := runF G__law_at 2 1 c__law_number
def G__law_number : GG := G__law_at.add "_law_number" F__law_number
def N__law_counted : List Str := ["steps", "e"]
def c__law_counted : CSs := (.cons (.tri (.cons (.ret (.tup (.cons (.cst (.str ['c', 'o', 'u', 'n', 't'])) (.cons (.call "count_orders" (.cons (.loc 0) .nil)) .nil)))) .nil) (.cons "TooMany" (some 1) (.tup [(.cst (.str ['T', 'o', 'o', 'M', 'a', 'n', 'y'])), (.fld "what"), (.fld "most")]) .nil)) .nil)
def F__law_counted : List PV → M PV := runF G__law_number 1 1 c__law_counted
def G__law_counted : GG := G__law_number.add "_law_counted" F__law_counted
def N__law_least : List Str := ["steps", "e"]
def c__law_least : CSs := (.cons (.tri (.cons (.ret (.tup (.cons (.cst (.str ['o', 'r', 'd', 'e', 'r'])) (.cons (.call "least_order" (.cons (.loc 0) .nil)) .nil)))) .nil) (.cons "TooMany" (some 1) (.tup [(.cst (.str ['T', 'o', 'o', 'M', 'a', 'n', 'y'])), (.fld "what"), (.fld "most")]) .nil)) .nil)
def F__law_least : List PV → M PV := runF G__law_counted 1 1 c__law_least
def G__law_least : GG := G__law_counted.add "_law_least" F__law_least
def N__law_refused : List Str := ["steps", "due", "told", "k"]
def c__law_refused : CSs := (.cons (.asg 1 (.tup (.cons (.cst (.str ['T', 'o', 'o', 'M', 'a', 'n', 'y'])) (.cons (.cst (.str ['c', 'o', 'u', 'n', 't', 'e', 'd'])) (.cons (.cst (.int 12)) .nil))))) (.cons (.asg 2 (.lst (.cons (.call "_law_counted" (.cons (.loc 0) .nil)) (.cons (.call "_law_least" (.cons (.loc 0) .nil)) (.cons (.call "_law_at" (.cons (.loc 0) (.cons (.cst (.int 0)) .nil))) (.cons (.call "_law_at" (.cons (.loc 0) (.cons (.neg (.cst (.int 1))) .nil))) .nil)))))) (.cons (.asg 2 (.bin .Add (.loc 2) (.lst (.cons (.call "_law_number" (.cons (.loc 0) (.cons (.blt .list (.cons (.loc 0) .nil)) .nil))) (.cons (.call "_law_number" (.cons (.loc 0) (.cons (.lst .nil) .nil))) .nil))))) (.cons (.ret (.call "_law_same" (.cons (.loc 2) (.cons (.lc (.loc 1) [("k", 3)] (.one 3) (.rng1 (.cst (.int 6))) .nil) .nil)))) .nil))))
def F__law_refused : List PV → M PV := runF G__law_least 1 3 c__law_refused
def G__law_refused : GG := G__law_least.add "_law_refused" F__law_refused
def N__law_mixed : List Str := ["deck", "steps", "found", "turn"]
def c__law_mixed : CSs := (.cons (.asg 1 (.blt .list (.cons (.loc 1) .nil))) (.cons (.asg 2 (.lst .nil)) (.cons (.fors (.one 3) (.rng1 (.blt .len (.cons (.loc 1) .nil))) (.cons (.expr (.mth .append (.loc 2) (.cons (.mth .pop (.loc 1) (.cons (.call "_law_draw" (.cons (.loc 0) (.cons (.blt .len (.cons (.loc 1) .nil)) .nil))) .nil)) .nil))) .nil)) (.cons (.ret (.loc 2)) .nil))))
def F__law_mixed : List PV → M PV := runF G__law_refused 2 2 c__law_mixed
def G__law_mixed : GG := G__law_refused.add "_law_mixed" F__law_mixed
def N__law_small : List Str := ["deck", "steps", "due", "handed", "places", "at", "number", "strange", "turn", "other", "told", "k"]
def c__law_small : CSs := (.cons (.asg 1 (.slc (.call "_law_loose" (.cons (.loc 0) .nil)) .none (.some (.cst (.int 6))))) (.cons (.ite (.cmp .Eq (.call "_law_draw" (.cons (.loc 0) (.cons (.cst (.int 2)) .nil))) (.cst (.int 1))) (.cons (.asg 1 (.lc (.tup (.cons (.cst (.str ['a', 'd', 'd', 't', 'a', 'b', 'l', 'e'])) (.cons (.sub (.cst (.str ['a', 'b', 'c', 'd', 'e', 'f', 'g', 'h'])) (.loc 11)) .nil))) [("k", 11)] (.one 11) (.rng1 (.call "_law_draw" (.cons (.loc 0) (.cons (.cst (.int 7)) .nil)))) .nil)) (.cons (.asg 1 (.call "_law_mixed" (.cons (.loc 0) (.cons (.loc 1) .nil)))) .nil)) .nil) (.cons (.asg 2 (.call "_law_orders" (.cons (.loc 1) .nil))) (.cons (.asg 3 (.blt .list (.cons (.loc 1) .nil))) (.cons (.ite (.nt (.call "_law_same" (.cons (.call "_law_counted" (.cons (.loc 3) .nil)) (.cons (.tup (.cons (.cst (.str ['c', 'o', 'u', 'n', 't'])) (.cons (.blt .len (.cons (.loc 2) .nil)) .nil))) .nil)))) (.cons (.ret (.cst (.bl false))) .nil) .nil) (.cons (.ite (.nt (.call "_law_same" (.cons (.call "_law_least" (.cons (.loc 3) .nil)) (.cons (.tup (.cons (.cst (.str ['o', 'r', 'd', 'e', 'r'])) (.cons (.sub (.loc 2) (.cst (.int 0))) .nil))) .nil)))) (.cons (.ret (.cst (.bl false))) .nil) .nil) (.cons (.asg 4 (.bin .Add (.lc (.call "_law_draw" (.cons (.loc 0) (.cons (.blt .len (.cons (.loc 2) .nil)) .nil))) [("k", 11)] (.one 11) (.rng1 (.cst (.int 6))) .nil) (.lst (.cons (.cst (.int 0)) (.cons (.bin .Sub (.blt .len (.cons (.loc 2) .nil)) (.cst (.int 1))) .nil))))) (.cons (.fors (.one 5) (.val (.loc 4)) (.cons (.ite (.nt (.call "_law_same" (.cons (.call "_law_at" (.cons (.loc 3) (.cons (.loc 5) .nil))) (.cons (.tup (.cons (.cst (.str ['o', 'r', 'd', 'e', 'r'])) (.cons (.sub (.loc 2) (.loc 5)) .nil))) .nil)))) (.cons (.ret (.cst (.bl false))) .nil) .nil) (.cons (.ite (.nt (.call "_law_same" (.cons (.call "_law_number" (.cons (.loc 3) (.cons (.blt .list (.cons (.sub (.loc 2) (.loc 5)) .nil)) .nil))) (.cons (.tup (.cons (.cst (.str ['n', 'u', 'm', 'b', 'e', 'r'])) (.cons (.loc 5) .nil))) .nil)))) (.cons (.ret (.cst (.bl false))) .nil) .nil) .nil))) (.cons (.fors (.one 6) (.val (.lst (.cons (.neg (.cst (.int 1))) (.cons (.blt .len (.cons (.loc 2) .nil)) (.cons (.bin .Add (.blt .len (.cons (.loc 2) .nil)) (.cst (.int 5))) (.cons (.cst (.bl true)) (.cons (.cst .non) (.cons (.cst (.str ['0'])) .nil)))))))) (.cons (.ite (.nt (.call "_law_same" (.cons (.call "_law_at" (.cons (.loc 3) (.cons (.loc 6) .nil))) (.cons (.tup (.cons (.cst (.str ['B', 'a', 'd', 'N', 'u', 'm', 'b', 'e', 'r'])) (.cons (.loc 6) .nil))) .nil)))) (.cons (.ret (.cst (.bl false))) .nil) .nil) .nil)) (.cons (.asg 7 (.lst (.cons (.bin .Add (.blt .list (.cons (.loc 1) .nil)) (.lst (.cons (.tup (.cons (.cst (.str ['a', 'd', 'd', 't', 'a', 'b', 'l', 'e'])) (.cons (.cst (.str ['z'])) .nil))) .nil))) (.cons (.bin .Add (.slc (.blt .list (.cons (.loc 1) .nil)) (.some (.cst (.int 1))) .none) (.lst (.cons (.tup (.cons (.cst (.str ['n', 'a', 'm', 'e', 't', 'a', 'b', 'l', 'e'])) (.cons (.cst (.str ['y'])) (.cons (.cst (.str ['z'])) .nil)))) .nil))) (.cons (.lst (.cons (.cst .non) .nil)) (.cons (.lst (.cons (.cst (.str ['a'])) (.cons (.tup .nil) .nil))) .nil)))))) (.cons (.fors (.one 8) (.rng1 (.cst (.int 4))) (.cons (.expr (.mth .append (.loc 7) (.cons (.call "_law_mixed" (.cons (.loc 0) (.cons (.loc 1) .nil))) .nil))) .nil)) (.cons (.ite (.cmp .Gt (.blt .len (.cons (.loc 1) .nil)) (.cst (.int 0))) (.cons (.asg 7 (.bin .Add (.loc 7) (.lst (.cons (.slc (.loc 1) (.some (.cst (.int 1))) .none) (.cons (.bin .Add (.slc (.loc 1) (.some (.cst (.int 1))) .none) (.lst (.cons (.sub (.loc 1) (.neg (.cst (.int 1)))) .nil))) (.cons (.bin .Add (.loc 1) (.lst (.cons (.sub (.loc 1) (.cst (.int 0))) .nil))) .nil)))))) .nil) .nil) (.cons (.fors (.one 9) (.val (.loc 7)) (.cons (.asg 10 (.tup (.cons (.cst (.str ['N', 'o', 't', 'A', 'n', 'O', 'r', 'd', 'e', 'r'])) .nil))) (.cons (.ite (.cmp .In (.loc 9) (.loc 2)) (.cons (.asg 10 (.tup (.cons (.cst (.str ['n', 'u', 'm', 'b', 'e', 'r'])) (.cons (.mth .index (.loc 2) (.cons (.loc 9) .nil)) .nil)))) .nil) .nil) (.cons (.ite (.nt (.call "_law_same" (.cons (.call "_law_number" (.cons (.loc 3) (.cons (.loc 9) .nil))) (.cons (.loc 10) .nil)))) (.cons (.ret (.cst (.bl false))) .nil) .nil) .nil)))) (.cons (.ret (.call "_law_same" (.cons (.loc 3) (.cons (.loc 1) .nil)))) .nil))))))))))))))
def F__law_small : List PV → M PV := runF G__law_mixed 1 11 c__law_small
def G__law_small : GG := G__law_mixed.add "_law_small" F__law_small
def N__law_chains : List Str := ["deck", "words", "k", "target", "chains", "left", "turn", "size", "table", "rule"]
def c__law_chains : CSs := (.cons (.asg 1 (.lst .nil)) (.cons (.fors (.one 2) (.rng1 (.cst (.int 13))) (.cons (.expr (.mth .append (.loc 1) (.cons (.call "_law_word" (.cons (.loc 0) (.cons (.loc 1) .nil))) .nil))) .nil)) (.cons (.asg 3 (.mth .pop (.loc 1) .nil)) (.cons (.asg 4 (.lst .nil)) (.cons (.asg 5 (.sub (.lst (.cons (.cst (.int 12)) (.cons (.cst (.int 12)) (.cons (.cst (.int 13)) (.cons (.call "_law_draw" (.cons (.loc 0) (.cons (.cst (.int 13)) .nil))) .nil))))) (.call "_law_draw" (.cons (.loc 0) (.cons (.cst (.int 4)) .nil))))) (.cons (.fors (.one 6) (.rng1 (.cst (.int 13))) (.cons (.asg 7 (.blt .min (.cons (.loc 5) (.cons (.bin .Add (.cst (.int 1)) (.call "_law_draw" (.cons (.loc 0) (.cons (.cst (.int 3)) .nil)))) .nil)))) (.cons (.ite (.bop true (.cons (.cmp .Gt (.loc 5) (.cst (.int 0))) (.cons (.cmp .Lt (.blt .len (.cons (.loc 4) .nil)) (.cst (.int 12))) .nil))) (.cons (.asg 8 (.sub (.loc 1) (.blt .len (.cons (.loc 4) .nil)))) (.cons (.asg 9 (.tup (.cons (.cst (.str ['a', 'd', 'd', 'r', 'u', 'l', 'e'])) (.cons (.loc 8) (.cons (.tup (.cons (.loc 8) .nil)) (.cons (.tup (.cons (.loc 3) .nil)) .nil)))))) (.cons (.expr (.mth .append (.loc 4) (.cons (.slc (.lst (.cons (.tup (.cons (.cst (.str ['a', 'd', 'd', 't', 'a', 'b', 'l', 'e'])) (.cons (.loc 8) .nil))) (.cons (.tup (.cons (.cst (.str ['a', 'd', 'd', 'c', 'o', 'l', 'u', 'm', 'n'])) (.cons (.loc 8) (.cons (.loc 8) (.cons (.loc 3) .nil))))) (.cons (.loc 9) .nil)))) .none (.some (.loc 7))) .nil))) (.cons (.asg 5 (.bin .Sub (.loc 5) (.loc 7))) .nil)))) .nil) .nil))) (.cons (.ret (.loc 4)) .nil)))))))
def F__law_chains : List PV → M PV := runF G__law_small 1 9 c__law_chains
def G__law_chains : GG := G__law_small.add "_law_chains" F__law_chains
def N__law_woven : List Str := ["deck", "chains", "left", "found", "turn", "open_ones", "at", "chain"]
def c__law_woven : CSs := (.cons (.asg 2 (.lc (.blt .list (.cons (.loc 7) .nil)) [("chain", 7)] (.one 7) (.val (.loc 1)) .nil)) (.cons (.asg 3 (.lst .nil)) (.cons (.fors (.one 4) (.rng1 (.blt .sum (.cons (.lc (.blt .len (.cons (.loc 7) .nil)) [("chain", 7)] (.one 7) (.val (.loc 1)) .nil) .nil))) (.cons (.asg 5 (.lc (.loc 6) [("at", 6)] (.one 6) (.rng1 (.blt .len (.cons (.loc 2) .nil))) (.cons (.cmp .Gt (.blt .len (.cons (.sub (.loc 2) (.loc 6)) .nil)) (.cst (.int 0))) .nil))) (.cons (.asg 6 (.sub (.loc 5) (.call "_law_draw" (.cons (.loc 0) (.cons (.blt .len (.cons (.loc 5) .nil)) .nil))))) (.cons (.expr (.mth .append (.loc 3) (.cons (.mth .pop (.sub (.loc 2) (.loc 6)) (.cons (.cst (.int 0)) .nil)) .nil))) .nil)))) (.cons (.ret (.loc 3)) .nil))))
def F__law_woven : List PV → M PV := runF G__law_chains 2 6 c__law_woven
def G__law_woven : GG := G__law_chains.add "_law_woven" F__law_woven
def N__law_ways : List Str := ["sizes", "count", "done", "size", "k"]
def c__law_ways : CSs := (.cons (.asg 1 (.cst (.int 1))) (.cons (.asg 2 (.cst (.int 0))) (.cons (.fors (.one 3) (.val (.loc 0)) (.cons (.fors (.one 4) (.rng1 (.loc 3)) (.cons (.asg 2 (.bin .Add (.loc 2) (.cst (.int 1)))) (.cons (.asg 1 (.bin .FloorDiv (.bin .Mult (.loc 1) (.loc 2)) (.bin .Add (.loc 4) (.cst (.int 1))))) .nil))) .nil)) (.cons (.ret (.loc 1)) .nil))))
def F__law_ways : List PV → M PV := runF G__law_woven 1 4 c__law_ways
def G__law_ways : GG := G__law_woven.add "_law_ways" F__law_ways
def N__law_rank : List Str := ["chains", "order", "left", "rank", "step", "chosen", "at", "chain", "k"]
def c__law_rank : CSs := (.cons (.asg 2 (.lc (.blt .list (.cons (.loc 7) .nil)) [("chain", 7)] (.one 7) (.val (.loc 0)) .nil)) (.cons (.asg 3 (.cst (.int 0))) (.cons (.fors (.one 4) (.val (.loc 1)) (.cons (.asg 5 (.sub (.lc (.loc 6) [("at", 6)] (.one 6) (.rng1 (.blt .len (.cons (.loc 2) .nil))) (.cons (.bop true (.cons (.cmp .Gt (.blt .len (.cons (.sub (.loc 2) (.loc 6)) .nil)) (.cst (.int 0))) (.cons (.cmp .Eq (.sub (.sub (.loc 2) (.loc 6)) (.cst (.int 0))) (.loc 4)) .nil))) .nil)) (.cst (.int 0)))) (.cons (.fors (.one 6) (.rng1 (.blt .len (.cons (.loc 2) .nil))) (.cons (.ite (.bop true (.cons (.cmp .Gt (.blt .len (.cons (.sub (.loc 2) (.loc 6)) .nil)) (.cst (.int 0))) (.cons (.cmp .Lt (.sub (.sub (.loc 2) (.loc 6)) (.cst (.int 0))) (.loc 4)) .nil))) (.cons (.asg 3 (.bin .Add (.loc 3) (.call "_law_ways" (.cons (.lc (.bin .Sub (.blt .len (.cons (.sub (.loc 2) (.loc 8)) .nil)) (.blt .int (.cons (.cmp .Eq (.loc 8) (.loc 6)) .nil))) [("k", 8)] (.one 8) (.rng1 (.blt .len (.cons (.loc 2) .nil))) .nil) .nil)))) .nil) .nil) .nil)) (.cons (.expr (.mth .pop (.sub (.loc 2) (.loc 5)) (.cons (.cst (.int 0)) .nil))) .nil)))) (.cons (.ret (.loc 3)) .nil))))
def F__law_rank : List PV → M PV := runF G__law_ways 2 7 c__law_rank
def G__law_rank : GG := G__law_ways.add "_law_rank" F__law_rank
def N__law_first : List Str := ["chains", "left", "found", "turn", "step", "chain"]
def c__law_first : CSs := (.cons (.asg 1 (.lc (.blt .list (.cons (.loc 5) .nil)) [("chain", 5)] (.one 5) (.val (.loc 0)) .nil)) (.cons (.asg 2 (.lst .nil)) (.cons (.fors (.one 3) (.rng1 (.blt .sum (.cons (.lc (.blt .len (.cons (.loc 5) .nil)) [("chain", 5)] (.one 5) (.val (.loc 0)) .nil) .nil))) (.cons (.asg 4 (.blt .min (.cons (.lc (.sub (.loc 5) (.cst (.int 0))) [("chain", 5)] (.one 5) (.val (.loc 1)) (.cons (.cmp .Gt (.blt .len (.cons (.loc 5) .nil)) (.cst (.int 0))) .nil)) .nil))) (.cons (.expr (.mth .append (.loc 2) (.cons (.loc 4) .nil))) (.cons (.fors (.one 5) (.val (.loc 1)) (.cons (.ite (.bop true (.cons (.cmp .Gt (.blt .len (.cons (.loc 5) .nil)) (.cst (.int 0))) (.cons (.cmp .Eq (.sub (.loc 5) (.cst (.int 0))) (.loc 4)) .nil))) (.cons (.expr (.mth .pop (.loc 5) (.cons (.cst (.int 0)) .nil))) .nil) .nil) .nil)) .nil)))) (.cons (.ret (.loc 2)) .nil))))
def F__law_first : List PV → M PV := runF G__law_rank 1 5 c__law_first
def G__law_first : GG := G__law_rank.add "_law_first" F__law_first
def N__law_large : List Str := ["deck", "chains", "steps", "total", "other", "rank", "chain"]
def c__law_large : CSs := (.cons (.asg 1 (.call "_law_chains" (.cons (.loc 0) .nil))) (.cons (.asg 2 (.call "_law_woven" (.cons (.loc 0) (.cons (.loc 1) .nil)))) (.cons (.ite (.cmp .Gt (.blt .len (.cons (.loc 2) .nil)) (.cst (.int 12))) (.cons (.ret (.call "_law_refused" (.cons (.loc 2) .nil))) .nil) .nil) (.cons (.asg 3 (.call "_law_ways" (.cons (.lc (.blt .len (.cons (.loc 6) .nil)) [("chain", 6)] (.one 6) (.val (.loc 1)) .nil) .nil))) (.cons (.ite (.nt (.call "_law_same" (.cons (.call "_law_counted" (.cons (.loc 2) .nil)) (.cons (.tup (.cons (.cst (.str ['c', 'o', 'u', 'n', 't'])) (.cons (.loc 3) .nil))) .nil)))) (.cons (.ret (.cst (.bl false))) .nil) .nil) (.cons (.ite (.nt (.call "_law_same" (.cons (.call "_law_least" (.cons (.loc 2) .nil)) (.cons (.tup (.cons (.cst (.str ['o', 'r', 'd', 'e', 'r'])) (.cons (.call "_law_first" (.cons (.loc 1) .nil)) .nil))) .nil)))) (.cons (.ret (.cst (.bl false))) .nil) .nil) (.cons (.asg 4 (.call "_law_woven" (.cons (.loc 0) (.cons (.loc 1) .nil)))) (.cons (.asg 5 (.call "_law_rank" (.cons (.loc 1) (.cons (.loc 4) .nil)))) (.cons (.ite (.nt (.call "_law_same" (.cons (.call "_law_number" (.cons (.loc 2) (.cons (.loc 4) .nil))) (.cons (.tup (.cons (.cst (.str ['n', 'u', 'm', 'b', 'e', 'r'])) (.cons (.loc 5) .nil))) .nil)))) (.cons (.ret (.cst (.bl false))) .nil) .nil) (.cons (.ite (.nt (.call "_law_same" (.cons (.call "_law_at" (.cons (.loc 2) (.cons (.loc 5) .nil))) (.cons (.tup (.cons (.cst (.str ['o', 'r', 'd', 'e', 'r'])) (.cons (.loc 4) .nil))) .nil)))) (.cons (.ret (.cst (.bl false))) .nil) .nil) (.cons (.ret (.call "_law_same" (.cons (.call "_law_at" (.cons (.loc 2) (.cons (.loc 3) .nil))) (.cons (.tup (.cons (.cst (.str ['B', 'a', 'd', 'N', 'u', 'm', 'b', 'e', 'r'])) (.cons (.loc 3) .nil))) .nil)))) .nil)))))))))))
def F__law_large : List PV → M PV := runF G__law_first 1 6 c__law_large
def G__law_large : GG := G__law_first.add "_law_large" F__law_large
def N_law : List Str := ["script", "deck"]
def c_law : CSs := (.cons (.asg 1 (.call "_law_deck" (.cons (.loc 0) .nil))) (.cons (.ite (.cmp .Eq (.call "_law_draw" (.cons (.loc 1) (.cons (.cst (.int 2)) .nil))) (.cst (.int 0))) (.cons (.ret (.call "_law_small" (.cons (.loc 1) .nil))) .nil) .nil) (.cons (.ret (.call "_law_large" (.cons (.loc 1) .nil))) .nil)))
def F_law : List PV → M PV := runF G__law_large 1 1 c_law
def G_law : GG := G__law_large.add "law" F_law
section
variable {P : Program} {w : World} {K : PySem.W.Frag} {mg : Str → Option Value} {base h : Heap}
theorem sc_TooMany : FnScope ("self" :: ["what", "most"]) ("self" :: ["what", "most"]) (defScope (iS 3 0)) := ⟨rfl, rfl, rfl, by decide +kernel, rfl, by decide +kernel, by decide +kernel⟩
theorem ok_TooMany : okIni ("self" :: ["what", "most"]) (defScope (iS 3 0)) 1 ["what", "most"] (defBody (iS 3 0)) = true := by decide +kernel
theorem sc_BadNumber : FnScope ("self" :: ["number"]) ("self" :: ["number"]) (defScope (iS 4 0)) := ⟨rfl, rfl, rfl, by decide +kernel, rfl, by decide +kernel, by decide +kernel⟩
theorem ok_BadNumber : okIni ("self" :: ["number"]) (defScope (iS 4 0)) 1 ["number"] (defBody (iS 4 0)) = true := by decide +kernel
theorem m0 (KX : K.In h) (G : h.Ns mainGlobals mg) (c : SaysX chk fn K) : MOk G0 (cx0 P w K mg base) 2 := by
  have cm : md.chk K = true := (He.ba c.holds).1
  refine MD.ok (d := md) (X := cx0 P w K mg base) (k := 1) KX G cm fun e he hne => ?_
  have cx : ∀ e ∈ md.exs, excB K e.1 e.2 = true := fun e he => List.all_eq_true.mp (He.ba (He.ba cm).1).2 e he
  have q := excB_ok (cx e he) hne
  simp only [md, List.mem_cons, List.not_mem_nil, or_false] at he
  rcases he with rfl | rfl | rfl
  · obtain ⟨fd, F⟩ := c.def_ 0 rfl
    exact ⟨by decide, fd, _, ini_ok F sc_TooMany ok_TooMany rfl q.1 q.2 hne (by decide +kernel) (by decide), FunD.bindsN F fun _ _ _ _ _ _ us hl => match us, hl with | [_, _, _], _ => rfl⟩
  · obtain ⟨fd, F⟩ := c.def_ 1 rfl
    exact ⟨by decide, fd, _, ini_ok F sc_BadNumber ok_BadNumber rfl q.1 q.2 hne (by decide +kernel) (by decide), FunD.bindsN F fun _ _ _ _ _ _ us hl => match us, hl with | [_, _], _ => rfl⟩
  · exact absurd rfl hne
theorem sc_is_whole : FnScope N_is_whole ["value"] (defScope (top 7)) := ⟨rfl, rfl, rfl, by decide +kernel, rfl, by decide +kernel, by decide +kernel⟩
theorem ok_is_whole : okSs N_is_whole c_is_whole (defScope (top 7)) (defBody (top 7)) = true := by decide +kernel
theorem m_is_whole (KX : K.In h) (G : h.Ns mainGlobals mg) (c : SaysX chk fn K) : MOk G_is_whole (cx0 P w K mg base) 3 := by
  obtain ⟨fd, F⟩ := c.def_ 2 rfl
  exact MOk.def_ (m0 KX G c) F sc_is_whole (by decide) ok_is_whole (glo_at KX G (He.ba c.holds).2 0 rfl) (FunD.bindsN F fun _ _ _ _ _ _ us hl => match us, hl with | [_], _ => rfl)
theorem sc_noun : FnScope N_noun ["step"] (defScope (top 11)) := ⟨rfl, rfl, rfl, by decide +kernel, rfl, by decide +kernel, by decide +kernel⟩
theorem ok_noun : okSs N_noun c_noun (defScope (top 11)) (defBody (top 11)) = true := by decide +kernel
theorem m_noun (KX : K.In h) (G : h.Ns mainGlobals mg) (c : SaysX chk fn K) : MOk G_noun (cx0 P w K mg base) 4 := by
  obtain ⟨fd, F⟩ := c.def_ 3 rfl
  exact MOk.def_ (m_is_whole KX G c) F sc_noun (by decide) ok_noun (glo_at KX G (He.ba c.holds).2 1 rfl) (FunD.bindsN F fun _ _ _ _ _ _ us hl => match us, hl with | [_], _ => rfl)
theorem sc_touches : FnScope N_touches ["first", "second"] (defScope (top 12)) := ⟨rfl, rfl, rfl, by decide +kernel, rfl, by decide +kernel, by decide +kernel⟩
theorem ok_touches : okSs N_touches c_touches (defScope (top 12)) (defBody (top 12)) = true := by decide +kernel
theorem m_touches (KX : K.In h) (G : h.Ns mainGlobals mg) (c : SaysX chk fn K) : MOk G_touches (cx0 P w K mg base) 5 := by
  obtain ⟨fd, F⟩ := c.def_ 4 rfl
  exact MOk.def_ (m_noun KX G c) F sc_touches (by decide) ok_touches (glo_at KX G (He.ba c.holds).2 2 rfl) (FunD.bindsN F fun _ _ _ _ _ _ us hl => match us, hl with | [_, _], _ => rfl)
theorem sc_lean : FnScope N_lean ["first", "second"] (defScope (top 13)) := ⟨rfl, rfl, rfl, by decide +kernel, rfl, by decide +kernel, by decide +kernel⟩
theorem ok_lean : okSs N_lean c_lean (defScope (top 13)) (defBody (top 13)) = true := by decide +kernel
theorem m_lean (KX : K.In h) (G : h.Ns mainGlobals mg) (c : SaysX chk fn K) : MOk G_lean (cx0 P w K mg base) 6 := by
  obtain ⟨fd, F⟩ := c.def_ 5 rfl
  exact MOk.def_ (m_touches KX G c) F sc_lean (by decide) ok_lean (glo_at KX G (He.ba c.holds).2 3 rfl) (FunD.bindsN F fun _ _ _ _ _ _ us hl => match us, hl with | [_, _], _ => rfl)
theorem sc_befores : FnScope N_befores ["steps"] (defScope (top 15)) := ⟨rfl, rfl, rfl, by decide +kernel, rfl, by decide +kernel, by decide +kernel⟩
theorem ok_befores : okSs N_befores c_befores (defScope (top 15)) (defBody (top 15)) = true := by decide +kernel
theorem m_befores (KX : K.In h) (G : h.Ns mainGlobals mg) (c : SaysX chk fn K) : MOk G_befores (cx0 P w K mg base) 7 := by
  obtain ⟨fd, F⟩ := c.def_ 6 rfl
  exact MOk.def_ (m_lean KX G c) F sc_befores (by decide) ok_befores (glo_at KX G (He.ba c.holds).2 4 rfl) (FunD.bindsN F fun _ _ _ _ _ _ us hl => match us, hl with | [_], _ => rfl)
theorem sc_free_places : FnScope N_free_places ["steps", "needs", "mask"] (defScope (top 16)) := ⟨rfl, rfl, rfl, by decide +kernel, rfl, by decide +kernel, by decide +kernel⟩
theorem ok_free_places : okSs N_free_places c_free_places (defScope (top 16)) (defBody (top 16)) = true := by decide +kernel
theorem m_free_places (KX : K.In h) (G : h.Ns mainGlobals mg) (c : SaysX chk fn K) : MOk G_free_places (cx0 P w K mg base) 8 := by
  obtain ⟨fd, F⟩ := c.def_ 7 rfl
  exact MOk.def_ (m_befores KX G c) F sc_free_places (by decide) ok_free_places (glo_at KX G (He.ba c.holds).2 5 rfl) (FunD.bindsN F fun _ _ _ _ _ _ us hl => match us, hl with | [_, _, _], _ => rfl)
theorem sc_completions : FnScope N_completions ["steps"] (defScope (top 17)) := ⟨rfl, rfl, rfl, by decide +kernel, rfl, by decide +kernel, by decide +kernel⟩
theorem ok_completions : okSs N_completions c_completions (defScope (top 17)) (defBody (top 17)) = true := by decide +kernel
theorem m_completions (KX : K.In h) (G : h.Ns mainGlobals mg) (c : SaysX chk fn K) : MOk G_completions (cx0 P w K mg base) 9 := by
  obtain ⟨fd, F⟩ := c.def_ 8 rfl
  exact MOk.def_ (m_free_places KX G c) F sc_completions (by decide) ok_completions (glo_at KX G (He.ba c.holds).2 6 rfl) (FunD.bindsN F fun _ _ _ _ _ _ us hl => match us, hl with | [_], _ => rfl)
theorem sc_count_orders : FnScope N_count_orders ["steps"] (defScope (top 18)) := ⟨rfl, rfl, rfl, by decide +kernel, rfl, by decide +kernel, by decide +kernel⟩
theorem ok_count_orders : okSs N_count_orders c_count_orders (defScope (top 18)) (defBody (top 18)) = true := by decide +kernel
theorem m_count_orders (KX : K.In h) (G : h.Ns mainGlobals mg) (c : SaysX chk fn K) : MOk G_count_orders (cx0 P w K mg base) 10 := by
  obtain ⟨fd, F⟩ := c.def_ 9 rfl
  exact MOk.def_ (m_completions KX G c) F sc_count_orders (by decide) ok_count_orders (glo_at KX G (He.ba c.holds).2 7 rfl) (FunD.bindsN F fun _ _ _ _ _ _ us hl => match us, hl with | [_], _ => rfl)
theorem sc_order_at : FnScope N_order_at ["steps", "number"] (defScope (top 19)) := ⟨rfl, rfl, rfl, by decide +kernel, rfl, by decide +kernel, by decide +kernel⟩
theorem ok_order_at : okSs N_order_at c_order_at (defScope (top 19)) (defBody (top 19)) = true := by decide +kernel
theorem m_order_at (KX : K.In h) (G : h.Ns mainGlobals mg) (c : SaysX chk fn K) : MOk G_order_at (cx0 P w K mg base) 11 := by
  obtain ⟨fd, F⟩ := c.def_ 10 rfl
  exact MOk.def_ (m_count_orders KX G c) F sc_order_at (by decide) ok_order_at (glo_at KX G (He.ba c.holds).2 8 rfl) (FunD.bindsN F fun _ _ _ _ _ _ us hl => match us, hl with | [_, _], _ => rfl)
theorem sc_least_order : FnScope N_least_order ["steps"] (defScope (top 20)) := ⟨rfl, rfl, rfl, by decide +kernel, rfl, by decide +kernel, by decide +kernel⟩
theorem ok_least_order : okSs N_least_order c_least_order (defScope (top 20)) (defBody (top 20)) = true := by decide +kernel
theorem m_least_order (KX : K.In h) (G : h.Ns mainGlobals mg) (c : SaysX chk fn K) : MOk G_least_order (cx0 P w K mg base) 12 := by
  obtain ⟨fd, F⟩ := c.def_ 11 rfl
  exact MOk.def_ (m_order_at KX G c) F sc_least_order (by decide) ok_least_order (glo_at KX G (He.ba c.holds).2 9 rfl) (FunD.bindsN F fun _ _ _ _ _ _ us hl => match us, hl with | [_], _ => rfl)
theorem sc_order_number : FnScope N_order_number ["steps", "other"] (defScope (top 21)) := ⟨rfl, rfl, rfl, by decide +kernel, rfl, by decide +kernel, by decide +kernel⟩
theorem ok_order_number : okSs N_order_number c_order_number (defScope (top 21)) (defBody (top 21)) = true := by decide +kernel
theorem m_order_number (KX : K.In h) (G : h.Ns mainGlobals mg) (c : SaysX chk fn K) : MOk G_order_number (cx0 P w K mg base) 13 := by
  obtain ⟨fd, F⟩ := c.def_ 12 rfl
  exact MOk.def_ (m_least_order KX G c) F sc_order_number (by decide) ok_order_number (glo_at KX G (He.ba c.holds).2 10 rfl) (FunD.bindsN F fun _ _ _ _ _ _ us hl => match us, hl with | [_, _], _ => rfl)
theorem sc__law_deck : FnScope N__law_deck ["script"] (defScope (top 23)) := ⟨rfl, rfl, rfl, by decide +kernel, rfl, by decide +kernel, by decide +kernel⟩
theorem ok__law_deck : okSs N__law_deck c__law_deck (defScope (top 23)) (defBody (top 23)) = true := by decide +kernel
theorem m__law_deck (KX : K.In h) (G : h.Ns mainGlobals mg) (c : SaysX chk fn K) : MOk G__law_deck (cx0 P w K mg base) 14 := by
  obtain ⟨fd, F⟩ := c.def_ 13 rfl
  exact MOk.def_ (m_order_number KX G c) F sc__law_deck (by decide) ok__law_deck (glo_at KX G (He.ba c.holds).2 11 rfl) (FunD.bindsN F fun _ _ _ _ _ _ us hl => match us, hl with | [_], _ => rfl)
theorem sc__law_draw : FnScope N__law_draw ["deck", "many"] (defScope (top 24)) := ⟨rfl, rfl, rfl, by decide +kernel, rfl, by decide +kernel, by decide +kernel⟩
theorem ok__law_draw : okSs N__law_draw c__law_draw (defScope (top 24)) (defBody (top 24)) = true := by decide +kernel
theorem m__law_draw (KX : K.In h) (G : h.Ns mainGlobals mg) (c : SaysX chk fn K) : MOk G__law_draw (cx0 P w K mg base) 15 := by
  obtain ⟨fd, F⟩ := c.def_ 14 rfl
  exact MOk.def_ (m__law_deck KX G c) F sc__law_draw (by decide) ok__law_draw (glo_at KX G (He.ba c.holds).2 12 rfl) (FunD.bindsN F fun _ _ _ _ _ _ us hl => match us, hl with | [_, _], _ => rfl)
theorem sc__law_word : FnScope N__law_word ["deck", "used"] (defScope (top 25)) := ⟨rfl, rfl, rfl, by decide +kernel, rfl, by decide +kernel, by decide +kernel⟩
theorem ok__law_word : okSs N__law_word c__law_word (defScope (top 25)) (defBody (top 25)) = true := by decide +kernel
theorem m__law_word (KX : K.In h) (G : h.Ns mainGlobals mg) (c : SaysX chk fn K) : MOk G__law_word (cx0 P w K mg base) 16 := by
  obtain ⟨fd, F⟩ := c.def_ 15 rfl
  exact MOk.def_ (m__law_draw KX G c) F sc__law_word (by decide) ok__law_word (glo_at KX G (He.ba c.holds).2 13 rfl) (FunD.bindsN F fun _ _ _ _ _ _ us hl => match us, hl with | [_, _], _ => rfl)
theorem sc__law_same : FnScope N__law_same ["actual", "due"] (defScope (top 26)) := ⟨rfl, rfl, rfl, by decide +kernel, rfl, by decide +kernel, by decide +kernel⟩
theorem ok__law_same : okSs N__law_same c__law_same (defScope (top 26)) (defBody (top 26)) = true := by decide +kernel
theorem m__law_same (KX : K.In h) (G : h.Ns mainGlobals mg) (c : SaysX chk fn K) : MOk G__law_same (cx0 P w K mg base) 17 := by
  obtain ⟨fd, F⟩ := c.def_ 16 rfl
  exact MOk.def_ (m__law_word KX G c) F sc__law_same (by decide) ok__law_same (glo_at KX G (He.ba c.holds).2 14 rfl) (FunD.bindsN F fun _ _ _ _ _ _ us hl => match us, hl with | [_, _], _ => rfl)
theorem sc__law_kinds : FnScope N__law_kinds [] (defScope (top 27)) := ⟨rfl, rfl, rfl, by decide +kernel, rfl, by decide +kernel, by decide +kernel⟩
theorem ok__law_kinds : okSs N__law_kinds c__law_kinds (defScope (top 27)) (defBody (top 27)) = true := by decide +kernel
theorem m__law_kinds (KX : K.In h) (G : h.Ns mainGlobals mg) (c : SaysX chk fn K) : MOk G__law_kinds (cx0 P w K mg base) 18 := by
  obtain ⟨fd, F⟩ := c.def_ 17 rfl
  exact MOk.def_ (m__law_same KX G c) F sc__law_kinds (by decide) ok__law_kinds (glo_at KX G (He.ba c.holds).2 15 rfl) (FunD.bindsN F fun _ _ _ _ _ _ us hl => match us, hl with | [], _ => rfl)
theorem sc__law_touches : FnScope N__law_touches ["kinds", "one", "two"] (defScope (top 28)) := ⟨rfl, rfl, rfl, by decide +kernel, rfl, by decide +kernel, by decide +kernel⟩
theorem ok__law_touches : okSs N__law_touches c__law_touches (defScope (top 28)) (defBody (top 28)) = true := by decide +kernel
theorem m__law_touches (KX : K.In h) (G : h.Ns mainGlobals mg) (c : SaysX chk fn K) : MOk G__law_touches (cx0 P w K mg base) 19 := by
  obtain ⟨fd, F⟩ := c.def_ 18 rfl
  exact MOk.def_ (m__law_kinds KX G c) F sc__law_touches (by decide) ok__law_touches (glo_at KX G (He.ba c.holds).2 16 rfl) (FunD.bindsN F fun _ _ _ _ _ _ us hl => match us, hl with | [_, _, _], _ => rfl)
theorem sc__law_leans : FnScope N__law_leans ["one", "two"] (defScope (top 29)) := ⟨rfl, rfl, rfl, by decide +kernel, rfl, by decide +kernel, by decide +kernel⟩
theorem ok__law_leans : okSs N__law_leans c__law_leans (defScope (top 29)) (defBody (top 29)) = true := by decide +kernel
theorem m__law_leans (KX : K.In h) (G : h.Ns mainGlobals mg) (c : SaysX chk fn K) : MOk G__law_leans (cx0 P w K mg base) 20 := by
  obtain ⟨fd, F⟩ := c.def_ 19 rfl
  exact MOk.def_ (m__law_touches KX G c) F sc__law_leans (by decide) ok__law_leans (glo_at KX G (He.ba c.holds).2 17 rfl) (FunD.bindsN F fun _ _ _ _ _ _ us hl => match us, hl with | [_, _], _ => rfl)
theorem sc__law_swapped : FnScope N__law_swapped ["steps", "at"] (defScope (top 30)) := ⟨rfl, rfl, rfl, by decide +kernel, rfl, by decide +kernel, by decide +kernel⟩
theorem ok__law_swapped : okSs N__law_swapped c__law_swapped (defScope (top 30)) (defBody (top 30)) = true := by decide +kernel
theorem m__law_swapped (KX : K.In h) (G : h.Ns mainGlobals mg) (c : SaysX chk fn K) : MOk G__law_swapped (cx0 P w K mg base) 21 := by
  obtain ⟨fd, F⟩ := c.def_ 20 rfl
  exact MOk.def_ (m__law_leans KX G c) F sc__law_swapped (by decide) ok__law_swapped (glo_at KX G (He.ba c.holds).2 18 rfl) (FunD.bindsN F fun _ _ _ _ _ _ us hl => match us, hl with | [_, _], _ => rfl)
theorem sc__law_path : FnScope N__law_path ["deck", "words"] (defScope (top 31)) := ⟨rfl, rfl, rfl, by decide +kernel, rfl, by decide +kernel, by decide +kernel⟩
theorem ok__law_path : okSs N__law_path c__law_path (defScope (top 31)) (defBody (top 31)) = true := by decide +kernel
theorem m__law_path (KX : K.In h) (G : h.Ns mainGlobals mg) (c : SaysX chk fn K) : MOk G__law_path (cx0 P w K mg base) 22 := by
  obtain ⟨fd, F⟩ := c.def_ 21 rfl
  exact MOk.def_ (m__law_swapped KX G c) F sc__law_path (by decide) ok__law_path (glo_at KX G (He.ba c.holds).2 19 rfl) (FunD.bindsN F fun _ _ _ _ _ _ us hl => match us, hl with | [_, _], _ => rfl)
theorem sc__law_step : FnScope N__law_step ["deck", "kind", "tables", "words"] (defScope (top 32)) := ⟨rfl, rfl, rfl, by decide +kernel, rfl, by decide +kernel, by decide +kernel⟩
theorem ok__law_step : okSs N__law_step c__law_step (defScope (top 32)) (defBody (top 32)) = true := by decide +kernel
theorem m__law_step (KX : K.In h) (G : h.Ns mainGlobals mg) (c : SaysX chk fn K) : MOk G__law_step (cx0 P w K mg base) 23 := by
  obtain ⟨fd, F⟩ := c.def_ 22 rfl
  exact MOk.def_ (m__law_path KX G c) F sc__law_step (by decide) ok__law_step (glo_at KX G (He.ba c.holds).2 20 rfl) (FunD.bindsN F fun _ _ _ _ _ _ us hl => match us, hl with | [_, _, _, _], _ => rfl)
theorem sc__law_loose : FnScope N__law_loose ["deck"] (defScope (top 33)) := ⟨rfl, rfl, rfl, by decide +kernel, rfl, by decide +kernel, by decide +kernel⟩
theorem ok__law_loose : okSs N__law_loose c__law_loose (defScope (top 33)) (defBody (top 33)) = true := by decide +kernel
theorem m__law_loose (KX : K.In h) (G : h.Ns mainGlobals mg) (c : SaysX chk fn K) : MOk G__law_loose (cx0 P w K mg base) 24 := by
  obtain ⟨fd, F⟩ := c.def_ 23 rfl
  exact MOk.def_ (m__law_step KX G c) F sc__law_loose (by decide) ok__law_loose (glo_at KX G (He.ba c.holds).2 21 rfl) (FunD.bindsN F fun _ _ _ _ _ _ us hl => match us, hl with | [_], _ => rfl)
theorem sc__law_orders : FnScope N__law_orders ["steps"] (defScope (top 34)) := ⟨rfl, rfl, rfl, by decide +kernel, rfl, by decide +kernel, by decide +kernel⟩
theorem ok__law_orders : okSs N__law_orders c__law_orders (defScope (top 34)) (defBody (top 34)) = true := by decide +kernel
theorem m__law_orders (KX : K.In h) (G : h.Ns mainGlobals mg) (c : SaysX chk fn K) : MOk G__law_orders (cx0 P w K mg base) 25 := by
  obtain ⟨fd, F⟩ := c.def_ 24 rfl
  exact MOk.def_ (m__law_loose KX G c) F sc__law_orders (by decide) ok__law_orders (glo_at KX G (He.ba c.holds).2 22 rfl) (FunD.bindsN F fun _ _ _ _ _ _ us hl => match us, hl with | [_], _ => rfl)
theorem sc__law_at : FnScope N__law_at ["steps", "number"] (defScope (top 35)) := ⟨rfl, rfl, rfl, by decide +kernel, rfl, by decide +kernel, by decide +kernel⟩
theorem ok__law_at : okSs N__law_at c__law_at (defScope (top 35)) (defBody (top 35)) = true := by decide +kernel
theorem m__law_at (KX : K.In h) (G : h.Ns mainGlobals mg) (c : SaysX chk fn K) : MOk G__law_at (cx0 P w K mg base) 26 := by
  obtain ⟨fd, F⟩ := c.def_ 25 rfl
  exact MOk.def_ (m__law_orders KX G c) F sc__law_at (by decide) ok__law_at (glo_at KX G (He.ba c.holds).2 23 rfl) (FunD.bindsN F fun _ _ _ _ _ _ us hl => match us, hl with | [_, _], _ => rfl)
theorem sc__law_number : FnScope N__law_number ["steps", "other"] (defScope (top 36)) := ⟨rfl, rfl, rfl, by decide +kernel, rfl, by decide +kernel, by decide +kernel⟩
theorem ok__law_number : okSs N__law_number c__law_number (defScope (top 36)) (defBody (top 36)) = true := by decide +kernel
theorem m__law_number (KX : K.In h) (G : h.Ns mainGlobals mg) (c : SaysX chk fn K) : MOk G__law_number (cx0 P w K mg base) 27 := by
  obtain ⟨fd, F⟩ := c.def_ 26 rfl
  exact MOk.def_ (m__law_at KX G c) F sc__law_number (by decide) ok__law_number (glo_at KX G (He.ba c.holds).2 24 rfl) (FunD.bindsN F fun _ _ _ _ _ _ us hl => match us, hl with | [_, _], _ => rfl)
theorem sc__law_counted : FnScope N__law_counted ["steps"] (defScope (top 37)) := ⟨rfl, rfl, rfl, by decide +kernel, rfl, by decide +kernel, by decide +kernel⟩
theorem ok__law_counted : okSs N__law_counted c__law_counted (defScope (top 37)) (defBody (top 37)) = true := by decide +kernel
theorem m__law_counted (KX : K.In h) (G : h.Ns mainGlobals mg) (c : SaysX chk fn K) : MOk G__law_counted (cx0 P w K mg base) 28 := by
  obtain ⟨fd, F⟩ := c.def_ 27 rfl
  exact MOk.def_ (m__law_number KX G c) F sc__law_counted (by decide) ok__law_counted (glo_at KX G (He.ba c.holds).2 25 rfl) (FunD.bindsN F fun _ _ _ _ _ _ us hl => match us, hl with | [_], _ => rfl)
theorem sc__law_least : FnScope N__law_least ["steps"] (defScope (top 38)) := ⟨rfl, rfl, rfl, by decide +kernel, rfl, by decide +kernel, by decide +kernel⟩
theorem ok__law_least : okSs N__law_least c__law_least (defScope (top 38)) (defBody (top 38)) = true := by decide +kernel
theorem m__law_least (KX : K.In h) (G : h.Ns mainGlobals mg) (c : SaysX chk fn K) : MOk G__law_least (cx0 P w K mg base) 29 := by
  obtain ⟨fd, F⟩ := c.def_ 28 rfl
  exact MOk.def_ (m__law_counted KX G c) F sc__law_least (by decide) ok__law_least (glo_at KX G (He.ba c.holds).2 26 rfl) (FunD.bindsN F fun _ _ _ _ _ _ us hl => match us, hl with | [_], _ => rfl)
theorem sc__law_refused : FnScope N__law_refused ["steps"] (defScope (top 39)) := ⟨rfl, rfl, rfl, by decide +kernel, rfl, by decide +kernel, by decide +kernel⟩
theorem ok__law_refused : okSs N__law_refused c__law_refused (defScope (top 39)) (defBody (top 39)) = true := by decide +kernel
theorem m__law_refused (KX : K.In h) (G : h.Ns mainGlobals mg) (c : SaysX chk fn K) : MOk G__law_refused (cx0 P w K mg base) 30 := by
  obtain ⟨fd, F⟩ := c.def_ 29 rfl
  exact MOk.def_ (m__law_least KX G c) F sc__law_refused (by decide) ok__law_refused (glo_at KX G (He.ba c.holds).2 27 rfl) (FunD.bindsN F fun _ _ _ _ _ _ us hl => match us, hl with | [_], _ => rfl)
theorem sc__law_mixed : FnScope N__law_mixed ["deck", "steps"] (defScope (top 41)) := ⟨rfl, rfl, rfl, by decide +kernel, rfl, by decide +kernel, by decide +kernel⟩
theorem ok__law_mixed : okSs N__law_mixed c__law_mixed (defScope (top 41)) (defBody (top 41)) = true := by decide +kernel
theorem m__law_mixed (KX : K.In h) (G : h.Ns mainGlobals mg) (c : SaysX chk fn K) : MOk G__law_mixed (cx0 P w K mg base) 31 := by
  obtain ⟨fd, F⟩ := c.def_ 30 rfl
  exact MOk.def_ (m__law_refused KX G c) F sc__law_mixed (by decide) ok__law_mixed (glo_at KX G (He.ba c.holds).2 28 rfl) (FunD.bindsN F fun _ _ _ _ _ _ us hl => match us, hl with | [_, _], _ => rfl)
theorem sc__law_small : FnScope N__law_small ["deck"] (defScope (top 40)) := ⟨rfl, rfl, rfl, by decide +kernel, rfl, by decide +kernel, by decide +kernel⟩
theorem ok__law_small : okSs N__law_small c__law_small (defScope (top 40)) (defBody (top 40)) = true := by decide +kernel
theorem m__law_small (KX : K.In h) (G : h.Ns mainGlobals mg) (c : SaysX chk fn K) : MOk G__law_small (cx0 P w K mg base) 32 := by
  obtain ⟨fd, F⟩ := c.def_ 31 rfl
  exact MOk.def_ (m__law_mixed KX G c) F sc__law_small (by decide) ok__law_small (glo_at KX G (He.ba c.holds).2 29 rfl) (FunD.bindsN F fun _ _ _ _ _ _ us hl => match us, hl with | [_], _ => rfl)
theorem sc__law_chains : FnScope N__law_chains ["deck"] (defScope (top 42)) := ⟨rfl, rfl, rfl, by decide +kernel, rfl, by decide +kernel, by decide +kernel⟩
theorem ok__law_chains : okSs N__law_chains c__law_chains (defScope (top 42)) (defBody (top 42)) = true := by decide +kernel
theorem m__law_chains (KX : K.In h) (G : h.Ns mainGlobals mg) (c : SaysX chk fn K) : MOk G__law_chains (cx0 P w K mg base) 33 := by
  obtain ⟨fd, F⟩ := c.def_ 32 rfl
  exact MOk.def_ (m__law_small KX G c) F sc__law_chains (by decide) ok__law_chains (glo_at KX G (He.ba c.holds).2 30 rfl) (FunD.bindsN F fun _ _ _ _ _ _ us hl => match us, hl with | [_], _ => rfl)
theorem sc__law_woven : FnScope N__law_woven ["deck", "chains"] (defScope (top 43)) := ⟨rfl, rfl, rfl, by decide +kernel, rfl, by decide +kernel, by decide +kernel⟩
theorem ok__law_woven : okSs N__law_woven c__law_woven (defScope (top 43)) (defBody (top 43)) = true := by decide +kernel
theorem m__law_woven (KX : K.In h) (G : h.Ns mainGlobals mg) (c : SaysX chk fn K) : MOk G__law_woven (cx0 P w K mg base) 34 := by
  obtain ⟨fd, F⟩ := c.def_ 33 rfl
  exact MOk.def_ (m__law_chains KX G c) F sc__law_woven (by decide) ok__law_woven (glo_at KX G (He.ba c.holds).2 31 rfl) (FunD.bindsN F fun _ _ _ _ _ _ us hl => match us, hl with | [_, _], _ => rfl)
theorem sc__law_ways : FnScope N__law_ways ["sizes"] (defScope (top 44)) := ⟨rfl, rfl, rfl, by decide +kernel, rfl, by decide +kernel, by decide +kernel⟩
theorem ok__law_ways : okSs N__law_ways c__law_ways (defScope (top 44)) (defBody (top 44)) = true := by decide +kernel
theorem m__law_ways (KX : K.In h) (G : h.Ns mainGlobals mg) (c : SaysX chk fn K) : MOk G__law_ways (cx0 P w K mg base) 35 := by
  obtain ⟨fd, F⟩ := c.def_ 34 rfl
  exact MOk.def_ (m__law_woven KX G c) F sc__law_ways (by decide) ok__law_ways (glo_at KX G (He.ba c.holds).2 32 rfl) (FunD.bindsN F fun _ _ _ _ _ _ us hl => match us, hl with | [_], _ => rfl)
theorem sc__law_rank : FnScope N__law_rank ["chains", "order"] (defScope (top 45)) := ⟨rfl, rfl, rfl, by decide +kernel, rfl, by decide +kernel, by decide +kernel⟩
theorem ok__law_rank : okSs N__law_rank c__law_rank (defScope (top 45)) (defBody (top 45)) = true := by decide +kernel
theorem m__law_rank (KX : K.In h) (G : h.Ns mainGlobals mg) (c : SaysX chk fn K) : MOk G__law_rank (cx0 P w K mg base) 36 := by
  obtain ⟨fd, F⟩ := c.def_ 35 rfl
  exact MOk.def_ (m__law_ways KX G c) F sc__law_rank (by decide) ok__law_rank (glo_at KX G (He.ba c.holds).2 33 rfl) (FunD.bindsN F fun _ _ _ _ _ _ us hl => match us, hl with | [_, _], _ => rfl)
theorem sc__law_first : FnScope N__law_first ["chains"] (defScope (top 46)) := ⟨rfl, rfl, rfl, by decide +kernel, rfl, by decide +kernel, by decide +kernel⟩
theorem ok__law_first : okSs N__law_first c__law_first (defScope (top 46)) (defBody (top 46)) = true := by decide +kernel
theorem m__law_first (KX : K.In h) (G : h.Ns mainGlobals mg) (c : SaysX chk fn K) : MOk G__law_first (cx0 P w K mg base) 37 := by
  obtain ⟨fd, F⟩ := c.def_ 36 rfl
  exact MOk.def_ (m__law_rank KX G c) F sc__law_first (by decide) ok__law_first (glo_at KX G (He.ba c.holds).2 34 rfl) (FunD.bindsN F fun _ _ _ _ _ _ us hl => match us, hl with | [_], _ => rfl)
theorem sc__law_large : FnScope N__law_large ["deck"] (defScope (top 47)) := ⟨rfl, rfl, rfl, by decide +kernel, rfl, by decide +kernel, by decide +kernel⟩
theorem ok__law_large : okSs N__law_large c__law_large (defScope (top 47)) (defBody (top 47)) = true := by decide +kernel
theorem m__law_large (KX : K.In h) (G : h.Ns mainGlobals mg) (c : SaysX chk fn K) : MOk G__law_large (cx0 P w K mg base) 38 := by
  obtain ⟨fd, F⟩ := c.def_ 37 rfl
  exact MOk.def_ (m__law_first KX G c) F sc__law_large (by decide) ok__law_large (glo_at KX G (He.ba c.holds).2 35 rfl) (FunD.bindsN F fun _ _ _ _ _ _ us hl => match us, hl with | [_], _ => rfl)
theorem sc_law : FnScope N_law ["script"] (defScope (top 48)) := ⟨rfl, rfl, rfl, by decide +kernel, rfl, by decide +kernel, by decide +kernel⟩
theorem ok_law : okSs N_law c_law (defScope (top 48)) (defBody (top 48)) = true := by decide +kernel
theorem m_law (KX : K.In h) (G : h.Ns mainGlobals mg) (c : SaysX chk fn K) : MOk G_law (cx0 P w K mg base) 39 := by
  obtain ⟨fd, F⟩ := c.def_ 38 rfl
  exact MOk.def_ (m__law_large KX G c) F sc_law (by decide) ok_law (glo_at KX G (He.ba c.holds).2 36 rfl) (FunD.bindsN F fun _ _ _ _ _ _ us hl => match us, hl with | [_], _ => rfl)
end
end K48
namespace K48
open PySem PySem.Spec PyProof.Rows FL
theorem sat_is_whole {a0 : PV} {h : MH} {Q : PV → MH → Prop} {E : Exc → MH → Prop} (s : (evSs G0 c_is_whole [some a0] h).sat (outK Q) fun c _ h => E c h) : (F_is_whole [a0] h).sat Q E := by
  unfold F_is_whole
  exact @sat_def G0 1 0 c_is_whole [a0] h Q E [some a0] rfl rfl s
theorem sat_noun {a0 : PV} {h : MH} {Q : PV → MH → Prop} {E : Exc → MH → Prop} (s : (evSs G_is_whole c_noun [some a0] h).sat (outK Q) fun c _ h => E c h) : (F_noun [a0] h).sat Q E := by
  unfold F_noun
  exact @sat_def G_is_whole 1 0 c_noun [a0] h Q E [some a0] rfl rfl s
@[simp] theorem q_touches_noun : G_noun.fns "noun" = some F_noun := by kernel_rfl
theorem sat_touches {a0 a1 : PV} {h : MH} {Q : PV → MH → Prop} {E : Exc → MH → Prop} (s : (evSs G_noun c_touches [some a0, some a1, none, none] h).sat (outK Q) fun c _ h => E c h) : (F_touches [a0, a1] h).sat Q E := by
  unfold F_touches
  exact @sat_def G_noun 2 2 c_touches [a0, a1] h Q E [some a0, some a1, none, none] rfl rfl s
@[simp] theorem q_lean_touches : G_touches.fns "touches" = some F_touches := by kernel_rfl
@[simp] theorem k_lean_ADDING : G_touches.cons "ADDING" = some (.tup [(.str ['a', 'd', 'd', 't', 'a', 'b', 'l', 'e']), (.str ['a', 'd', 'd', 'c', 'o', 'l', 'u', 'm', 'n']), (.str ['a', 'd', 'd', 'r', 'u', 'l', 'e'])]) := by kernel_rfl
@[simp] theorem k_lean_DROPPING : G_touches.cons "DROPPING" = some (.tup [(.str ['d', 'r', 'o', 'p', 't', 'a', 'b', 'l', 'e']), (.str ['d', 'r', 'o', 'p', 'c', 'o', 'l', 'u', 'm', 'n']), (.str ['d', 'r', 'o', 'p', 'r', 'u', 'l', 'e'])]) := by kernel_rfl
theorem sat_lean {a0 a1 : PV} {h : MH} {Q : PV → MH → Prop} {E : Exc → MH → Prop} (s : (evSs G_touches c_lean [some a0, some a1, none, none] h).sat (outK Q) fun c _ h => E c h) : (F_lean [a0, a1] h).sat Q E := by
  unfold F_lean
  exact @sat_def G_touches 2 2 c_lean [a0, a1] h Q E [some a0, some a1, none, none] rfl rfl s
@[simp] theorem q_befores_lean : G_lean.fns "lean" = some F_lean := by kernel_rfl
theorem sat_befores {a0 : PV} {h : MH} {Q : PV → MH → Prop} {E : Exc → MH → Prop} (s : (evSs G_lean c_befores [some a0, none, none, none, none, none] h).sat (outK Q) fun c _ h => E c h) : (F_befores [a0] h).sat Q E := by
  unfold F_befores
  exact @sat_def G_lean 1 5 c_befores [a0] h Q E [some a0, none, none, none, none, none] rfl rfl s
theorem sat_free_places {a0 a1 a2 : PV} {h : MH} {Q : PV → MH → Prop} {E : Exc → MH → Prop} (s : (evSs G_befores c_free_places [some a0, some a1, some a2, none, none, none, none] h).sat (outK Q) fun c _ h => E c h) : (F_free_places [a0, a1, a2] h).sat Q E := by
  unfold F_free_places
  exact @sat_def G_befores 3 4 c_free_places [a0, a1, a2] h Q E [some a0, some a1, some a2, none, none, none, none] rfl rfl s
@[simp] theorem q_completions_befores : G_free_places.fns "befores" = some F_befores := by kernel_rfl
@[simp] theorem k_completions_MOST_COUNTED : G_free_places.cons "MOST_COUNTED" = some (.int 12) := by kernel_rfl
@[simp] theorem e_completions_TooMany : G_free_places.exs "TooMany" = some (["what", "most"] : List Str) := by kernel_rfl
theorem sat_completions {a0 : PV} {h : MH} {Q : PV → MH → Prop} {E : Exc → MH → Prop} (s : (evSs G_free_places c_completions [some a0, none, none, none, none, none, none, none] h).sat (outK Q) fun c _ h => E c h) : (F_completions [a0] h).sat Q E := by
  unfold F_completions
  exact @sat_def G_free_places 1 7 c_completions [a0] h Q E [some a0, none, none, none, none, none, none, none] rfl rfl s
@[simp] theorem q_count_orders_completions : G_completions.fns "completions" = some F_completions := by kernel_rfl
theorem sat_count_orders {a0 : PV} {h : MH} {Q : PV → MH → Prop} {E : Exc → MH → Prop} (s : (evSs G_completions c_count_orders [some a0] h).sat (outK Q) fun c _ h => E c h) : (F_count_orders [a0] h).sat Q E := by
  unfold F_count_orders
  exact @sat_def G_completions 1 0 c_count_orders [a0] h Q E [some a0] rfl rfl s
@[simp] theorem q_order_at_completions : G_count_orders.fns "completions" = some F_completions := by kernel_rfl
@[simp] theorem q_order_at_befores : G_count_orders.fns "befores" = some F_befores := by kernel_rfl
@[simp] theorem q_order_at_free_places : G_count_orders.fns "free_places" = some F_free_places := by kernel_rfl
@[simp] theorem q_order_at_is_whole : G_count_orders.fns "is_whole" = some F_is_whole := by kernel_rfl
@[simp] theorem e_order_at_BadNumber : G_count_orders.exs "BadNumber" = some (["number"] : List Str) := by kernel_rfl
theorem sat_order_at {a0 a1 : PV} {h : MH} {Q : PV → MH → Prop} {E : Exc → MH → Prop} (s : (evSs G_count_orders c_order_at [some a0, some a1, none, none, none, none, none, none] h).sat (outK Q) fun c _ h => E c h) : (F_order_at [a0, a1] h).sat Q E := by
  unfold F_order_at
  exact @sat_def G_count_orders 2 6 c_order_at [a0, a1] h Q E [some a0, some a1, none, none, none, none, none, none] rfl rfl s
@[simp] theorem q_least_order_order_at : G_order_at.fns "order_at" = some F_order_at := by kernel_rfl
theorem sat_least_order {a0 : PV} {h : MH} {Q : PV → MH → Prop} {E : Exc → MH → Prop} (s : (evSs G_order_at c_least_order [some a0] h).sat (outK Q) fun c _ h => E c h) : (F_least_order [a0] h).sat Q E := by
  unfold F_least_order
  exact @sat_def G_order_at 1 0 c_least_order [a0] h Q E [some a0] rfl rfl s
@[simp] theorem q_order_number_completions : G_least_order.fns "completions" = some F_completions := by kernel_rfl
@[simp] theorem q_order_number_befores : G_least_order.fns "befores" = some F_befores := by kernel_rfl
@[simp] theorem q_order_number_free_places : G_least_order.fns "free_places" = some F_free_places := by kernel_rfl
@[simp] theorem e_order_number_NotAnOrder : G_least_order.exs "NotAnOrder" = some ([] : List Str) := by kernel_rfl
theorem sat_order_number {a0 a1 : PV} {h : MH} {Q : PV → MH → Prop} {E : Exc → MH → Prop} (s : (evSs G_least_order c_order_number [some a0, some a1, none, none, none, none, none, none, none] h).sat (outK Q) fun c _ h => E c h) : (F_order_number [a0, a1] h).sat Q E := by
  unfold F_order_number
  exact @sat_def G_least_order 2 7 c_order_number [a0, a1] h Q E [some a0, some a1, none, none, none, none, none, none, none] rfl rfl s
theorem sat__law_deck {a0 : PV} {h : MH} {Q : PV → MH → Prop} {E : Exc → MH → Prop} (s : (evSs G_order_number c__law_deck [some a0, none, none, none] h).sat (outK Q) fun c _ h => E c h) : (F__law_deck [a0] h).sat Q E := by
  unfold F__law_deck
  exact @sat_def G_order_number 1 3 c__law_deck [a0] h Q E [some a0, none, none, none] rfl rfl s
theorem sat__law_draw {a0 a1 : PV} {h : MH} {Q : PV → MH → Prop} {E : Exc → MH → Prop} (s : (evSs G__law_deck c__law_draw [some a0, some a1, none, none] h).sat (outK Q) fun c _ h => E c h) : (F__law_draw [a0, a1] h).sat Q E := by
  unfold F__law_draw
  exact @sat_def G__law_deck 2 2 c__law_draw [a0, a1] h Q E [some a0, some a1, none, none] rfl rfl s
@[simp] theorem q__law_word__law_draw : G__law_draw.fns "_law_draw" = some F__law_draw := by kernel_rfl
theorem sat__law_word {a0 a1 : PV} {h : MH} {Q : PV → MH → Prop} {E : Exc → MH → Prop} (s : (evSs G__law_draw c__law_word [some a0, some a1, none, none, none, none, none, none, none] h).sat (outK Q) fun c _ h => E c h) : (F__law_word [a0, a1] h).sat Q E := by
  unfold F__law_word
  exact @sat_def G__law_draw 2 7 c__law_word [a0, a1] h Q E [some a0, some a1, none, none, none, none, none, none, none] rfl rfl s
theorem sat__law_same {a0 a1 : PV} {h : MH} {Q : PV → MH → Prop} {E : Exc → MH → Prop} (s : (evSs G__law_word c__law_same [some a0, some a1, none, none, none, none] h).sat (outK Q) fun c _ h => E c h) : (F__law_same [a0, a1] h).sat Q E := by
  unfold F__law_same
  exact @sat_def G__law_word 2 4 c__law_same [a0, a1] h Q E [some a0, some a1, none, none, none, none] rfl rfl s
theorem sat__law_kinds {x : PV} {h : MH} {Q : PV → MH → Prop} {E : Exc → MH → Prop} (s : (evSs G__law_same c__law_kinds [] h).sat (outK Q) fun c _ h => E c h) : (F__law_kinds [] h).sat Q E := by
  unfold F__law_kinds
  exact @sat_def G__law_same 0 0 c__law_kinds [] h Q E [] rfl rfl s
theorem sat__law_touches {a0 a1 a2 : PV} {h : MH} {Q : PV → MH → Prop} {E : Exc → MH → Prop} (s : (evSs G__law_kinds c__law_touches [some a0, some a1, some a2] h).sat (outK Q) fun c _ h => E c h) : (F__law_touches [a0, a1, a2] h).sat Q E := by
  unfold F__law_touches
  exact @sat_def G__law_kinds 3 0 c__law_touches [a0, a1, a2] h Q E [some a0, some a1, some a2] rfl rfl s
@[simp] theorem q__law_leans__law_kinds : G__law_touches.fns "_law_kinds" = some F__law_kinds := by kernel_rfl
@[simp] theorem q__law_leans__law_touches : G__law_touches.fns "_law_touches" = some F__law_touches := by kernel_rfl
theorem sat__law_leans {a0 a1 : PV} {h : MH} {Q : PV → MH → Prop} {E : Exc → MH → Prop} (s : (evSs G__law_touches c__law_leans [some a0, some a1, none] h).sat (outK Q) fun c _ h => E c h) : (F__law_leans [a0, a1] h).sat Q E := by
  unfold F__law_leans
  exact @sat_def G__law_touches 2 1 c__law_leans [a0, a1] h Q E [some a0, some a1, none] rfl rfl s
theorem sat__law_swapped {a0 a1 : PV} {h : MH} {Q : PV → MH → Prop} {E : Exc → MH → Prop} (s : (evSs G__law_leans c__law_swapped [some a0, some a1] h).sat (outK Q) fun c _ h => E c h) : (F__law_swapped [a0, a1] h).sat Q E := by
  unfold F__law_swapped
  exact @sat_def G__law_leans 2 0 c__law_swapped [a0, a1] h Q E [some a0, some a1] rfl rfl s
@[simp] theorem q__law_path__law_draw : G__law_swapped.fns "_law_draw" = some F__law_draw := by kernel_rfl
theorem sat__law_path {a0 a1 : PV} {h : MH} {Q : PV → MH → Prop} {E : Exc → MH → Prop} (s : (evSs G__law_swapped c__law_path [some a0, some a1, none] h).sat (outK Q) fun c _ h => E c h) : (F__law_path [a0, a1] h).sat Q E := by
  unfold F__law_path
  exact @sat_def G__law_swapped 2 1 c__law_path [a0, a1] h Q E [some a0, some a1, none] rfl rfl s
@[simp] theorem q__law_step__law_path : G__law_path.fns "_law_path" = some F__law_path := by kernel_rfl
@[simp] theorem q__law_step__law_draw : G__law_path.fns "_law_draw" = some F__law_draw := by kernel_rfl
theorem sat__law_step {a0 a1 a2 a3 : PV} {h : MH} {Q : PV → MH → Prop} {E : Exc → MH → Prop} (s : (evSs G__law_path c__law_step [some a0, some a1, some a2, some a3, none, none] h).sat (outK Q) fun c _ h => E c h) : (F__law_step [a0, a1, a2, a3] h).sat Q E := by
  unfold F__law_step
  exact @sat_def G__law_path 4 2 c__law_step [a0, a1, a2, a3] h Q E [some a0, some a1, some a2, some a3, none, none] rfl rfl s
@[simp] theorem q__law_loose__law_draw : G__law_step.fns "_law_draw" = some F__law_draw := by kernel_rfl
@[simp] theorem q__law_loose__law_word : G__law_step.fns "_law_word" = some F__law_word := by kernel_rfl
@[simp] theorem q__law_loose__law_step : G__law_step.fns "_law_step" = some F__law_step := by kernel_rfl
theorem sat__law_loose {a0 : PV} {h : MH} {Q : PV → MH → Prop} {E : Exc → MH → Prop} (s : (evSs G__law_step c__law_loose [some a0, none, none, none, none, none, none, none] h).sat (outK Q) fun c _ h => E c h) : (F__law_loose [a0] h).sat Q E := by
  unfold F__law_loose
  exact @sat_def G__law_step 1 7 c__law_loose [a0] h Q E [some a0, none, none, none, none, none, none, none] rfl rfl s
@[simp] theorem q__law_orders__law_leans : G__law_loose.fns "_law_leans" = some F__law_leans := by kernel_rfl
@[simp] theorem q__law_orders__law_swapped : G__law_loose.fns "_law_swapped" = some F__law_swapped := by kernel_rfl
theorem sat__law_orders {a0 : PV} {h : MH} {Q : PV → MH → Prop} {E : Exc → MH → Prop} (s : (evSs G__law_loose c__law_orders [some a0, none, none, none, none, none] h).sat (outK Q) fun c _ h => E c h) : (F__law_orders [a0] h).sat Q E := by
  unfold F__law_orders
  exact @sat_def G__law_loose 1 5 c__law_orders [a0] h Q E [some a0, none, none, none, none, none] rfl rfl s
@[simp] theorem q__law_at_order_at : G__law_orders.fns "order_at" = some F_order_at := by kernel_rfl
@[simp] theorem h__law_at_BadNumber : G__law_orders.hcs "BadNumber" = true := by kernel_rfl
@[simp] theorem h__law_at_TooMany : G__law_orders.hcs "TooMany" = true := by kernel_rfl
@[simp] theorem e__law_at_TooMany : G__law_orders.exs "TooMany" = some (["what", "most"] : List Str) := by kernel_rfl
@[simp] theorem s__law_at_TooMany_BadNumber : G__law_orders.sub "TooMany" "BadNumber" = false := by kernel_rfl
@[simp] theorem s__law_at_TooMany_TooMany : G__law_orders.sub "TooMany" "TooMany" = true := by kernel_rfl
@[simp] theorem e__law_at_BadNumber : G__law_orders.exs "BadNumber" = some (["number"] : List Str) := by kernel_rfl
@[simp] theorem s__law_at_BadNumber_BadNumber : G__law_orders.sub "BadNumber" "BadNumber" = true := by kernel_rfl
@[simp] theorem s__law_at_BadNumber_TooMany : G__law_orders.sub "BadNumber" "TooMany" = false := by kernel_rfl
@[simp] theorem e__law_at_NotAnOrder : G__law_orders.exs "NotAnOrder" = some ([] : List Str) := by kernel_rfl
@[simp] theorem s__law_at_NotAnOrder_BadNumber : G__law_orders.sub "NotAnOrder" "BadNumber" = false := by kernel_rfl
@[simp] theorem s__law_at_NotAnOrder_TooMany : G__law_orders.sub "NotAnOrder" "TooMany" = false := by kernel_rfl
theorem sat__law_at {a0 a1 : PV} {h : MH} {Q : PV → MH → Prop} {E : Exc → MH → Prop} (s : (evSs G__law_orders c__law_at [some a0, some a1, none] h).sat (outK Q) fun c _ h => E c h) : (F__law_at [a0, a1] h).sat Q E := by
  unfold F__law_at
  exact @sat_def G__law_orders 2 1 c__law_at [a0, a1] h Q E [some a0, some a1, none] rfl rfl s
@[simp] theorem q__law_number_order_number : G__law_at.fns "order_number" = some F_order_number := by kernel_rfl
@[simp] theorem h__law_number_NotAnOrder : G__law_at.hcs "NotAnOrder" = true := by kernel_rfl
@[simp] theorem h__law_number_TooMany : G__law_at.hcs "TooMany" = true := by kernel_rfl
@[simp] theorem e__law_number_TooMany : G__law_at.exs "TooMany" = some (["what", "most"] : List Str) := by kernel_rfl
@[simp] theorem s__law_number_TooMany_NotAnOrder : G__law_at.sub "TooMany" "NotAnOrder" = false := by kernel_rfl
@[simp] theorem s__law_number_TooMany_TooMany : G__law_at.sub "TooMany" "TooMany" = true := by kernel_rfl
@[simp] theorem e__law_number_BadNumber : G__law_at.exs "BadNumber" = some (["number"] : List Str) := by kernel_rfl
@[simp] theorem s__law_number_BadNumber_NotAnOrder : G__law_at.sub "BadNumber" "NotAnOrder" = false := by kernel_rfl
@[simp] theorem s__law_number_BadNumber_TooMany : G__law_at.sub "BadNumber" "TooMany" = false := by kernel_rfl
@[simp] theorem e__law_number_NotAnOrder : G__law_at.exs "NotAnOrder" = some ([] : List Str) := by kernel_rfl
@[simp] theorem s__law_number_NotAnOrder_NotAnOrder : G__law_at.sub "NotAnOrder" "NotAnOrder" = true := by kernel_rfl
@[simp] theorem s__law_number_NotAnOrder_TooMany : G__law_at.sub "NotAnOrder" "TooMany" = false := by kernel_rfl
theorem sat__law_number {a0 a1 : PV} {h : MH} {Q : PV → MH → Prop} {E : Exc → MH → Prop} (s : (evSs G__law_at c__law_number [some a0, some a1, none] h).sat (outK Q) fun c _ h => E c h) : (F__law_number [a0, a1] h).sat Q E := by
  unfold F__law_number
  exact @sat_def G__law_at 2 1 c__law_number [a0, a1] h Q E [some a0, some a1, none] rfl rfl s
@[simp] theorem q__law_counted_count_orders : G__law_number.fns "count_orders" = some F_count_orders := by kernel_rfl
@[simp] theorem h__law_counted_TooMany : G__law_number.hcs "TooMany" = true := by kernel_rfl
@[simp] theorem e__law_counted_TooMany : G__law_number.exs "TooMany" = some (["what", "most"] : List Str) := by kernel_rfl
@[simp] theorem s__law_counted_TooMany_TooMany : G__law_number.sub "TooMany" "TooMany" = true := by kernel_rfl
@[simp] theorem e__law_counted_BadNumber : G__law_number.exs "BadNumber" = some (["number"] : List Str) := by kernel_rfl
@[simp] theorem s__law_counted_BadNumber_TooMany : G__law_number.sub "BadNumber" "TooMany" = false := by kernel_rfl
@[simp] theorem e__law_counted_NotAnOrder : G__law_number.exs "NotAnOrder" = some ([] : List Str) := by kernel_rfl
@[simp] theorem s__law_counted_NotAnOrder_TooMany : G__law_number.sub "NotAnOrder" "TooMany" = false := by kernel_rfl
theorem sat__law_counted {a0 : PV} {h : MH} {Q : PV → MH → Prop} {E : Exc → MH → Prop} (s : (evSs G__law_number c__law_counted [some a0, none] h).sat (outK Q) fun c _ h => E c h) : (F__law_counted [a0] h).sat Q E := by
  unfold F__law_counted
  exact @sat_def G__law_number 1 1 c__law_counted [a0] h Q E [some a0, none] rfl rfl s
@[simp] theorem q__law_least_least_order : G__law_counted.fns "least_order" = some F_least_order := by kernel_rfl
@[simp] theorem h__law_least_TooMany : G__law_counted.hcs "TooMany" = true := by kernel_rfl
@[simp] theorem e__law_least_TooMany : G__law_counted.exs "TooMany" = some (["what", "most"] : List Str) := by kernel_rfl
@[simp] theorem s__law_least_TooMany_TooMany : G__law_counted.sub "TooMany" "TooMany" = true := by kernel_rfl
@[simp] theorem e__law_least_BadNumber : G__law_counted.exs "BadNumber" = some (["number"] : List Str) := by kernel_rfl
@[simp] theorem s__law_least_BadNumber_TooMany : G__law_counted.sub "BadNumber" "TooMany" = false := by kernel_rfl
@[simp] theorem e__law_least_NotAnOrder : G__law_counted.exs "NotAnOrder" = some ([] : List Str) := by kernel_rfl
@[simp] theorem s__law_least_NotAnOrder_TooMany : G__law_counted.sub "NotAnOrder" "TooMany" = false := by kernel_rfl
theorem sat__law_least {a0 : PV} {h : MH} {Q : PV → MH → Prop} {E : Exc → MH → Prop} (s : (evSs G__law_counted c__law_least [some a0, none] h).sat (outK Q) fun c _ h => E c h) : (F__law_least [a0] h).sat Q E := by
  unfold F__law_least
  exact @sat_def G__law_counted 1 1 c__law_least [a0] h Q E [some a0, none] rfl rfl s
@[simp] theorem q__law_refused__law_same : G__law_least.fns "_law_same" = some F__law_same := by kernel_rfl
@[simp] theorem q__law_refused__law_counted : G__law_least.fns "_law_counted" = some F__law_counted := by kernel_rfl
@[simp] theorem q__law_refused__law_least : G__law_least.fns "_law_least" = some F__law_least := by kernel_rfl
@[simp] theorem q__law_refused__law_at : G__law_least.fns "_law_at" = some F__law_at := by kernel_rfl
@[simp] theorem q__law_refused__law_number : G__law_least.fns "_law_number" = some F__law_number := by kernel_rfl
theorem sat__law_refused {a0 : PV} {h : MH} {Q : PV → MH → Prop} {E : Exc → MH → Prop} (s : (evSs G__law_least c__law_refused [some a0, none, none, none] h).sat (outK Q) fun c _ h => E c h) : (F__law_refused [a0] h).sat Q E := by
  unfold F__law_refused
  exact @sat_def G__law_least 1 3 c__law_refused [a0] h Q E [some a0, none, none, none] rfl rfl s
@[simp] theorem q__law_mixed__law_draw : G__law_refused.fns "_law_draw" = some F__law_draw := by kernel_rfl
theorem sat__law_mixed {a0 a1 : PV} {h : MH} {Q : PV → MH → Prop} {E : Exc → MH → Prop} (s : (evSs G__law_refused c__law_mixed [some a0, some a1, none, none] h).sat (outK Q) fun c _ h => E c h) : (F__law_mixed [a0, a1] h).sat Q E := by
  unfold F__law_mixed
  exact @sat_def G__law_refused 2 2 c__law_mixed [a0, a1] h Q E [some a0, some a1, none, none] rfl rfl s
@[simp] theorem q__law_small__law_orders : G__law_mixed.fns "_law_orders" = some F__law_orders := by kernel_rfl
@[simp] theorem q__law_small__law_same : G__law_mixed.fns "_law_same" = some F__law_same := by kernel_rfl
@[simp] theorem q__law_small__law_loose : G__law_mixed.fns "_law_loose" = some F__law_loose := by kernel_rfl
@[simp] theorem q__law_small__law_draw : G__law_mixed.fns "_law_draw" = some F__law_draw := by kernel_rfl
@[simp] theorem q__law_small__law_mixed : G__law_mixed.fns "_law_mixed" = some F__law_mixed := by kernel_rfl
@[simp] theorem q__law_small__law_counted : G__law_mixed.fns "_law_counted" = some F__law_counted := by kernel_rfl
@[simp] theorem q__law_small__law_least : G__law_mixed.fns "_law_least" = some F__law_least := by kernel_rfl
@[simp] theorem q__law_small__law_at : G__law_mixed.fns "_law_at" = some F__law_at := by kernel_rfl
@[simp] theorem q__law_small__law_number : G__law_mixed.fns "_law_number" = some F__law_number := by kernel_rfl
theorem sat__law_small {a0 : PV} {h : MH} {Q : PV → MH → Prop} {E : Exc → MH → Prop} (s : (evSs G__law_mixed c__law_small [some a0, none, none, none, none, none, none, none, none, none, none, none] h).sat (outK Q) fun c _ h => E c h) : (F__law_small [a0] h).sat Q E := by
  unfold F__law_small
  exact @sat_def G__law_mixed 1 11 c__law_small [a0] h Q E [some a0, none, none, none, none, none, none, none, none, none, none, none] rfl rfl s
@[simp] theorem q__law_chains__law_draw : G__law_small.fns "_law_draw" = some F__law_draw := by kernel_rfl
@[simp] theorem q__law_chains__law_word : G__law_small.fns "_law_word" = some F__law_word := by kernel_rfl
theorem sat__law_chains {a0 : PV} {h : MH} {Q : PV → MH → Prop} {E : Exc → MH → Prop} (s : (evSs G__law_small c__law_chains [some a0, none, none, none, none, none, none, none, none, none] h).sat (outK Q) fun c _ h => E c h) : (F__law_chains [a0] h).sat Q E := by
  unfold F__law_chains
  exact @sat_def G__law_small 1 9 c__law_chains [a0] h Q E [some a0, none, none, none, none, none, none, none, none, none] rfl rfl s
@[simp] theorem q__law_woven__law_draw : G__law_chains.fns "_law_draw" = some F__law_draw := by kernel_rfl
theorem sat__law_woven {a0 a1 : PV} {h : MH} {Q : PV → MH → Prop} {E : Exc → MH → Prop} (s : (evSs G__law_chains c__law_woven [some a0, some a1, none, none, none, none, none, none] h).sat (outK Q) fun c _ h => E c h) : (F__law_woven [a0, a1] h).sat Q E := by
  unfold F__law_woven
  exact @sat_def G__law_chains 2 6 c__law_woven [a0, a1] h Q E [some a0, some a1, none, none, none, none, none, none] rfl rfl s
theorem sat__law_ways {a0 : PV} {h : MH} {Q : PV → MH → Prop} {E : Exc → MH → Prop} (s : (evSs G__law_woven c__law_ways [some a0, none, none, none, none] h).sat (outK Q) fun c _ h => E c h) : (F__law_ways [a0] h).sat Q E := by
  unfold F__law_ways
  exact @sat_def G__law_woven 1 4 c__law_ways [a0] h Q E [some a0, none, none, none, none] rfl rfl s
@[simp] theorem q__law_rank__law_ways : G__law_ways.fns "_law_ways" = some F__law_ways := by kernel_rfl
theorem sat__law_rank {a0 a1 : PV} {h : MH} {Q : PV → MH → Prop} {E : Exc → MH → Prop} (s : (evSs G__law_ways c__law_rank [some a0, some a1, none, none, none, none, none, none, none] h).sat (outK Q) fun c _ h => E c h) : (F__law_rank [a0, a1] h).sat Q E := by
  unfold F__law_rank
  exact @sat_def G__law_ways 2 7 c__law_rank [a0, a1] h Q E [some a0, some a1, none, none, none, none, none, none, none] rfl rfl s
theorem sat__law_first {a0 : PV} {h : MH} {Q : PV → MH → Prop} {E : Exc → MH → Prop} (s : (evSs G__law_rank c__law_first [some a0, none, none, none, none, none] h).sat (outK Q) fun c _ h => E c h) : (F__law_first [a0] h).sat Q E := by
  unfold F__law_first
  exact @sat_def G__law_rank 1 5 c__law_first [a0] h Q E [some a0, none, none, none, none, none] rfl rfl s
@[simp] theorem q__law_large__law_chains : G__law_first.fns "_law_chains" = some F__law_chains := by kernel_rfl
@[simp] theorem q__law_large__law_woven : G__law_first.fns "_law_woven" = some F__law_woven := by kernel_rfl
@[simp] theorem q__law_large__law_ways : G__law_first.fns "_law_ways" = some F__law_ways := by kernel_rfl
@[simp] theorem q__law_large__law_rank : G__law_first.fns "_law_rank" = some F__law_rank := by kernel_rfl
@[simp] theorem q__law_large__law_same : G__law_first.fns "_law_same" = some F__law_same := by kernel_rfl
@[simp] theorem q__law_large__law_refused : G__law_first.fns "_law_refused" = some F__law_refused := by kernel_rfl
@[simp] theorem q__law_large__law_at : G__law_first.fns "_law_at" = some F__law_at := by kernel_rfl
@[simp] theorem q__law_large__law_counted : G__law_first.fns "_law_counted" = some F__law_counted := by kernel_rfl
@[simp] theorem q__law_large__law_least : G__law_first.fns "_law_least" = some F__law_least := by kernel_rfl
@[simp] theorem q__law_large__law_number : G__law_first.fns "_law_number" = some F__law_number := by kernel_rfl
@[simp] theorem q__law_large__law_first : G__law_first.fns "_law_first" = some F__law_first := by kernel_rfl
theorem sat__law_large {a0 : PV} {h : MH} {Q : PV → MH → Prop} {E : Exc → MH → Prop} (s : (evSs G__law_first c__law_large [some a0, none, none, none, none, none, none] h).sat (outK Q) fun c _ h => E c h) : (F__law_large [a0] h).sat Q E := by
  unfold F__law_large
  exact @sat_def G__law_first 1 6 c__law_large [a0] h Q E [some a0, none, none, none, none, none, none] rfl rfl s
@[simp] theorem q_law__law_deck : G__law_large.fns "_law_deck" = some F__law_deck := by kernel_rfl
@[simp] theorem q_law__law_large : G__law_large.fns "_law_large" = some F__law_large := by kernel_rfl
@[simp] theorem q_law__law_draw : G__law_large.fns "_law_draw" = some F__law_draw := by kernel_rfl
@[simp] theorem q_law__law_small : G__law_large.fns "_law_small" = some F__law_small := by kernel_rfl
theorem sat_law {a0 : PV} {h : MH} {Q : PV → MH → Prop} {E : Exc → MH → Prop} (s : (evSs G__law_large c_law [some a0, none] h).sat (outK Q) fun c _ h => E c h) : (F_law [a0] h).sat Q E := by
  unfold F_law
  exact @sat_def G__law_large 1 1 c_law [a0] h Q E [some a0, none] rfl rfl s
end K48
set_option maxHeartbeats 2000000
namespace K48
open PySem FL

abbrev Nm := List Char
inductive Stp
  | addT (t : Nm) | addC (t c g : Nm) | addR (t : Nm) (p q : List Nm)
  | drpT (t : Nm) | drpC (t c : Nm) | drpR (t : Nm) (p q : List Nm)
  | namT (t u : Nm) | namC (t c d : Nm)
  deriving DecidableEq
def pth (p : List Nm) : PV := .tup (p.map PV.str)
def ks : List Char → PV := PV.str
def enc : Stp → PV
  | .addT t => .tup [.str ['a', 'd', 'd', 't', 'a', 'b', 'l', 'e'], .str t]
  | .addC t c g => .tup [.str ['a', 'd', 'd', 'c', 'o', 'l', 'u', 'm', 'n'], .str t, .str c, .str g]
  | .addR t p q => .tup [.str ['a', 'd', 'd', 'r', 'u', 'l', 'e'], .str t, pth p, pth q]
  | .drpT t => .tup [.str ['d', 'r', 'o', 'p', 't', 'a', 'b', 'l', 'e'], .str t]
  | .drpC t c => .tup [.str ['d', 'r', 'o', 'p', 'c', 'o', 'l', 'u', 'm', 'n'], .str t, .str c]
  | .drpR t p q => .tup [.str ['d', 'r', 'o', 'p', 'r', 'u', 'l', 'e'], .str t, pth p, pth q]
  | .namT t u => .tup [.str ['n', 'a', 'm', 'e', 't', 'a', 'b', 'l', 'e'], .str t, .str u]
  | .namC t c d => .tup [.str ['n', 'a', 'm', 'e', 'c', 'o', 'l', 'u', 'm', 'n'], .str t, .str c, .str d]
def dps (p : List Nm) : PyData := .tuple (p.map fun a => .str (S a))
def dat : Stp → PyData
  | .addT t => .tuple [.str (S ['a', 'd', 'd', 't', 'a', 'b', 'l', 'e']), .str (S t)]
  | .addC t c g => .tuple [.str (S ['a', 'd', 'd', 'c', 'o', 'l', 'u', 'm', 'n']), .str (S t), .str (S c), .str (S g)]
  | .addR t p q => .tuple [.str (S ['a', 'd', 'd', 'r', 'u', 'l', 'e']), .str (S t), dps p, dps q]
  | .drpT t => .tuple [.str (S ['d', 'r', 'o', 'p', 't', 'a', 'b', 'l', 'e']), .str (S t)]
  | .drpC t c => .tuple [.str (S ['d', 'r', 'o', 'p', 'c', 'o', 'l', 'u', 'm', 'n']), .str (S t), .str (S c)]
  | .drpR t p q => .tuple [.str (S ['d', 'r', 'o', 'p', 'r', 'u', 'l', 'e']), .str (S t), dps p, dps q]
  | .namT t u => .tuple [.str (S ['n', 'a', 'm', 'e', 't', 'a', 'b', 'l', 'e']), .str (S t), .str (S u)]
  | .namC t c d => .tuple [.str (S ['n', 'a', 'm', 'e', 'c', 'o', 'l', 'u', 'm', 'n']), .str (S t), .str (S c), .str (S d)]
@[simp] theorem snap_pth {h : MH} {n : Nat} {p : List Nm} : snap h (n + 1) (pth p) = some (dps p) := by
  show (mapO (snap h n) (p.map PV.str)).map PyData.tuple = _
  rw [snaps_s]; rfl
theorem mapO_c {α β : Type} {f : α → Option β} {x : α} {xs : List α} : mapO f (x :: xs) = (match f x, mapO f xs with | some y, some ys => some (y :: ys) | _, _ => none) := by
  show (match f x with
    | some y => match mapO f xs with
      | some ys => some (y :: ys)
      | none => none
    | none => none) = _
  cases f x <;> cases mapO f xs <;> rfl
@[simp] theorem snap_enc {h : MH} {n : Nat} {s : Stp} : snap h (n + 2) (enc s) = some (dat s) := by
  cases s <;> (show (mapO (snap h (n + 1)) _).map PyData.tuple = _) <;> simp [mapO_c, dat]
theorem snap_e {h : MH} {s : Stp} : snap h dp (enc s) = some (dat s) := snap_enc (n := 58)
theorem eqv_tup {xs ys : List PyData} : PyData.eqv (.tuple xs) (.tuple ys) = PyData.eqvAll xs ys := by rw [PyData.eqv]
theorem eqv_all {x y : PyData} {xs ys : List PyData} : PyData.eqvAll (x :: xs) (y :: ys) = (PyData.eqv x y && PyData.eqvAll xs ys) := by rw [PyData.eqvAll]
theorem eqv_dps : ∀ {p q : List Nm}, PyData.eqvAll (p.map fun a => PyData.str (S a)) (q.map fun a => PyData.str (S a)) = decide (p = q)
  | [], [] => by simp [PyData.eqvAll]
  | [], _ :: _ => by simp [PyData.eqvAll]
  | _ :: _, [] => by simp [PyData.eqvAll]
  | a :: p, b :: q => by
    simp only [List.map_cons, eqv_all, eqv_S, eqv_dps (p := p) (q := q)]
    by_cases h1 : a = b <;> by_cases h2 : p = q <;> simp [h1, h2]
@[simp] theorem eqv_dp {p q : List Nm} : PyData.eqv (dps p) (dps q) = decide (p = q) := by
  unfold dps; rw [eqv_tup, eqv_dps]
theorem eqv_e {s t : Stp} : PyData.eqv (dat s) (dat t) = decide (s = t) := by
  cases s <;> cases t <;> simp [dat, eqv_tup, eqv_all, PyData.eqvAll] <;> (try rw [← Bool.decide_and]) <;> (try simp [Bool.and_assoc])
theorem enc_inj {s t : Stp} (h : enc s = enc t) : s = t := by
  have q : dat s = dat t := by
    have a := snap_enc (h := []) (n := 0) (s := s)
    rw [h, snap_enc] at a
    exact (Option.some.inj a).symm
  have e := eqv_e (s := s) (t := t)
  rw [q] at e
  have e2 := eqv_e (s := t) (t := t)
  rw [e2] at e
  simpa using e.symm
def nou : Stp → Nm
  | .addT _ | .drpT _ => ['t', 'a', 'b', 'l', 'e']
  | .addC .. | .drpC .. => ['c', 'o', 'l', 'u', 'm', 'n']
  | _ => ['r', 'u', 'l', 'e']
section
variable {h : MH} {Q : PV → MH → Prop} {E : Exc → MH → Prop}
theorem big1 {n : Nat} (hn : n ≤ 100) : n ≤ big := by unfold big; omega
@[simp] theorem big_2 : 2 ≤ big := big1 (by omega)
@[simp] theorem big_3 : 3 ≤ big := big1 (by omega)
@[simp] theorem in2 {a b c : Nm} : (cmpM .In (.str a) (.tup [.str b, .str c]) h).sat Q E = Q (.bl (decide (a = b) || decide (a = c))) h := by
  exact (v_in_st [b, c] rfl).trans (by congr 2; simp [Bool.decide_or])
@[simp] theorem in3 {a b c d : Nm} : (cmpM .In (.str a) (.tup [.str b, .str c, .str d]) h).sat Q E = Q (.bl (decide (a = b) || (decide (a = c) || decide (a = d)))) h := by
  exact (v_in_st [b, c, d] rfl).trans (by congr 2; simp [Bool.decide_or])
@[simp] theorem in_p {a : Nm} {p : List Nm} : (cmpM .In (.str a) (pth p) h).sat Q E = Q (.bl (decide (a ∈ p))) h := v_in_st p rfl
@[simp] theorem eq2 {a b c d : Nm} : (cmpM .Eq (.tup [.str a, .str b]) (.tup [.str c, .str d]) h).sat Q E = Q (.bl (decide (a = c) && decide (b = d))) h := by
  have e : ∀ a b : Nm, snap h dp (.tup [.str a, .str b]) = some (.tuple [.str (S a), .str (S b)]) := fun a b => by
    show (mapO (snap h 59) _).map PyData.tuple = _
    simp [mapO_c]
  rw [v_eq (e a b) (e c d)]; simp [eqv_tup, eqv_all, PyData.eqvAll]
@[simp] theorem eq_e {s t : Stp} : (cmpM .Eq (enc s) (enc t) h).sat Q E = Q (.bl (decide (s = t))) h := by rw [v_eq snap_e snap_e, eqv_e]
@[simp] theorem ne_e {s t : Stp} : (cmpM .NotEq (enc s) (enc t) h).sat Q E = Q (.bl (!decide (s = t))) h := by rw [v_ne snap_e snap_e, eqv_e]
theorem noun_sp (s : Stp) : (F_noun [enc s] h).sat (fun v h' => v = .str (nou s) ∧ h' = h) noE := by
  refine sat_noun ?_
  unfold c_noun
  cases s <;> simp [enc, nou]

/-! ### what leans on what -/
def tch : Stp → Stp → Bool
  | .addT a, .addC t _ g => decide (a = t) || decide (a = g)
  | .addT a, .drpC t c => decide (a = t)
  | .drpT _, .addC .. => true
  | .drpT _, .drpC .. => true
  | .addT a, .addR t _ _ => decide (a = t)
  | .addT a, .drpR t _ _ => decide (a = t)
  | .drpT a, .addR t _ _ => decide (a = t)
  | .drpT a, .drpR t _ _ => decide (a = t)
  | .addC _ c _, .addR _ p q => decide (c ∈ p) || decide (c ∈ q)
  | .drpC _ c, .drpR _ p q => decide (c ∈ p) || decide (c ∈ q)
  | .addC a c _, .addC t d _ => decide (a = t) && decide (c = d)
  | .drpC a c, .drpC t d => decide (a = t) && decide (c = d)
  | _, _ => false
/-- 0 adds, 1 drops, 2 renames -/
def grp : Stp → Nat
  | .addT _ | .addC .. | .addR .. => 0
  | .drpT _ | .drpC .. | .drpR .. => 1
  | _ => 2
def dep (s t : Stp) : Bool := decide (s = t) || (if grp s = grp t ∧ grp s < 2 then tch s t || tch t s else true)
theorem tch_sp (s t : Stp) (hg : grp s = grp t ∧ grp s < 2) : (F_touches [enc s, enc t] h).sat (fun v h' => v = .bl (tch s t) ∧ h' = h) noE := by
  refine sat_touches ?_
  unfold c_touches
  simp
  refine sat_to (noun_sp s) ?_
  rintro _ _ ⟨rfl, rfl⟩
  refine sat_to (noun_sp t) ?_
  rintro _ _ ⟨rfl, rfl⟩
  cases s <;> cases t <;> first | (simp [grp] at hg; done) | (simp [enc, nou, tch]; done) | (rename_i c _ _ p q; simp [enc, nou, tch]; by_cases h1 : c ∈ p <;> by_cases h2 : c ∈ q <;> simp [h1, h2]) | (rename_i c _ p q; simp [enc, nou, tch]; by_cases h1 : c ∈ p <;> by_cases h2 : c ∈ q <;> simp [h1, h2])
/-- first[0] in ADDING, in DROPPING -/
def isA (s : Stp) : Bool := grp s == 0
def isD (s : Stp) : Bool := grp s == 1
def kdn : Stp → Nm
  | .addT _ => ['a', 'd', 'd', 't', 'a', 'b', 'l', 'e']
  | .addC .. => ['a', 'd', 'd', 'c', 'o', 'l', 'u', 'm', 'n']
  | .addR .. => ['a', 'd', 'd', 'r', 'u', 'l', 'e']
  | .drpT _ => ['d', 'r', 'o', 'p', 't', 'a', 'b', 'l', 'e']
  | .drpC .. => ['d', 'r', 'o', 'p', 'c', 'o', 'l', 'u', 'm', 'n']
  | .drpR .. => ['d', 'r', 'o', 'p', 'r', 'u', 'l', 'e']
  | .namT .. => ['n', 'a', 'm', 'e', 't', 'a', 'b', 'l', 'e']
  | .namC .. => ['n', 'a', 'm', 'e', 'c', 'o', 'l', 'u', 'm', 'n']
@[simp] theorem ix_e0 {s : Stp} : (ixM (enc s) (.int 0) h).sat Q E = Q (.str (kdn s)) h := by cases s <;> simp [enc, kdn]
theorem inA {s : Stp} : (decide (kdn s = ['a', 'd', 'd', 't', 'a', 'b', 'l', 'e']) || (decide (kdn s = ['a', 'd', 'd', 'c', 'o', 'l', 'u', 'm', 'n']) || decide (kdn s = ['a', 'd', 'd', 'r', 'u', 'l', 'e']))) = isA s := by cases s <;> rfl
theorem inD {s : Stp} : (decide (kdn s = ['d', 'r', 'o', 'p', 't', 'a', 'b', 'l', 'e']) || (decide (kdn s = ['d', 'r', 'o', 'p', 'c', 'o', 'l', 'u', 'm', 'n']) || decide (kdn s = ['d', 'r', 'o', 'p', 'r', 'u', 'l', 'e']))) = isD s := by cases s <;> rfl
theorem grp_lt (s : Stp) : grp s < 3 := by cases s <;> simp [grp]
theorem both (s t : Stp) : ((isA s && isA t) || (isD s && isD t)) = decide (grp s = grp t ∧ grp s < 2) := by
  have := grp_lt s
  have := grp_lt t
  unfold isA isD
  generalize grp s = a at *
  generalize grp t = b at *
  have ha : a = 0 ∨ a = 1 ∨ a = 2 := by omega
  have hb : b = 0 ∨ b = 1 ∨ b = 2 := by omega
  rcases ha with rfl | rfl | rfl <;> rcases hb with rfl | rfl | rfl <;> rfl
theorem grp3 (s : Stp) : (grp s = 0 ∧ isA s = true ∧ isD s = false) ∨ (grp s = 1 ∧ isA s = false ∧ isD s = true) ∨ (grp s = 2 ∧ isA s = false ∧ isD s = false) := by cases s <;> simp [grp, isA, isD]
theorem dep_eq (s : Stp) : dep s s = true := by simp [dep]
theorem dep_in {s t : Stp} (hst : s ≠ t) (hg : grp s = grp t ∧ grp s < 2) : dep s t = (tch s t || tch t s) := by unfold dep; rw [if_pos hg]; simp [hst]
theorem dep_out {s t : Stp} (hg : ¬(grp s = grp t ∧ grp s < 2)) : dep s t = true := by unfold dep; rw [if_neg hg]; simp
theorem dep_sym (s t : Stp) : dep s t = dep t s := by
  unfold dep
  have e1 : decide (s = t) = decide (t = s) := by by_cases h : s = t <;> simp [h, eq_comm]
  rw [e1, Bool.or_comm (tch s t)]
  by_cases h : grp s = grp t
  · simp [h]
  · simp [h, Ne.symm h]
theorem two_tch {s t : Stp} (hst : s ≠ t) (hg : grp s = grp t ∧ grp s < 2) {E : Exc → MH → Prop} : (F_touches [enc s, enc t] h).sat (blK fun b h1 => if b = true then b = dep s t ∧ h1 = h else (F_touches [enc t, enc s] h1).sat (fun v h' => v = PV.bl (dep s t) ∧ h' = h) E) E := by
  refine sat_to (tch_sp s t hg) ?_
  rintro _ _ ⟨rfl, rfl⟩
  rw [blK_bl, dep_in hst hg]
  cases tch s t with
  | true => simp
  | false =>
    simp only [Bool.false_eq_true, if_false, Bool.false_or]
    exact sat_to (tch_sp t s ⟨hg.1.symm, hg.1 ▸ hg.2⟩) fun _ _ z => z
theorem lean_sp (s t : Stp) : (F_lean [enc s, enc t] h).sat (fun v h' => v = .bl (dep s t) ∧ h' = h) noE := by
  refine sat_lean ?_
  unfold c_lean
  simp only [ws_ite, w_cmp, w_loc, ssat_cons, List.getElem?_cons_zero, List.getElem?_cons_succ, eq_e, blK_bl]
  by_cases hst : s = t
  · simp [hst, dep]
  · rcases grp3 s with ⟨g1, a1, d1⟩ | ⟨g1, a1, d1⟩ | ⟨g1, a1, d1⟩ <;> rcases grp3 t with ⟨g2, a2, d2⟩ | ⟨g2, a2, d2⟩ | ⟨g2, a2, d2⟩ <;> simp [hst, inA, inD, a1, d1, a2, d2]
    all_goals first
      | exact two_tch hst (by rw [g1, g2]; decide)
      | exact dep_out (by rw [g1, g2]; decide)
theorem dep_sp (s t : Stp) {E : Exc → MH → Prop} {Q : PV → MH → Prop} (q : Q (.bl (dep s t)) h) : (F_lean [enc s, enc t] h).sat Q E := sat_to (lean_sp s t) fun _ _ ⟨e1, e2⟩ => by rw [e1, e2]; exact q

/-! ### the law's own leaning -/
abbrev kA : List Nm := [['a', 'd', 'd', 't', 'a', 'b', 'l', 'e'], ['a', 'd', 'd', 'c', 'o', 'l', 'u', 'm', 'n'], ['a', 'd', 'd', 'r', 'u', 'l', 'e']]
abbrev kD : List Nm := [['d', 'r', 'o', 'p', 't', 'a', 'b', 'l', 'e'], ['d', 'r', 'o', 'p', 'c', 'o', 'l', 'u', 'm', 'n'], ['d', 'r', 'o', 'p', 'r', 'u', 'l', 'e']]
def kH (h : MH) : MH := h ++ [.lst (kA.map PV.str), .lst (kD.map PV.str), .lst [.ref h.length, .ref (h.length + 1)]]
theorem kinds_sp : (F__law_kinds [] h).sat (fun v h' => v = .ref (h.length + 2) ∧ h' = kH h) noE := by
  refine sat__law_kinds (x := .non) ?_
  unfold c__law_kinds
  simp [kH]
theorem mem_kA {s : Stp} : decide (kdn s ∈ kA) = isA s := by cases s <;> rfl
theorem mem_kD {s : Stp} : decide (kdn s ∈ kD) = isD s := by cases s <;> rfl
/-- the paths are short -/
def okS : Stp → Prop
  | .addR _ p q => p.length ≤ 100 ∧ q.length ≤ 100
  | .drpR _ p q => p.length ≤ 100 ∧ q.length ≤ 100
  | _ => True
theorem add_p {p q : List Nm} (hp : p.length ≤ 100) (hq : q.length ≤ 100) : (binM .Add (pth p) (pth q) h).sat Q E = Q (pth (p ++ q)) h := by
  unfold pth
  rw [v_add_t (by simp only [List.length_map]; unfold big; omega), List.map_append]
@[simp] theorem slc_t {xs : List PV} {lo hi : Option Int} : (slcM (.tup xs) lo hi h).sat Q E = Q (.tup (cutP xs lo hi)) h := by
  rw [show slcM (.tup xs) lo hi h = Res.ok (.tup (cutP xs lo hi)) h from rfl, sat_ok]
theorem ltch_sp {n : Nat} {l : List Nm} (e : lget h n = some (l.map PV.str)) (s t : Stp) (ot : okS t) (hg : (grp s = 0 ∧ grp t = 0 ∧ l = kA) ∨ (grp s = 1 ∧ grp t = 1 ∧ l = kD)) : (F__law_touches [.ref n, enc s, enc t] h).sat (fun v h' => v = .bl (tch s t) ∧ h' = h) noE := by
  refine sat__law_touches ?_
  unfold c__law_touches
  rcases hg with ⟨g1, g2, rfl⟩ | ⟨g1, g2, rfl⟩
  · cases s <;> simp [grp] at g1 <;> cases t <;> simp [grp] at g2 <;> simp [v_ix_l e, kdn, tch] <;> simp [enc] <;> (try (simp [cutP, HT.sIx]; done))
    · rename_i a b _ c
      by_cases h1 : a = b <;> by_cases h2 : a = c <;> simp [h1, h2]
    · rw [add_p ot.1 ot.2]; simp
  · cases s <;> simp [grp] at g1 <;> cases t <;> simp [grp] at g2 <;> simp [v_ix_l e, kdn, tch] <;> simp [enc] <;> (try (simp [cutP, HT.sIx]; done))
    · rw [add_p ot.1 ot.2]; simp
end
end K48
namespace K48
open PySem FL
section
variable {h : MH} {Q : PV → MH → Prop} {E : Exc → MH → Prop}
theorem kH_0 : lget (kH h) h.length = some (kA.map PV.str) := by
  unfold kH lget
  rw [List.getElem?_append_right (Nat.le_refl _), Nat.sub_self]; rfl
theorem kH_1 : lget (kH h) (h.length + 1) = some (kD.map PV.str) := by
  unfold kH lget
  rw [List.getElem?_append_right (by omega), Nat.add_sub_cancel_left]; rfl
theorem kH_2 : lget (kH h) (h.length + 2) = some [.ref h.length, .ref (h.length + 1)] := by
  unfold kH lget
  rw [List.getElem?_append_right (by omega), Nat.add_sub_cancel_left]; rfl
theorem in_kA {s : Stp} : (cmpM .In (.str (kdn s)) (.ref h.length) (kH h)).sat Q E = Q (.bl (isA s)) (kH h) := by rw [v_in_sl kA kH_0, mem_kA]
theorem in_kD {s : Stp} : (cmpM .In (.str (kdn s)) (.ref (h.length + 1)) (kH h)).sat Q E = Q (.bl (isD s)) (kH h) := by rw [v_in_sl kD kH_1, mem_kD]
theorem kH_kept : Kept [] h (kH h) := (Kept.refl [] h).app _
theorem ltwo {n : Nat} {l : List Nm} (e : lget h n = some (l.map PV.str)) {s t : Stp} (os : okS s) (ot : okS t) (hst : s ≠ t) (hg : (grp s = 0 ∧ grp t = 0 ∧ l = kA) ∨ (grp s = 1 ∧ grp t = 1 ∧ l = kD)) {R : MH → Prop} (q : R h) :
    (F__law_touches [.ref n, enc s, enc t] h).sat (blK fun b h1 => if b = true then b = dep s t ∧ R h1 else (F__law_touches [.ref n, enc t, enc s] h1).sat (fun v h' => v = .bl (dep s t) ∧ R h') E) E := by
  have hd : grp s = grp t ∧ grp s < 2 := by omega
  rw [dep_in hst hd]
  refine sat_to (ltch_sp e s t ot hg) ?_
  rintro _ _ ⟨rfl, rfl⟩
  rw [blK_bl]
  cases ht : tch s t with
  | true => simpa using q
  | false =>
    simp only [Bool.false_eq_true, if_false]
    refine sat_to (ltch_sp e t s os (hg.imp (fun z => ⟨z.2.1, z.1, z.2.2⟩) fun z => ⟨z.2.1, z.1, z.2.2⟩)) ?_
    rintro _ _ ⟨rfl, rfl⟩
    simpa using q
theorem leans_sp {s t : Stp} (os : okS s) (ot : okS t) : (F__law_leans [enc s, enc t] h).sat (fun v h' => v = .bl (dep s t) ∧ Kept [] h h') noE := by
  refine sat__law_leans ?_
  unfold c__law_leans
  simp only [ws_ite, w_cmp, w_loc, ssat_cons, List.getElem?_cons_zero, List.getElem?_cons_succ, eq_e, blK_bl]
  by_cases hst : s = t
  · simp [hst, dep_eq, Kept.refl]
  · simp [hst, ws_for]
    refine sat_to (kinds_sp (h := h)) ?_
    rintro _ _ ⟨rfl, rfl⟩
    simp only [itK_ref, kH_2, Option.isSome_some, true_and]
    refine sat_forL kH_2 (I := fun i fr h2 => h2 = kH h ∧ (∃ x, fr = [some (enc s), some (enc t), x]) ∧ (0 < i → ¬(grp s = 0 ∧ grp t = 0)) ∧ (1 < i → ¬(grp s = 1 ∧ grp t = 1))) ⟨rfl, ⟨_, rfl⟩, fun z => absurd z (by omega), fun z => absurd z (by omega)⟩ (fun i fr h2 q => by rw [q.1]; exact kH_2) ?_ ?_
    · rintro i x fr h2 hx ⟨rfl, ⟨y, rfl⟩, q0, q1⟩
      refine ⟨_, rfl, ?_⟩
      have hi : i = 0 ∨ i = 1 := by
        have := (List.getElem?_eq_some_iff.mp hx).1
        simp at this
        omega
      rcases hi with rfl | rfl
      · simp at hx
        subst hx
        rcases grp3 s with ⟨g1, a1, d1⟩ | ⟨g1, a1, d1⟩ | ⟨g1, a1, d1⟩ <;> rcases grp3 t with ⟨g2, a2, d2⟩ | ⟨g2, a2, d2⟩ | ⟨g2, a2, d2⟩ <;> simp [in_kA, a1, a2, g1, g2]
        exact ltwo kH_0 os ot hst (.inl ⟨g1, g2, rfl⟩) kH_kept
      · simp at hx
        subst hx
        rcases grp3 s with ⟨g1, a1, d1⟩ | ⟨g1, a1, d1⟩ | ⟨g1, a1, d1⟩ <;> rcases grp3 t with ⟨g2, a2, d2⟩ | ⟨g2, a2, d2⟩ | ⟨g2, a2, d2⟩ <;> simp [in_kD, d1, d2, g1, g2] <;> (try (simp [g1, g2] at q0; done))
        exact ltwo kH_1 os ot hst (.inr ⟨g1, g2, rfl⟩) kH_kept
    · rintro fr h2 ⟨rfl, ⟨y, rfl⟩, q0, q1⟩
      simp
      refine ⟨?_, kH_kept⟩
      refine dep_out fun z => ?_
      simp at q0 q1
      omega
end
end K48
namespace K48
open PySem FL
/-- the mask of the places below k at which p holds -/
def msk (p : Nat → Bool) : Nat → Nat
  | 0 => 0
  | k + 1 => msk p k + if p k then 2 ^ k else 0
/-- what stands before the place j and leans on it -/
def bef (w : List Stp) (j i : Nat) : Bool := match w[i]?, w[j]? with
  | some s, some t => dep s t
  | _, _ => false
def need (w : List Stp) (j : Nat) : Nat := msk (bef w j) j
theorem msk_succ (p : Nat → Bool) (k : Nat) : msk p (k + 1) = msk p k + if p k then 2 ^ k else 0 := rfl
def iL (l : List Nat) : List PV := l.map fun (k : Nat) => PV.int k
section
variable {h : MH} {Q : PV → MH → Prop} {E : Exc → MH → Prop}
theorem nats_at {n k : Nat} {x : PV} (e : (nats 0 n)[k]? = some x) : x = .int (k : Nat) ∧ k < n := by
  rw [nats_get] at e
  split at e
  · rename_i hk
    simp only [Option.some.injEq] at e
    exact ⟨by rw [← e]; simp, hk⟩
  · cases e
theorem nats_len : ∀ (n : Nat) (i : Int), (nats i n).length = n
  | 0, _ => by simp [nats]
  | n + 1, i => by simp [nats, nats_len n]
theorem befores_sp {n : Nat} {w : List Stp} (e : lget h n = some (w.map enc)) (hw : w.length ≤ 1000) : (F_befores [.ref n] h).sat (fun v h' => v = .ref h.length ∧ Kept [] h h' ∧ h'[h.length]? = some (.lst (iL ((List.range w.length).map (need w))))) noE := by
  refine sat_befores ?_
  unfold c_befores
  simp [ws_for]
  have e1 : lget (h ++ [.lst []]) n = some (w.map enc) := ((Kept.refl [] h).app _).lget e (by simp)
  refine ⟨by rw [e1]; rfl, ?_⟩
  refine sat_forE e1 (fun i fr h2 => Kept [] h h2 ∧ h2[h.length]? = some (.lst (iL ((List.range i).map (need w)))) ∧ ∃ a b c d, fr = [some (.ref n), some (.ref h.length), a, b, c, d]) ⟨(Kept.refl [] h).app _, by simp [iL], _, _, _, _, rfl⟩ (fun i fr h2 q => q.1.lget e (by simp)) ?_ ?_
  · rintro i x fr h2 hx ⟨k1, k2, a, b, c, d, rfl⟩
    have hi : i < w.length := by simpa using (List.getElem?_eq_some_iff.mp hx).1
    simp only [List.getElem?_map] at hx
    have e2 : lget h2 n = some (w.map enc) := k1.lget e (by simp)
    refine ⟨_, rfl, ?_⟩
    simp [ws_for]
    refine ⟨by unfold okR; simp; omega, ?_⟩
    refine sat_forS (fun k fr h3 => h3 = h2 ∧ ∃ d, fr = [some (.ref n), some (.ref h.length), some (.int (i : Nat)), some x, some (.int (msk (bef w i) k : Nat)), d]) ⟨rfl, d, by simp [msk]⟩ ?_ ?_
    · rintro k y fr h3 hy ⟨rfl, d, rfl⟩
      obtain ⟨rfl, hk⟩ := nats_at hy
      refine ⟨_, rfl, ?_⟩
      have hkw : k < w.length := by omega
      rw [List.getElem?_eq_getElem hi] at hx
      cases hx
      simp [v_ix_l e2, atI_nat, hkw]
      refine dep_sp _ _ ?_
      have eb : bef w i k = dep w[k] w[i] := by simp [bef, hkw, hi]
      rw [blK_bl, msk_succ, eb]
      cases dep w[k] w[i] with
      | false => simp
      | true =>
        simp only [if_true]
        rw [v_shl_i ⟨by omega, by omega, by decide⟩]
        simp
    · rintro fr h3 ⟨rfl, d, rfl⟩
      simp [kind_l (lget_lst k2), wl_lst k2, nats_len]
      refine ⟨by unfold iL big; simp; omega, k1.setNew (Nat.le_refl _) _, ?_⟩
      have hlt : h.length < h3.length := (List.getElem?_eq_some_iff.mp k2).1
      simp [hlt, List.range_succ, iL, need]
  · rintro fr h2 ⟨k1, k2, a, b, c, d, rfl⟩
    simp [k1]
    simpa using k2
end
end K48
namespace K48
open PySem FL
/-! ### masks -/
theorem band (a b : Nat) : Builtin.bitAnd (a : Int) (b : Int) = ((a &&& b : Nat) : Int) := by
  unfold Builtin.bitAnd
  simp [Spec.bitAnd]
theorem msk_lt (p : Nat → Bool) : ∀ k, msk p k < 2 ^ k
  | 0 => by simp [msk]
  | k + 1 => by
    have := msk_lt p k
    rw [msk_succ, Nat.pow_succ]
    split <;> omega
theorem bit_msk (p : Nat → Bool) : ∀ k i, (msk p k).testBit i = (decide (i < k) && p i)
  | 0, i => by simp [msk]
  | k + 1, i => by
    have hl := msk_lt p k
    rw [msk_succ]
    rcases Nat.lt_trichotomy i k with h | h | h
    · have e : (decide (i < k + 1) && p i) = p i := by simp; omega
      rw [e]
      have ih := bit_msk p k i
      rw [show (decide (i < k) && p i) = p i by simp [h]] at ih
      split
      · rw [Nat.add_comm, Nat.testBit_two_pow_add_gt h]; exact ih
      · simpa using ih
    · subst h
      have ih := bit_msk p i i
      simp at ih
      split
      · rename_i hp
        rw [Nat.add_comm, Nat.testBit_two_pow_add_eq, ih]; simp [hp]
      · rename_i hp
        simp [ih, hp]
    · have e : (decide (i < k + 1) && p i) = false := by simp; omega
      rw [e]
      have hm := msk_lt p (k + 1)
      rw [msk_succ] at hm
      exact Nat.testBit_lt_two_pow (Nat.lt_of_lt_of_le hm (Nat.pow_le_pow_right (by omega) (by omega)))
theorem bit_add {m p : Nat} (h : m.testBit p = false) (i : Nat) : (m + 2 ^ p).testBit i = (m.testBit i || decide (i = p)) := by
  have hm : m % 2 ^ (p + 1) < 2 ^ p := by
    have h1 : m % 2 ^ (p + 1) < 2 ^ (p + 1) := Nat.mod_lt _ (Nat.two_pow_pos _)
    have h2 : (m % 2 ^ (p + 1)).testBit p = false := by rw [Nat.testBit_mod_two_pow]; simp [h]
    rcases Nat.lt_or_ge (m % 2 ^ (p + 1)) (2 ^ p) with z | z
    · exact z
    · have e : m % 2 ^ (p + 1) = 2 ^ p + (m % 2 ^ (p + 1) - 2 ^ p) := by omega
      have l : m % 2 ^ (p + 1) - 2 ^ p < 2 ^ p := by rw [Nat.pow_succ] at h1; omega
      rw [e, Nat.testBit_two_pow_add_eq, Nat.testBit_lt_two_pow l] at h2
      simp at h2
  have e0 := Nat.div_add_mod m (2 ^ (p + 1))
  generalize m % 2 ^ (p + 1) = r at *
  generalize m / 2 ^ (p + 1) = q at *
  subst e0
  have hr : r < 2 ^ (p + 1) := by rw [Nat.pow_succ]; omega
  have hr2 : 2 ^ p + r < 2 ^ (p + 1) := by rw [Nat.pow_succ]; omega
  rw [show 2 ^ (p + 1) * q + r + 2 ^ p = 2 ^ (p + 1) * q + (2 ^ p + r) by omega, Nat.testBit_two_pow_mul_add _ hr2, Nat.testBit_two_pow_mul_add _ hr]
  rcases Nat.lt_trichotomy i p with z | z | z
  · rw [if_pos (by omega), if_pos (by omega), Nat.testBit_two_pow_add_gt z]
    simp; omega
  · subst z
    rw [if_pos (by omega), if_pos (by omega), Nat.testBit_two_pow_add_eq, Nat.testBit_lt_two_pow hm]; simp
  · rw [if_neg (by omega), if_neg (by omega)]
    simp; omega
/-- the place at is open behind the mask m -/
def fre (w : List Stp) (m at' : Nat) : Bool := !m.testBit at' && (List.range at').all fun i => !bef w at' i || m.testBit i
theorem t_bit (m a : Nat) : decide (Builtin.bitAnd ((m : Int) / 2 ^ ((a : Int)).toNat) 1 = 0) = !m.testBit a := by
  have e : ((m : Int) / 2 ^ ((a : Int)).toNat) = ((m / 2 ^ a : Nat) : Int) := by simp
  rw [e, show (1 : Int) = ((1 : Nat) : Int) from rfl, band, Nat.testBit_eq_decide_div_mod_eq, Nat.and_one_is_mod]
  have := Nat.mod_two_eq_zero_or_one (m / 2 ^ a)
  rcases this with z | z <;> simp [z]
theorem t_need (w : List Stp) (m a : Nat) : decide (Builtin.bitAnd (m : Int) (need w a : Nat) = (need w a : Nat)) = (List.range a).all fun i => !bef w a i || m.testBit i := by
  rw [band]
  by_cases h : (List.range a).all (fun i => !bef w a i || m.testBit i) = true
  · rw [h]
    refine decide_eq_true ?_
    have : m &&& need w a = need w a := by
      apply Nat.eq_of_testBit_eq
      intro i
      rw [Nat.testBit_and]
      unfold need
      rw [bit_msk]
      by_cases hi : i < a
      · have := List.all_eq_true.mp h i (List.mem_range.mpr hi)
        cases hb : bef w a i with
        | true => rw [hb] at this; simp at this; simp [this]
        | false => simp
      · simp [hi]
    rw [this]
  · rw [Bool.not_eq_true] at h
    rw [h]
    refine decide_eq_false fun z => ?_
    have z' : m &&& need w a = need w a := by exact_mod_cast z
    obtain ⟨i, hi, hx⟩ := List.all_eq_false.mp h
    rw [List.mem_range] at hi
    have q := congrArg (fun x => x.testBit i) z'
    simp only [Nat.testBit_and] at q
    unfold need at q
    rw [bit_msk] at q
    simp only [hi, decide_true, Bool.true_and, Bool.not_eq_true, Bool.or_eq_false_iff, Bool.not_eq_false'] at q hx
    rw [hx.1, hx.2] at q
    simp at q
end K48
namespace K48
open PySem FL PySem.W PyProof.Rows
/-! ### the order of steps -/
theorem softs_s : ∀ p q : List Nm, softs (p.map fun a => .str (S a)) (q.map fun a => .str (S a)) = true
  | [], _ => by simp [softs]
  | _ :: _, [] => by simp [softs]
  | a :: p, b :: q => by simp [softs, soft, softs_s p q]
@[simp] theorem soft_dps {p q : List Nm} : soft (dps p) (dps q) = true := by unfold dps; simp [soft, softs_s]
theorem soft_dat (s t : Stp) : soft (dat s) (dat t) = true := by cases s <;> cases t <;> simp [dat, soft, softs]
theorem toks_inj {d e : PyData} (h : soft d e = true) (k : keyToks d = keyToks e) : PyData.eqv d e = true := by
  cases q : PyData.eqv d e with
  | true => rfl
  | false =>
    have z := (sft_toks d e h).2 q [.inl 0] [.inl 1]
    rw [k] at z
    simp only [LX] at z
    rw [lex_pre, lex_irrefl] at z
    rw [lex_diff (O := itemOrd) (by simp)] at z
    simp [itemLt] at z
def slt (s t : Stp) : Bool := dataLt (dat s) (dat t)
theorem slt_irr (s : Stp) : slt s s = false := lex_irrefl _
theorem slt_trans {s t u : Stp} (h1 : slt s t = true) (h2 : slt t u = true) : slt s u = true := lex_trans _ _ _ h1 h2
theorem slt_tot {s t : Stp} (h1 : slt s t = false) (h2 : slt t s = false) : s = t := by
  have k := lex_total (O := itemOrd) _ _ h1 h2
  have := toks_inj (soft_dat s t) k
  rw [eqv_e] at this
  simpa using this
theorem slt_asym {s t : Stp} (h : slt s t = true) : slt t s = false := by
  cases q : slt t s with
  | false => rfl
  | true => have := slt_trans h q; rw [slt_irr] at this; cases this
def stp (w : List Stp) (p : Nat) : Stp := w.getD p (.addT [])
/-- the pair that is sorted -/
def kdat (w : List Stp) (p : Nat) : PyData := .tuple [dat (stp w p), .int p]
def ple (w : List Stp) (p q : Nat) : Bool := !dataLt (kdat w q) (kdat w p)
theorem soft_k (w : List Stp) (p q : Nat) : soft (kdat w p) (kdat w q) = true := by simp [kdat, soft, softs, soft_dat]
theorem klt (w : List Stp) (p q : Nat) : dataLt (kdat w p) (kdat w q) = if stp w p = stp w q then decide (p < q) else slt (stp w p) (stp w q) := by
  unfold kdat
  rw [dataLt_tuple]
  show LX _ _ = _
  by_cases h : stp w p = stp w q
  · rw [sft_yes (soft_dat _ _) (by rw [eqv_e]; exact decide_eq_true h), if_pos h]
    by_cases h2 : p = q
    · subst h2
      rw [sft_yes (by simp [soft]) (by simp)]
      simp [LX, lex_irrefl]
    · rw [sft_no (by simp [soft]) (by simp; omega), dataLt_int]
      simp
  · rw [sft_no (soft_dat _ _) (by rw [eqv_e]; exact decide_eq_false h), if_neg h]; rfl
theorem ple_trans (w : List Stp) (a b c : Nat) (h1 : ple w a b = true) (h2 : ple w b c = true) : ple w a c = true := by
  unfold ple at *
  simp only [Bool.not_eq_true'] at *
  cases q : dataLt (kdat w c) (kdat w a) with
  | false => rfl
  | true =>
    rcases (listOrd itemOrd).negTrans (keyToks (kdat w c)) (keyToks (kdat w b)) (keyToks (kdat w a)) q with z | z
    · rw [show dataLt (kdat w c) (kdat w b) = true from z] at h2; cases h2
    · rw [show dataLt (kdat w b) (kdat w a) = true from z] at h1; cases h1
theorem ple_total (w : List Stp) (a b : Nat) : (ple w a b || ple w b a) = true := by
  unfold ple
  cases q : dataLt (kdat w b) (kdat w a) with
  | false => rfl
  | true =>
    have : dataLt (kdat w a) (kdat w b) = false := by
      cases q2 : dataLt (kdat w a) (kdat w b) with
      | false => rfl
      | true => have := lex_trans _ _ _ q q2; rw [show PyProof.Rows.lexLt itemOrd (keyToks (kdat w b)) (keyToks (kdat w b)) = false from lex_irrefl _] at this; cases this
    simp [this]
/-! ### open places, orders -/
def opn (w : List Stp) (R : List Nat) (p : Nat) : Bool := R.all fun q => !decide (q < p) || !dep (stp w q) (stp w p)
def sfre (w : List Stp) (R : List Nat) : List Nat := (R.filter (opn w R)).mergeSort (ple w)
theorem mem_sfre {w : List Stp} {R : List Nat} {p : Nat} : p ∈ sfre w R ↔ p ∈ R ∧ opn w R p = true := by
  unfold sfre
  rw [List.mem_mergeSort, List.mem_filter]
theorem opn_of {w : List Stp} {R : List Nat} {p : Nat} (h : opn w R p = true) {q : Nat} (hq : q ∈ R) (hl : q < p) : dep (stp w q) (stp w p) = false := by
  have := List.all_eq_true.mp h q hq
  simpa [hl] using this
/-- two open places do not hold equal steps -/
theorem opn_ne {w : List Stp} {R : List Nat} {p q : Nat} (hp : p ∈ R) (hq : q ∈ R) (op : opn w R p = true) (oq : opn w R q = true) (h : p ≠ q) : stp w p ≠ stp w q := by
  intro e
  rcases Nat.lt_or_gt_of_ne h with z | z
  · have := opn_of oq hp z
    rw [e, dep_eq] at this; cases this
  · have := opn_of op hq z
    rw [e, dep_eq] at this; cases this
/-- sorted, each less than the next -/
theorem sfre_sorted {w : List Stp} {R : List Nat} (hR : R.Nodup) : (sfre w R).Pairwise fun p q => slt (stp w p) (stp w q) = true := by
  have h1 : (sfre w R).Pairwise fun p q => ple w p q = true := List.pairwise_mergeSort (ple_trans w) (ple_total w) _
  have h2 : (sfre w R).Nodup := (List.mergeSort_perm _ _).nodup_iff.mpr (hR.filter _)
  have h3 : (sfre w R).Pairwise fun p q => p ∈ sfre w R ∧ q ∈ sfre w R := List.pairwise_of_forall_mem_list fun a ha b hb => ⟨ha, hb⟩
  refine ((h1.and h2).and h3).imp fun {p q} ⟨⟨a, b⟩, c, d⟩ => ?_
  obtain ⟨c1, c2⟩ := mem_sfre.mp c
  obtain ⟨d1, d2⟩ := mem_sfre.mp d
  have ne := opn_ne c1 d1 c2 d2 b
  unfold ple at a
  rw [klt, if_neg (Ne.symm ne)] at a
  cases q1 : slt (stp w p) (stp w q) with
  | true => rfl
  | false => exact absurd (slt_tot q1 (by simpa using a)) ne
/-- all orders, the least first -/
def ordV (w : List Stp) : Nat → List Nat → List (List Stp)
  | 0, _ => [[]]
  | n + 1, R => (sfre w R).flatMap fun p => (ordV w n (R.erase p)).map (stp w p :: ·)
abbrev ords (w : List Stp) (R : List Nat) : List (List Stp) := ordV w R.length R
theorem mem_ord {w : List Stp} {n : Nat} {R : List Nat} {o : List Stp} : o ∈ ordV w (n + 1) R ↔ ∃ p o', p ∈ R ∧ opn w R p = true ∧ o' ∈ ordV w n (R.erase p) ∧ o = stp w p :: o' := by
  show o ∈ (sfre w R).flatMap _ ↔ _
  rw [List.mem_flatMap]
  constructor
  · rintro ⟨p, hp, h⟩
    obtain ⟨o', ho, rfl⟩ := List.mem_map.mp h
    exact ⟨p, o', (mem_sfre.mp hp).1, (mem_sfre.mp hp).2, ho, rfl⟩
  · rintro ⟨p, o', h1, h2, h3, rfl⟩
    exact ⟨p, mem_sfre.mpr ⟨h1, h2⟩, List.mem_map.mpr ⟨o', h3, rfl⟩⟩
def cnt (w : List Stp) (R : List Nat) : Nat := (ords w R).length
theorem cnt_nil (w : List Stp) : cnt w [] = 1 := rfl
theorem cnt_step (w : List Stp) {R : List Nat} (h : R ≠ []) : cnt w R = ((R.filter (opn w R)).map fun p => cnt w (R.erase p)).sum := by
  obtain ⟨n, hn⟩ : ∃ n, R.length = n + 1 := ⟨R.length - 1, by have := List.length_pos_iff.mpr h; omega⟩
  have e : cnt w R = ((sfre w R).map fun p => (ordV w n (R.erase p)).length).sum := by
    unfold cnt ords
    rw [hn]
    show ((sfre w R).flatMap _).length = _
    rw [List.length_flatMap]
    congr 1
    exact List.map_congr_left fun p hp => by simp
  rw [e]
  have e2 : (sfre w R).map (fun p => (ordV w n (R.erase p)).length) = (sfre w R).map fun p => cnt w (R.erase p) := List.map_congr_left fun p hp => by
    unfold cnt ords
    rw [List.length_erase_of_mem (mem_sfre.mp hp).1, hn]; rfl
  rw [e2]
  exact ((List.mergeSort_perm _ _).map _).sum_nat
end K48
namespace K48
open PySem FL PySem.W PyProof.Rows
/-! ### swaps -/
def Sw (a b : List Stp) : Prop := ∃ (x y : Stp) (u v : List Stp), a = u ++ x :: y :: v ∧ b = u ++ y :: x :: v ∧ dep x y = false
inductive Rch : List Stp → List Stp → Prop
  | refl (a : List Stp) : Rch a a
  | step {a b c : List Stp} (h : Rch a b) (s : Sw b c) : Rch a c
theorem Rch.trans {a b c : List Stp} (h : Rch a b) (k : Rch b c) : Rch a c := by
  induction k with
  | refl => exact h
  | step _ s ih => exact .step ih s
theorem Sw.cons {a b : List Stp} (h : Sw a b) (z : Stp) : Sw (z :: a) (z :: b) := by
  obtain ⟨x, y, u, v, rfl, rfl, d⟩ := h
  exact ⟨x, y, z :: u, v, rfl, rfl, d⟩
theorem Rch.cons {a b : List Stp} (h : Rch a b) (z : Stp) : Rch (z :: a) (z :: b) := by
  induction h with
  | refl => exact .refl _
  | step _ s ih => exact .step ih (s.cons z)
theorem rch_front {x : Stp} {B : List Stp} : ∀ {A : List Stp}, (∀ a ∈ A, dep a x = false) → Rch (A ++ x :: B) (x :: (A ++ B))
  | [], _ => .refl _
  | a :: A, h => by
    have ih := (rch_front (A := A) (B := B) fun b hb => h b (List.mem_cons_of_mem _ hb)).cons a
    exact .step ih ⟨a, x, [], A ++ B, rfl, rfl, h a (List.mem_cons_self ..)⟩
theorem opn_sub {w : List Stp} {R T : List Nat} {p : Nat} (h : opn w R p = true) (hs : ∀ q ∈ T, q ∈ R) : opn w T p = true := List.all_eq_true.mpr fun q hq => List.all_eq_true.mp h q (hs q hq)
theorem ord_swap {w : List Stp} : ∀ {n : Nat} {R : List Nat} {u v : List Stp} {x y : Stp}, R.Nodup → dep x y = false → u ++ x :: y :: v ∈ ordV w n R → u ++ y :: x :: v ∈ ordV w n R
  | 0, R, u, v, x, y, _, _, h => by
    simp [ordV] at h
  | n + 1, R, z :: u, v, x, y, hR, d, h => by
    obtain ⟨p, o', h1, h2, h3, e⟩ := mem_ord.mp h
    simp only [List.cons_append, List.cons.injEq] at e
    obtain ⟨rfl, rfl⟩ := e
    exact mem_ord.mpr ⟨p, _, h1, h2, ord_swap (hR.erase p) d h3, rfl⟩
  | n + 1, R, [], v, x, y, hR, d, h => by
    obtain ⟨p, o', h1, h2, h3, e⟩ := mem_ord.mp h
    simp only [List.nil_append, List.cons.injEq] at e
    obtain ⟨rfl, rfl⟩ := e
    cases n with
    | zero => simp [ordV] at h3
    | succ m =>
      obtain ⟨q, o2, k1, k2, k3, e⟩ := mem_ord.mp h3
      simp only [List.cons.injEq] at e
      obtain ⟨rfl, rfl⟩ := e
      have hqp : q ≠ p := fun z => by
        subst z
        exact hR.not_mem_erase k1
      have hq : q ∈ R := List.mem_of_mem_erase k1
      refine mem_ord.mpr ⟨q, _, hq, List.all_eq_true.mpr fun r hr => ?_, mem_ord.mpr ⟨p, _, (List.mem_erase_of_ne (Ne.symm hqp)).mpr h1, opn_sub h2 fun r hr => List.mem_of_mem_erase hr, ?_, rfl⟩, rfl⟩
      · by_cases hrp : r = p
        · subst hrp; rw [d]; simp
        · exact List.all_eq_true.mp k2 r ((List.mem_erase_of_ne hrp).mpr hr)
      · rw [List.erase_comm]; exact k3
theorem erase_split {A B : List Nat} {p : Nat} (h : p ∉ A) : (A ++ p :: B).erase p = A ++ B := by
  rw [List.erase_append_right _ h, List.erase_cons_head]
theorem ord_reach {w : List Stp} : ∀ {n : Nat} {R : List Nat} {o : List Stp}, R.length = n → R.Pairwise (· < ·) → o ∈ ordV w n R → Rch (R.map (stp w)) o
  | 0, R, o, hn, _, h => by
    have : R = [] := List.length_eq_zero_iff.mp hn
    subst this
    simp [ordV] at h
    subst h
    exact .refl _
  | n + 1, R, o, hn, hs, h => by
    obtain ⟨p, o', h1, h2, h3, rfl⟩ := mem_ord.mp h
    obtain ⟨A, B, rfl⟩ := List.append_of_mem h1
    have hs' := List.pairwise_append.mp hs
    have hA : ∀ a ∈ A, a < p := fun a ha => hs'.2.2 a ha p (List.mem_cons_self ..)
    have hpA : p ∉ A := fun z => Nat.lt_irrefl _ (hA p z)
    rw [erase_split hpA] at h3
    have ih := ord_reach (R := A ++ B) (by simp at hn ⊢; omega) (List.pairwise_append.mpr ⟨hs'.1, (List.pairwise_cons.mp hs'.2.1).2, fun a ha b hb => hs'.2.2 a ha b (List.mem_cons_of_mem _ hb)⟩) h3
    refine Rch.trans ?_ (ih.cons _)
    rw [List.map_append, List.map_cons, List.map_append]
    refine rch_front fun a ha => ?_
    obtain ⟨q, hq, rfl⟩ := List.mem_map.mp ha
    exact opn_of h2 (List.mem_append_left _ hq) (hA q hq)
theorem ord_self {w : List Stp} : ∀ {n : Nat} {R : List Nat}, R.length = n → R.Pairwise (· < ·) → R.map (stp w) ∈ ordV w n R
  | 0, R, hn, _ => by
    have : R = [] := List.length_eq_zero_iff.mp hn
    subst this
    simp [ordV]
  | n + 1, [], hn, _ => by simp at hn
  | n + 1, p :: R, hn, hs => by
    have hs' := List.pairwise_cons.mp hs
    refine mem_ord.mpr ⟨p, R.map (stp w), List.mem_cons_self .., List.all_eq_true.mpr fun q hq => ?_, ?_, rfl⟩
    · have : ¬ q < p := by
        rcases List.mem_cons.mp hq with rfl | z
        · omega
        · have := hs'.1 q z; omega
      simp [this]
    · rw [List.erase_cons_head]
      exact ord_self (by simpa using hn) hs'.2
/-! ### the order of lists -/
def ldat (a : List Stp) : PyData := .list (a.map dat)
def llt (a b : List Stp) : Bool := dataLt (ldat a) (ldat b)
theorem softs_dat : ∀ a b : List Stp, softs (a.map dat) (b.map dat) = true
  | [], _ => by simp [softs]
  | _ :: _, [] => by simp [softs]
  | s :: a, t :: b => by simp [softs, soft_dat, softs_dat a b]
theorem soft_ldat (a b : List Stp) : soft (ldat a) (ldat b) = true := by unfold ldat; simp [soft, softs_dat]
theorem llt_cons (s t : Stp) (a b : List Stp) : llt (s :: a) (t :: b) = if s = t then llt a b else slt s t := by
  unfold llt ldat
  rw [dataLt_list, dataLt_list]
  show LX _ _ = _
  by_cases h : s = t
  · rw [if_pos h]
    exact sft_yes (soft_dat _ _) (by rw [eqv_e]; exact decide_eq_true h)
  · rw [if_neg h]
    exact sft_no (soft_dat _ _) (by rw [eqv_e]; exact decide_eq_false h)
theorem llt_irr (a : List Stp) : llt a a = false := lex_irrefl _
theorem llt_trans {a b c : List Stp} (h1 : llt a b = true) (h2 : llt b c = true) : llt a c = true := lex_trans _ _ _ h1 h2
theorem llt_asym {a b : List Stp} (h : llt a b = true) : llt b a = false := by
  cases q : llt b a with
  | false => rfl
  | true => have := llt_trans h q; rw [llt_irr] at this; cases this
theorem ord_sorted {w : List Stp} : ∀ {n : Nat} {R : List Nat}, R.Nodup → (ordV w n R).Pairwise fun a b => llt a b = true
  | 0, R, _ => by simp [ordV]
  | n + 1, R, hR => by
    show ((sfre w R).flatMap _).Pairwise _
    rw [List.pairwise_flatMap]
    refine ⟨fun p hp => ?_, (sfre_sorted hR).imp fun {p q} h x hx y hy => ?_⟩
    · rw [List.pairwise_map]
      exact (ord_sorted (hR.erase p)).imp fun {a b} h => by rw [llt_cons, if_pos rfl]; exact h
    · obtain ⟨a, _, rfl⟩ := List.mem_map.mp hx
      obtain ⟨b, _, rfl⟩ := List.mem_map.mp hy
      rw [llt_cons, if_neg (fun z => by rw [z, slt_irr] at h; cases h)]
      exact h
theorem sorted_eq : ∀ {l m : List (List Stp)}, l.Pairwise (fun a b => llt a b = true) → m.Pairwise (fun a b => llt a b = true) → (∀ x, x ∈ l ↔ x ∈ m) → l = m
  | [], [], _, _, _ => rfl
  | [], b :: m, _, _, h => absurd ((h b).mpr (List.mem_cons_self ..)) (by simp)
  | a :: l, [], _, _, h => absurd ((h a).mp (List.mem_cons_self ..)) (by simp)
  | a :: l, b :: m, hl, hm, h => by
    have l1 := List.pairwise_cons.mp hl
    have m1 := List.pairwise_cons.mp hm
    have hab : a = b := by
      rcases List.mem_cons.mp ((h a).mp (List.mem_cons_self ..)) with z | z
      · exact z
      · rcases List.mem_cons.mp ((h b).mpr (List.mem_cons_self ..)) with y | y
        · exact y.symm
        · have := llt_asym (m1.1 a z)
          rw [l1.1 b y] at this; cases this
    subst hab
    rw [sorted_eq l1.2 m1.2 fun x => ?_]
    constructor
    · intro hx
      rcases List.mem_cons.mp ((h x).mp (List.mem_cons_of_mem _ hx)) with z | z
      · subst z; have := l1.1 x hx; rw [llt_irr] at this; cases this
      · exact z
    · intro hx
      rcases List.mem_cons.mp ((h x).mpr (List.mem_cons_of_mem _ hx)) with z | z
      · subst z; have := m1.1 x hx; rw [llt_irr] at this; cases this
      · exact z
def fac : Nat → Nat
  | 0 => 1
  | n + 1 => (n + 1) * fac n
theorem sum_le {l : List Nat} {f : Nat → Nat} {c : Nat} (h : ∀ x ∈ l, f x ≤ c) : (l.map f).sum ≤ l.length * c := by
  induction l with
  | nil => simp
  | cons a l ih =>
    have h1 := h a (List.mem_cons_self ..)
    have h2 := ih fun x hx => h x (List.mem_cons_of_mem _ hx)
    simp only [List.map_cons, List.sum_cons, List.length_cons, Nat.add_mul, Nat.one_mul]
    omega
theorem ord_len {w : List Stp} : ∀ {n : Nat} {R : List Nat}, R.length = n → (ordV w n R).length ≤ fac n
  | 0, R, _ => by simp [ordV, fac]
  | n + 1, R, hn => by
    show ((sfre w R).flatMap _).length ≤ _
    rw [List.length_flatMap]
    have h1 : (sfre w R).length ≤ n + 1 := by
      unfold sfre
      rw [List.length_mergeSort, ← hn]
      exact List.length_filter_le _ _
    have h2 := sum_le (l := sfre w R) (f := fun p => ((ordV w n (R.erase p)).map (stp w p :: ·)).length) (c := fac n) fun p hp => by
      rw [List.length_map]
      exact ord_len (by rw [List.length_erase_of_mem (mem_sfre.mp hp).1, hn]; rfl)
    exact Nat.le_trans h2 (Nat.mul_le_mul_right _ h1)
theorem ord_item {w : List Stp} : ∀ {n : Nat} {R : List Nat} {o : List Stp}, o ∈ ordV w n R → o.length = n
  | 0, R, o, h => by simp [ordV] at h; simp [h]
  | n + 1, R, o, h => by
    obtain ⟨p, o', _, _, h3, rfl⟩ := mem_ord.mp h
    simp [ord_item h3]
theorem rch_ord {w : List Stp} {R : List Nat} (hR : R.Pairwise (· < ·)) {a : List Stp} (h : Rch (R.map (stp w)) a) : a ∈ ords w R := by
  have nd : R.Nodup := hR.imp fun h => Nat.ne_of_lt h
  induction h with
  | refl => exact ord_self rfl hR
  | step _ s ih =>
    obtain ⟨x, y, u, v, rfl, rfl, d⟩ := s
    exact ord_swap nd d ih
/-- all that swaps lead to, sorted -/
theorem closed_eq {w : List Stp} {R : List Nat} {l : List (List Stp)} (hR : R.Pairwise (· < ·)) (h0 : R.map (stp w) ∈ l) (hc : ∀ a ∈ l, ∀ b, Sw a b → b ∈ l) (hsub : ∀ a ∈ l, Rch (R.map (stp w)) a) : ∀ x, x ∈ l ↔ x ∈ ords w R := by
  intro x
  constructor
  · exact fun hx => rch_ord hR (hsub x hx)
  · intro hx
    have := ord_reach rfl hR hx
    clear hx
    induction this with
    | refl => exact h0
    | step _ s ih => exact hc _ ih _ s
end K48
namespace K48
open PySem FL PySem.W PyProof.Rows
/-- the places that the mask leaves -/
def U (n m : Nat) : List Nat := (List.range n).filter fun i => !m.testBit i
theorem U_lt {n m : Nat} : ∀ p ∈ U n m, p < n := fun p hp => List.mem_range.mp (List.mem_filter.mp hp).1
theorem U_sorted (n m : Nat) : (U n m).Pairwise (· < ·) := (List.pairwise_lt_range).filter _
theorem U_nodup (n m : Nat) : (U n m).Nodup := (U_sorted n m).imp fun h => Nat.ne_of_lt h
theorem mem_U {n m p : Nat} : p ∈ U n m ↔ p < n ∧ m.testBit p = false := by simp [U]
theorem stp_get {w : List Stp} {p : Nat} (h : p < w.length) : w[p]? = some (stp w p) := by simp [stp, h]
theorem bef_eq {w : List Stp} {a i : Nat} (ha : a < w.length) (hi : i < w.length) : bef w a i = dep (stp w i) (stp w a) := by
  unfold bef; rw [stp_get ha, stp_get hi]
theorem fre_opn {w : List Stp} {m p : Nat} (hp : p < w.length) : fre w m p = (decide (p ∈ U w.length m) && opn w (U w.length m) p) := by
  unfold fre
  by_cases h : m.testBit p = true
  · have : p ∉ U w.length m := fun z => by rw [(mem_U.mp z).2] at h; cases h
    simp [h, this]
  · rw [Bool.not_eq_true] at h
    have : p ∈ U w.length m := mem_U.mpr ⟨hp, h⟩
    rw [h, decide_eq_true this, Bool.not_false, Bool.true_and, Bool.true_and]
    rw [Bool.eq_iff_iff]
    constructor
    · intro hx
      refine List.all_eq_true.mpr fun q hq => ?_
      by_cases hl : q < p
      · have := List.all_eq_true.mp hx q (List.mem_range.mpr hl)
        rw [bef_eq hp (Nat.lt_trans hl hp), (mem_U.mp hq).2] at this
        simpa [hl] using this
      · simp [hl]
    · intro hx
      refine List.all_eq_true.mpr fun i hi => ?_
      rw [List.mem_range] at hi
      rw [bef_eq hp (Nat.lt_trans hi hp)]
      cases ht : m.testBit i with
      | true => simp
      | false =>
        have := opn_of hx (mem_U.mpr ⟨Nat.lt_trans hi hp, ht⟩) hi
        simp [this]
theorem fre_filter (w : List Stp) (m : Nat) : (List.range w.length).filter (fre w m) = (U w.length m).filter (opn w (U w.length m)) := by
  unfold U
  rw [List.filter_filter]
  refine List.filter_congr fun p hp => ?_
  rw [fre_opn (List.mem_range.mp hp)]
  show _ = (opn w (U w.length m) p && !m.testBit p)
  rw [Bool.and_comm]
  congr 1
  by_cases h : m.testBit p = true
  · have : p ∉ U w.length m := fun z => by rw [(mem_U.mp z).2] at h; cases h
    simp [h, this]
  · rw [Bool.not_eq_true] at h
    have : p ∈ U w.length m := mem_U.mpr ⟨List.mem_range.mp hp, h⟩
    simp [h, this]
theorem U_add {n m p : Nat} (h : p ∈ U n m) : U n (m + 2 ^ p) = (U n m).erase p := by
  rw [(U_nodup n m).erase_eq_filter]
  unfold U
  rw [List.filter_filter]
  refine List.filter_congr fun i _ => ?_
  rw [bit_add (mem_U.mp h).2]
  by_cases hi : i = p <;> simp [hi]
def pr (w : List Stp) (p : Nat) : PV := .tup [enc (stp w p), .int p]
section
variable {h : MH} {Q : PV → MH → Prop} {E : Exc → MH → Prop}
/-- the two tests of an open place -/
theorem pairs_sort {w : List Stp} {l : List Nat} (hl : l.length ≤ 1000) {n : Nat} (e : lget h n = some (l.map (pr w))) : (bltM .sorted [.ref n] h).sat Q E = Q (.ref h.length) (h ++ [.lst ((l.mergeSort (ple w)).map (pr w))]) := by
  have es : snaps h (l.map (pr w)) = some (l.map (kdat w)) := mapO_map fun p _ => by
    show (mapO (snap h 59) [enc (stp w p), .int p]).map PyData.tuple = _
    simp [mapO_c, kdat]
  have ok : okSort (l.map (kdat w)) = true := by
    unfold okSort
    simp only [Bool.and_eq_true, Bool.or_eq_true, List.all_eq_true, List.mem_map]
    refine ⟨?_, .inl ?_⟩
    · rintro _ ⟨p, _, rfl⟩ _ ⟨q, _, rfl⟩
      exact soft_k w p q
    · rintro _ ⟨p, _, rfl⟩
      rfl
  have ez : (l.map (pr w)).zip (l.map (kdat w)) = l.map fun p => (pr w p, kdat w p) := by
    rw [List.zip_map']
  show (match lstOf h (.ref n) with
    | some xs => match snaps h xs with
      | some ds => if okSort ds && decide (xs.length ≤ big) then newL (sortP (xs.zip ds)) h else .bad
      | none => .bad
    | none => .bad).sat Q E = _
  rw [show lstOf h (.ref n) = lget h n from rfl, e]
  dsimp only
  rw [es]
  dsimp only
  rw [if_pos (by rw [ok]; simp; unfold big; omega)]
  show (Res.ok (PV.ref h.length) (h ++ [.lst (sortP _)])).sat Q E = _
  rw [sat_ok, ez]
  unfold sortP
  rw [← List.map_mergeSort (f := fun p => (pr w p, kdat w p)) (r := ple w) (s := dataLe false Prod.snd) (fun a _ b _ => rfl), List.map_map]
  rfl
theorem free_sp {n1 n2 m : Nat} {w : List Stp} (hw : w.length ≤ 1000) (e1 : lget h n1 = some (w.map enc)) (e2 : lget h n2 = some (iL ((List.range w.length).map (need w)))) :
    (F_free_places [.ref n1, .ref n2, .int m] h).sat (fun v h' => ∃ r, v = .ref r ∧ Kept [] h h' ∧ h.length ≤ r ∧ h'[r]? = some (.lst (iL (sfre w (U w.length m))))) noE := by
  refine sat_free_places ?_
  unfold c_free_places
  simp [ws_for]
  have e1' : lget (h ++ [.lst []]) n1 = some (w.map enc) := ((Kept.refl [] h).app _).lget e1 (by simp)
  refine ⟨by rw [e1']; rfl, ?_⟩
  refine sat_forE e1' (fun i fr h2 => Kept [] h h2 ∧ h2[h.length]? = some (.lst (((List.range i).filter (fre w m)).map (pr w))) ∧ ∃ a b c, fr = [some (.ref n1), some (.ref n2), some (.int m), some (.ref h.length), a, b, c]) ⟨(Kept.refl [] h).app _, by simp, _, _, _, rfl⟩ (fun i fr h2 q => q.1.lget e1 (by simp)) ?_ ?_
  · rintro i x fr h2 hx ⟨k1, k2, a, b, c, rfl⟩
    have hi : i < w.length := by simpa using (List.getElem?_eq_some_iff.mp hx).1
    have ex : x = enc (stp w i) := by
      rw [List.getElem?_map, stp_get hi] at hx
      simpa using hx.symm
    subst ex
    have e3 : lget h2 n2 = some (iL ((List.range w.length).map (need w))) := k1.lget e2 (by simp)
    have e4 : (iL ((List.range w.length).map (need w)))[i]? = some (.int (need w i : Nat)) := by simp [iL, hi]
    refine ⟨_, rfl, ?_⟩
    have ht : ∀ K : Bool → MH → Prop, K (fre w m i) h2 → (evE G_befores (.bop true (.cons (.cmp .Eq (.bin .BitAnd (.bin .RShift (.loc 2) (.loc 4)) (.cst (.int 1))) (.cst (.int 0))) (.cons (.cmp .Eq (.bin .BitAnd (.loc 2) (.sub (.loc 1) (.loc 4))) (.sub (.loc 1) (.loc 4))) .nil))) [some (.ref n1), some (.ref n2), some (.int m), some (.ref h.length), some (.int i), some (enc (stp w i)), c] h2).sat (blK K) noE := fun K q => by
      simp
      rw [v_shr_i (by omega)]
      simp only [v_and_i, v_eq_i, blK_bl, t_bit, v_ix_l e3, atI_nat, e4, atK_some, t_need]
      unfold fre at q
      cases hb : m.testBit i with
      | true => rw [hb] at q; simpa using q
      | false => rw [hb] at q; simpa using q
    simp only [ssat_cons, ws_ite, ssat_nil]
    refine sat_mono (ht _ ?_) (fun _ _ z => z) fun _ _ z => z.elim
    have er : (List.range (i + 1)).filter (fre w m) = (List.range i).filter (fre w m) ++ if fre w m i then [i] else [] := by
      rw [List.range_succ, List.filter_append]; congr 1
      simp only [List.filter_cons, List.filter_nil]
    have hlt : h.length < h2.length := (List.getElem?_eq_some_iff.mp k2).1
    cases hf : fre w m i with
    | false => rw [hf] at er; simp [er, k1, k2]
    | true =>
      rw [hf] at er
      simp [kind_l (lget_lst k2), wl_lst k2]
      refine ⟨?_, k1.setNew (Nat.le_refl _) _, ?_⟩
      · have := List.length_filter_le (fre w m) (List.range i)
        rw [List.length_range] at this
        unfold big; omega
      · simp [hlt, er, pr]
  · rintro fr h2 ⟨k1, k2, a, b, c, rfl⟩
    simp [w_lc]
    have hl : ((List.range w.length).filter (fre w m)).length ≤ 1000 := by
      have := List.length_filter_le (fre w m) (List.range w.length)
      rw [List.length_range] at this
      omega
    rw [show (List.map enc w).length = w.length by simp] at k2
    rw [pairs_sort hl (lget_lst k2)]
    have e5 : lget (h2 ++ [.lst ((((List.range w.length).filter (fre w m)).mergeSort (ple w)).map (pr w))]) h2.length = some (((sfre w (U w.length m))).map (pr w)) := by
      rw [lget_lst get_new]
      unfold sfre
      rw [fre_filter]
    generalize hh3 : h2 ++ [MO.lst ((((List.range w.length).filter (fre w m)).mergeSort (ple w)).map (pr w))] = h3 at e5 ⊢
    have k3 : Kept [] h h3 := by rw [← hh3]; exact k1.app _
    simp only [itK_ref]
    refine ⟨by rw [e5]; rfl, ?_⟩
    refine sat_lcP (S := []) (g := fun x => match x with | .tup [_, v] => some v | _ => none) (fun n z => nomatch z) (at_lst e5 (by simp)) (fuel_lst e5) ?_ ?_ ?_
    · have : (sfre w (U w.length m)).length ≤ 1000 := by
        unfold sfre
        rw [List.length_mergeSort, ← fre_filter]
        exact hl
      simp; unfold big; omega
    · intro x hx h4 _ _
      obtain ⟨p, _, rfl⟩ := List.mem_map.mp hx
      refine sat_lcStep (fr1 := [some (.ref n1), some (.ref n2), some (.int m), some (.ref h.length), a, b, some (pr w p)]) rfl ?_
      simp [pr, Kept.refl]
    · intro h4 k4 k5
      refine ⟨k3.trans k4, k3.len, ?_⟩
      rw [k5]
      congr 2
      unfold iL
      rw [List.filterMap_map]
      induction sfre w (U w.length m) with
      | nil => rfl
      | cons p l ih => simp [pr] at ih ⊢; exact ih
end
end K48
namespace K48
open PySem FL PySem.W PyProof.Rows
theorem U_full (n : Nat) : U n (2 ^ n - 1) = [] := by
  unfold U
  rw [List.filter_eq_nil_iff]
  intro i hi
  rw [List.mem_range] at hi
  simp [Nat.testBit_two_pow_sub_one, hi]
theorem U_ne {n m : Nat} (h : m < 2 ^ n - 1) : U n m ≠ [] := by
  intro e
  have hb : ∀ i, i < n → m.testBit i = true := fun i hi => by
    cases q : m.testBit i with
    | true => rfl
    | false =>
      have : i ∈ U n m := mem_U.mpr ⟨hi, q⟩
      rw [e] at this; simp at this
  have : m = 2 ^ n - 1 := by
    apply Nat.eq_of_testBit_eq
    intro i
    rw [Nat.testBit_two_pow_sub_one]
    by_cases hi : i < n
    · rw [hb i hi]; simp [hi]
    · rw [Nat.testBit_lt_two_pow (Nat.lt_of_lt_of_le (show m < 2 ^ n by omega) (Nat.pow_le_pow_right (by omega) (by omega)))]
      simp [hi]
  omega
theorem add_lt {n m p : Nat} (hm : m < 2 ^ n) (hp : p ∈ U n m) : m + 2 ^ p < 2 ^ n := by
  apply Nat.lt_pow_two_of_testBit
  intro i hi
  rw [bit_add (mem_U.mp hp).2, Nat.testBit_lt_two_pow (Nat.lt_of_lt_of_le hm (Nat.pow_le_pow_right (by omega) hi))]
  have := (mem_U.mp hp).1
  simp; omega
abbrev cn (w : List Stp) (m : Nat) : Nat := cnt w (U w.length m)
def tot (w : List Stp) (m k : Nat) : Nat := (((List.range k).filter (fre w m)).map fun p => cn w (m + 2 ^ p)).sum
theorem tot_full {w : List Stp} {m : Nat} (hm : m < 2 ^ w.length - 1) : tot w m w.length = cn w m := by
  unfold tot cn
  rw [fre_filter, cnt_step w (U_ne hm)]
  congr 1
  refine List.map_congr_left fun p hp => ?_
  rw [U_add (List.mem_filter.mp hp).1]
theorem tot_succ (w : List Stp) (m k : Nat) : tot w m (k + 1) = tot w m k + if fre w m k then cn w (m + 2 ^ k) else 0 := by
  unfold tot
  rw [List.range_succ, List.filter_append, List.map_append, List.sum_append]
  congr 1
  by_cases hf : fre w m k = true
  · simp [List.filter_cons, hf]
  · simp [List.filter_cons, hf]
/-- what is counted behind i turns -/
def wys (w : List Stp) (i : Nat) : List PV := (List.range (2 ^ w.length)).map fun m => .int (if 2 ^ w.length ≤ m + i + 1 then cn w m else 0 : Nat)
theorem wys_len (w : List Stp) (i : Nat) : (wys w i).length = 2 ^ w.length := by simp [wys]
theorem wys_get {w : List Stp} {i m : Nat} (hm : m < 2 ^ w.length) (h : 2 ^ w.length ≤ m + i + 1) : (wys w i)[m]? = some (.int (cn w m)) := by
  unfold wys
  rw [List.getElem?_map, List.getElem?_range hm, Option.map_some, if_pos h]
theorem wys_at {w : List Stp} {i m : Nat} (hm : m < 2 ^ w.length) : (wys w i)[m]? = some (.int (if 2 ^ w.length ≤ m + i + 1 then cn w m else 0 : Nat)) := by
  unfold wys
  rw [List.getElem?_map, List.getElem?_range hm, Option.map_some]
theorem wys_none {w : List Stp} {i m : Nat} (hm : ¬ m < 2 ^ w.length) : (wys w i)[m]? = none := by rw [List.getElem?_eq_none (by rw [wys_len]; omega)]
theorem wys_set {w : List Stp} {i : Nat} (hi : i < 2 ^ w.length - 1) : (wys w i).set (2 ^ w.length - 1 - 1 - i) (.int (cn w (2 ^ w.length - 1 - 1 - i))) = wys w (i + 1) := by
  refine List.ext_getElem? fun m => ?_
  rw [List.getElem?_set, wys_len]
  by_cases hm : m < 2 ^ w.length
  · rw [wys_at hm, wys_at hm]
    by_cases he : 2 ^ w.length - 1 - 1 - i = m
    · rw [if_pos he, if_pos (by omega), if_pos (by omega), he]
    · rw [if_neg he]
      by_cases h1 : 2 ^ w.length ≤ m + i + 1
      · rw [if_pos h1, if_pos (by omega)]
      · rw [if_neg h1, if_neg (by omega)]
  · rw [wys_none hm, wys_none hm, if_neg (by omega)]
theorem wys_0 (w : List Stp) : ((List.replicate (2 ^ w.length) (PV.int 0))).set (2 ^ w.length - 1) (.int 1) = wys w 0 := by
  have hp : 0 < 2 ^ w.length := Nat.two_pow_pos _
  have h1 : cn w (2 ^ w.length - 1) = 1 := by unfold cn; rw [U_full]; rfl
  refine List.ext_getElem? fun m => ?_
  rw [List.getElem?_set, List.length_replicate, List.getElem?_replicate]
  by_cases hm : m < 2 ^ w.length
  · rw [wys_at hm, if_pos hm]
    by_cases he : 2 ^ w.length - 1 = m
    · rw [if_pos he, if_pos (by omega), if_pos (by omega), ← he, h1]; rfl
    · rw [if_neg he, if_neg (by omega)]; rfl
  · rw [wys_none hm, if_neg (by omega), if_neg hm]
theorem wys_all (w : List Stp) : wys w (2 ^ w.length - 1) = iL ((List.range (2 ^ w.length)).map (cn w)) := by
  unfold wys iL
  rw [List.map_map]
  refine List.map_congr_left fun m _ => ?_
  rw [if_pos (by omega)]; rfl
section
variable {h : MH} {Q : PV → MH → Prop} {E : Exc → MH → Prop}
theorem shl1 {k : Nat} (hk : k ≤ 1000) : (binM .LShift (.int 1) (.int k) h).sat Q E = Q (.int ((2 ^ k : Nat) : Int)) h := by
  rw [v_shl_i ⟨by omega, by omega, by decide⟩]
  simp
/-- the two tests of an open place -/
theorem test_sp {G : GG} {fr : Fr} {im ia iw : Nat} {m a n2 : Nat} {w : List Stp} (e3 : lget h n2 = some (iL ((List.range w.length).map (need w)))) (ha : a < w.length) (f1 : fr[im]? = some (some (.int m))) (f2 : fr[ia]? = some (some (.int a))) (f3 : fr[iw]? = some (some (.ref n2))) {K : Bool → MH → Prop} (q : K (fre w m a) h) :
    (evE G (.bop true (.cons (.cmp .Eq (.bin .BitAnd (.bin .RShift (.loc im) (.loc ia)) (.cst (.int 1))) (.cst (.int 0))) (.cons (.cmp .Eq (.bin .BitAnd (.loc im) (.sub (.loc iw) (.loc ia))) (.sub (.loc iw) (.loc ia))) .nil))) fr h).sat (blK K) E := by
  have e4 : (iL ((List.range w.length).map (need w)))[a]? = some (.int (need w a : Nat)) := by simp [iL, ha]
  simp [f1, f2, f3]
  rw [v_shr_i (by omega)]
  simp only [v_and_i, v_eq_i, blK_bl, t_bit, v_ix_l e3, atI_nat, e4, atK_some, t_need]
  unfold fre at q
  cases hb : m.testBit a with
  | true => rw [hb] at q; simpa using q
  | false => rw [hb] at q; simpa using q
def tooMany : Exc := ⟨"TooMany", [.str ['c', 'o', 'u', 'n', 't', 'e', 'd'], .int 12]⟩
theorem compl_big {n : Nat} {xs : List PV} (e : lget h n = some xs) (hw : 12 < xs.length) : (F_completions [.ref n] h).sat (fun _ _ => False) (fun c h' => c = tooMany ∧ h' = h) := by
  refine sat_completions ?_
  unfold c_completions
  simp [v_len_l e, CEs.len, tooMany]
  omega
theorem compl_sp {n : Nat} {w : List Stp} (hw : w.length ≤ 12) (e1 : lget h n = some (w.map enc)) : (F_completions [.ref n] h).sat (fun v h' => ∃ r, v = .ref r ∧ Kept [] h h' ∧ h.length ≤ r ∧ h'[r]? = some (.lst (iL ((List.range (2 ^ w.length)).map (cn w))))) noE := by
  refine sat_completions ?_
  unfold c_completions
  simp [v_len_l e1]
  refine ⟨by omega, ?_⟩
  refine sat_to (befores_sp e1 (by omega)) ?_
  rintro _ h1 ⟨rfl, k1, k2⟩
  have e2 : lget h1 n = some (w.map enc) := k1.lget e1 (by simp)
  simp [v_len_l e2]
  rw [shl1 (by omega)]
  have hp : 0 < 2 ^ w.length := Nat.two_pow_pos _
  have hN : 2 ^ w.length ≤ 4096 := Nat.le_trans (Nat.pow_le_pow_right (by omega) hw) (by decide)
  have eF : ((2 ^ w.length : Nat) : Int) - 1 = ((2 ^ w.length - 1 : Nat) : Int) := by omega
  have eG : ((2 ^ w.length - 1 : Nat) : Int) + 1 = ((2 ^ w.length : Nat) : Int) := by omega
  simp only [v_sub_i, eF, v_add_i, eG]
  refine ⟨by unfold big; omega, ?_⟩
  rw [v_mul_l (wl_lst get_new) (by omega) (by rw [Int.toNat_natCast, List.length_singleton, Nat.one_mul]; unfold big; omega)]
  have er : (List.replicate (((2 ^ w.length : Nat) : Int)).toNat [PV.int 0]).flatten = List.replicate (2 ^ w.length) (PV.int 0) := by
    rw [Int.toNat_natCast, List.flatten_replicate_singleton]
  rw [er, v_set get_new (ixN_nat (by simp; omega)), wys_0]
  have hB : (h1 ++ [MO.lst [.int 0]] ++ [MO.lst (List.replicate (2 ^ w.length) (PV.int 0))]).set (h1 ++ [MO.lst [.int 0]]).length (MO.lst (wys w 0)) = h1 ++ [MO.lst [.int 0]] ++ [MO.lst (wys w 0)] := by
    rw [List.set_append_right _ _ (Nat.le_refl _), Nat.sub_self]; rfl
  rw [hB]
  have kB : Kept [] h1 (h1 ++ [MO.lst [.int 0]] ++ [MO.lst (wys w 0)]) := ((Kept.refl [] h1).app _).app _
  have gB : (h1 ++ [MO.lst [.int 0]] ++ [MO.lst (wys w 0)])[(h1 ++ [MO.lst [.int 0]]).length]? = some (.lst (wys w 0)) := get_new
  have lB : h1.length < (h1 ++ [MO.lst [.int 0]]).length := by simp
  generalize (h1 ++ [MO.lst [.int 0]]).length = wr at gB lB ⊢
  generalize h1 ++ [MO.lst [.int 0]] ++ [MO.lst (wys w 0)] = h2 at kB gB ⊢
  have hn : n < h1.length := lget_lt e2
  have hn2 : h.length < h1.length := (List.getElem?_eq_some_iff.mp k2).1
  have e3 : lget h2 n = some (w.map enc) := kB.lget e2 (by simp)
  have e4 : lget h2 h.length = some (iL ((List.range w.length).map (need w))) := kB.lget (lget_lst k2) (by simp)
  simp [ws_for]
  refine ⟨by unfold okR; simp; omega, ?_⟩
  refine sat_forS (fun i fr h3 => Kept [wr] h2 h3 ∧ h3[wr]? = some (.lst (wys w i)) ∧ ∃ a b c d, fr = [some (.ref n), some (.ref h.length), some (.int ((2 ^ w.length - 1 : Nat) : Int)), some (.ref wr), a, b, c, d]) ⟨Kept.refl _ _, gB, _, _, _, _, rfl⟩ ?_ ?_
  · rintro i x fr h3 hx ⟨k3, g3, a, b, c, d, rfl⟩
    obtain ⟨rfl, hi⟩ := nats_at hx
    refine ⟨_, rfl, ?_⟩
    have eM : ((2 ^ w.length - 1 : Nat) : Int) - 1 - (i : Nat) = ((2 ^ w.length - 1 - 1 - i : Nat) : Int) := by omega
    have hm : 2 ^ w.length - 1 - 1 - i < 2 ^ w.length - 1 := by omega
    have hm2 : 2 ^ w.length ≤ 2 ^ w.length - 1 - 1 - i + i + 2 := by omega
    have f3 : lget h3 n = some (w.map enc) := k3.lget e3 (by simp; omega)
    have f4 : lget h3 h.length = some (iL ((List.range w.length).map (need w))) := k3.lget e4 (by simp; omega)
    simp [ws_for, eM, v_len_l f3]
    generalize hmm : 2 ^ w.length - 1 - 1 - i = m at *
    refine ⟨by unfold okR; simp; omega, ?_⟩
    refine sat_forS (fun k fr h4 => h4 = h3 ∧ ∃ d, fr = [some (.ref n), some (.ref h.length), some (.int ((2 ^ w.length - 1 : Nat) : Int)), some (.ref wr), some (.int (i : Nat)), some (.int (m : Nat)), some (.int (tot w m k : Nat)), d]) ⟨rfl, d, by simp [tot]⟩ ?_ ?_
    · rintro k y fr h4 hy ⟨rfl, d, rfl⟩
      obtain ⟨rfl, hk⟩ := nats_at hy
      refine ⟨_, rfl, ?_⟩
      simp only [ssat_cons, ws_ite, ssat_nil, CT.one]
      refine sat_mono (test_sp (m := m) (a := k) f4 hk rfl rfl rfl (K := fun b h1 => if b = true then _ else _) ?_) (fun _ _ z => z) fun _ _ z => z
      have et := tot_succ w m k
      cases hf : fre w m k with
      | false => rw [hf] at et; simp [et]
      | true =>
        rw [hf] at et
        have hkU : k ∈ U w.length m := by
          rw [fre_opn hk] at hf
          simp at hf
          exact hf.1
        have hlt := add_lt (show m < 2 ^ w.length by omega) hkU
        have hpk : 0 < 2 ^ k := Nat.two_pow_pos _
        have ea : (m : Int) + ((2 ^ k : Nat) : Int) = ((m + 2 ^ k : Nat) : Int) := by omega
        simp
        rw [shl1 (by omega)]
        simp only [v_add_i, ea]
        rw [v_ix_l (lget_lst g3), atI_nat, wys_get hlt (by omega)]
        simp [et]
    · rintro fr h4 ⟨rfl, d, rfl⟩
      have em : tot w m (nats 0 w.length).length = cn w m := by rw [nats_len]; exact tot_full hm
      simp [em]
      rw [v_set g3 (ixN_nat (by rw [wys_len]; omega))]
      have es : (wys w i).set m (.int (cn w m)) = wys w (i + 1) := by rw [← hmm]; exact wys_set hi
      rw [es]
      exact ⟨k3.setIn (by simp) _, get_set g3⟩
  · rintro fr h3 ⟨k3, g3, a, b, c, d, rfl⟩
    rw [nats_len, wys_all] at g3
    simp
    refine ⟨?_, by omega, g3⟩
    refine ⟨Nat.le_trans k1.len (Nat.le_trans kB.len k3.len), fun q hq _ => ?_⟩
    rw [k3.get q (by have := kB.len; omega) (by simp; omega), kB.get q (by omega) (by simp), k1.get q hq (by simp)]
end
end K48
namespace K48
open PySem FL PySem.W PyProof.Rows
theorem U_0 (n : Nat) : U n 0 = List.range n := by
  unfold U
  rw [List.filter_eq_self]
  simp
theorem ords_step {w : List Stp} {R : List Nat} (h : R ≠ []) : ords w R = (sfre w R).flatMap fun p => (ords w (R.erase p)).map (stp w p :: ·) := by
  obtain ⟨n, hn⟩ : ∃ n, R.length = n + 1 := ⟨R.length - 1, by have := List.length_pos_iff.mpr h; omega⟩
  unfold ords
  rw [hn]
  show (sfre w R).flatMap _ = _
  have key : ∀ l : List Nat, (∀ p ∈ l, p ∈ R) → l.flatMap (fun p => (ordV w n (R.erase p)).map (stp w p :: ·)) = l.flatMap fun p => (ordV w (R.erase p).length (R.erase p)).map (stp w p :: ·) := by
    intro l hl
    induction l with
    | nil => rfl
    | cons p l ih =>
      rw [List.flatMap_cons, List.flatMap_cons, ih fun q hq => hl q (List.mem_cons_of_mem _ hq), List.length_erase_of_mem (hl p (List.mem_cons_self ..)), hn]
      rfl
  exact key _ fun p hp => (mem_sfre.mp hp).1
abbrev brn (w : List Stp) (R : List Nat) (p : Nat) : List (List Stp) := (ords w (R.erase p)).map (stp w p :: ·)
theorem brn_len {w : List Stp} {n m p : Nat} (h : p ∈ U n m) : (brn w (U n m) p).length = cnt w (U n (m + 2 ^ p)) := by
  rw [U_add h]; simp [brn, cnt]
def encs (l : List Stp) : List PV := l.map enc
section
variable {h : MH} {Q : PV → MH → Prop} {E : Exc → MH → Prop}
theorem whole_i {i : Int} : (F_is_whole [.int i] h).sat Q E = (F_is_whole [.int i] h).sat Q E := rfl
theorem whole_sp {x : PV} {b : Bool} {k : PK} (hk : pkOf h x = some k) (hb : b = (isTN k .int && !isTN k .bool)) : (F_is_whole [x] h).sat (fun v h' => v = .bl b ∧ h' = h) noE := by
  refine sat_is_whole ?_
  unfold c_is_whole
  simp [hk]
  cases k <;> simp [hb, isTN, hk]
/-- what is known when places are asked for -/
structure Bas (w : List Stp) (n n2 n3 : Nat) (h : MH) : Prop where
  st : lget h n = some (w.map enc)
  wy : lget h n2 = some (iL ((List.range (2 ^ w.length)).map (cn w)))
  ne : lget h n3 = some (iL ((List.range w.length).map (need w)))
theorem Bas.keep {w : List Stp} {n n2 n3 : Nat} {h h' : MH} {S : List Nat} (b : Bas w n n2 n3 h) (k : Kept S h h') (h1 : n ∉ S) (h2 : n2 ∉ S) (h3 : n3 ∉ S) : Bas w n n2 n3 h' := ⟨k.lget b.st h1, k.lget b.wy h2, k.lget b.ne h3⟩
theorem iL_get {l : List Nat} {i k : Nat} (e : l[i]? = some k) : (iL l)[i]? = some (.int k) := by simp [iL, e]
theorem way_get {w : List Stp} {m : Nat} (hm : m < 2 ^ w.length) : (iL ((List.range (2 ^ w.length)).map (cn w)))[m]? = some (.int (cn w m)) := iL_get (by simp [hm])
/-- the turn of a place -/
theorem turn_sp {w : List Stp} {n n2 n3 r m : Nat} {T : List Stp} (hw : w.length ≤ 12) (hm : m < 2 ^ w.length) {acc t : List Stp} {k : Nat} (B : Bas w n n2 n3 h) (hr : h[r]? = some (.lst (encs acc))) (hn : n ≠ r) (hn2 : n2 ≠ r) (hn3 : n3 ≠ r) (hacc : acc.length ≤ 100) (hne : U w.length m ≠ []) (hk : (ords w (U w.length m))[k]? = some t) {a b : Option PV} {Qs : Fl → Fr → MH → Prop} {Es : Exc → Fr → MH → Prop}
    (q : ∀ (p : Nat) (t' : List Stp) (k' : Nat) (h' : MH) (a b : Option PV), p ∈ U w.length m → t = stp w p :: t' → (ords w (U w.length (m + 2 ^ p)))[k']? = some t' → Kept [r] h h' → h'[r]? = some (.lst (encs (acc ++ [stp w p]))) → Qs .nx [some (.ref n), some (.int k'), some (.ref n2), some (.ref n3), some (.int (m + 2 ^ p : Nat)), some (.ref r), a, b] h') :
    (evS G_count_orders (.fors (.one 6) (.val (.call "free_places" (.cons (.loc 0) (.cons (.loc 3) (.cons (.loc 4) .nil))))) (.cons (.asg 7 (.sub (.loc 2) (.bin .Add (.loc 4) (.bin .LShift (.cst (.int 1)) (.loc 6))))) (.cons (.ite (.cmp .Lt (.loc 1) (.loc 7)) (.cons (.expr (.mth .append (.loc 5) (.cons (.sub (.loc 0) (.loc 6)) .nil))) (.cons (.asg 4 (.bin .Add (.loc 4) (.bin .LShift (.cst (.int 1)) (.loc 6)))) (.cons .brk .nil))) .nil) (.cons (.asg 1 (.bin .Sub (.loc 1) (.loc 7))) .nil)))) [some (.ref n), some (.int k), some (.ref n2), some (.ref n3), some (.int m), some (.ref r), a, b] h).sat Qs Es := by
  rw [ws_for]
  simp only [w_val, w_call, q_order_at_free_places, w_es, w_es0, w_loc, List.getElem?_cons_zero, List.getElem?_cons_succ]
  refine sat_to (free_sp (m := m) (by omega) B.st B.ne) ?_
  rintro _ h1 ⟨rf, rfl, k1, hrf, e1⟩
  simp only [itK_ref, lget_lst e1, Option.isSome_some, true_and]
  have B1 := B.keep k1 (by simp) (by simp) (by simp)
  have hr1 := k1.at hr (by simp)
  rw [ords_step hne] at hk
  refine sat_forL (lget_lst e1) (I := fun j fr h2 => h2 = h1 ∧ ∃ k' : Nat, (((sfre w (U w.length m)).drop j).flatMap (brn w (U w.length m)))[k']? = some t ∧ ∃ a b, fr = [some (.ref n), some (.int k'), some (.ref n2), some (.ref n3), some (.int m), some (.ref r), a, b]) ⟨rfl, k, by simpa using hk, _, _, rfl⟩ (fun j fr h2 q => by rw [q.1]; exact lget_lst e1) ?_ ?_
  · rintro j x fr h2 hx ⟨rfl, k', ek, a', b', rfl⟩
    refine ⟨_, rfl, ?_⟩
    obtain ⟨p, ep, rfl⟩ : ∃ p, (sfre w (U w.length m))[j]? = some p ∧ x = .int (p : Nat) := by
      simp [iL] at hx
      obtain ⟨p, h1, h2⟩ := hx
      exact ⟨p, h1, h2.symm⟩
    have hp : p ∈ U w.length m := (mem_sfre.mp (List.mem_of_getElem? ep)).1
    have hpn : p < w.length := U_lt p hp
    have hlt := add_lt hm hp
    have ea : (m : Int) + ((2 ^ p : Nat) : Int) = ((m + 2 ^ p : Nat) : Int) := by omega
    have ed : (sfre w (U w.length m)).drop j = p :: (sfre w (U w.length m)).drop (j + 1) := by
      have hj := (List.getElem?_eq_some_iff.mp ep).1
      rw [List.drop_eq_getElem_cons hj, (List.getElem?_eq_some_iff.mp ep).2]
    rw [ed, List.flatMap_cons, List.getElem?_append, brn_len hp] at ek
    simp
    rw [shl1 (by omega)]
    simp only [v_add_i, ea, v_ix_l B1.wy, atI_nat, way_get hlt, atK_some]
    rw [v_lt_i, blK_bl]
    by_cases hk' : k' < cn w (m + 2 ^ p)
    · rw [if_pos hk'] at ek
      obtain ⟨t', et, rfl⟩ : ∃ t', (ords w ((U w.length m).erase p))[k']? = some t' ∧ t = stp w p :: t' := by
        unfold brn at ek
        rw [List.getElem?_map] at ek
        cases e : (ords w ((U w.length m).erase p))[k']? with
        | none => rw [e] at ek; cases ek
        | some t' => rw [e] at ek; simp at ek; exact ⟨t', rfl, ek.symm⟩
      have hd : decide ((k' : Int) < (cn w (m + 2 ^ p) : Nat)) = true := decide_eq_true (by exact_mod_cast hk')
      simp only [hd, if_true, kind_l (lget_lst hr1)]
      have est : (w.map enc)[p]? = some (enc (stp w p)) := by rw [List.getElem?_map, stp_get hpn]; rfl
      simp only [ok_append, true_and, v_ix_l B1.st, atI_nat, est, atK_some, v_append, wl_lst hr1]
      refine ⟨by simp [encs]; unfold big; omega, ?_⟩
      rw [shl1 (by omega), v_add_i, ea]
      have hlr : r < h2.length := (List.getElem?_eq_some_iff.mp hr1).1
      refine q p t' k' _ _ _ hp rfl (by rw [U_add hp]; exact et) ((k1.mono (fun _ z => nomatch z)).setIn (by simp) _) ?_
      rw [get_set hr1]
      simp [encs]
    · rw [if_neg hk'] at ek
      have hd : decide ((k' : Int) < (cn w (m + 2 ^ p) : Nat)) = false := decide_eq_false (by exact_mod_cast hk')
      have es : (k' : Int) - (cn w (m + 2 ^ p) : Nat) = ((k' - cn w (m + 2 ^ p) : Nat) : Int) := by omega
      simp only [hd, Bool.false_eq_true, if_false, v_sub_i, es]
      first
        | exact ⟨trivial, _, ek, rfl⟩
        | exact ⟨trivial, _, ek⟩
        | exact ⟨trivial, _, ek, _, _, rfl⟩
        | trace_state
  · rintro fr h2 ⟨rfl, k', ek, a', b', rfl⟩
    have : (iL (sfre w (U w.length m))).length = (sfre w (U w.length m)).length := by simp [iL]
    rw [this, List.drop_length] at ek
    simp at ek
end
end K48
namespace K48
open PySem FL PySem.W PyProof.Rows
theorem keptNew {S T : List Nat} {h0 h1 h2 : MH} (a : Kept S h0 h1) (b : Kept T h1 h2) (ht : ∀ n ∈ T, h0.length ≤ n) : Kept S h0 h2 :=
  ⟨Nat.le_trans a.len b.len, fun n hn hs => by rw [b.get n (Nat.lt_of_lt_of_le hn a.len) (fun z => by have := ht n z; omega), a.get n hn hs]⟩
theorem U_len_add {n m p : Nat} (h : p ∈ U n m) : (U n (m + 2 ^ p)).length + 1 = (U n m).length := by
  rw [U_add h, List.length_erase_of_mem h]
  have := List.length_pos_of_mem h
  omega
theorem U_len (n m : Nat) : (U n m).length ≤ n := by
  have := List.length_filter_le (fun i => !m.testBit i) (List.range n)
  rw [List.length_range] at this
  exact this
/-- what holds between the turns of order_at -/
def Lp (w : List Stp) (T : List Stp) (n n2 n3 r : Nat) (hB : MH) (μ : Nat) (fr : Fr) (h3 : MH) : Prop := ∃ (m : Nat) (acc t : List Stp) (k : Nat) (a b : Option PV), m < 2 ^ w.length ∧ T = acc ++ t ∧ (ords w (U w.length m))[k]? = some t ∧ acc.length + (U w.length m).length = w.length ∧ μ = (U w.length m).length ∧ Kept [r] hB h3 ∧ h3[r]? = some (.lst (encs acc)) ∧
  fr = [some (.ref n), some (.int k), some (.ref n2), some (.ref n3), some (.int m), some (.ref r), a, b]
section
variable {h : MH} {Q : PV → MH → Prop} {E : Exc → MH → Prop}
theorem at_ok {n : Nat} {w : List Stp} (hw : w.length ≤ 12) (e1 : lget h n = some (w.map enc)) {k : Nat} {T : List Stp} (hk : (ords w (List.range w.length))[k]? = some T) :
    (F_order_at [.ref n, .int k] h).sat (fun v h' => ∃ r, v = .ref r ∧ Kept [] h h' ∧ h.length ≤ r ∧ h'[r]? = some (.lst (encs T))) noE := by
  have hkc : k < cn w 0 := by
    unfold cn cnt
    rw [U_0]
    exact (List.getElem?_eq_some_iff.mp hk).1
  refine sat_order_at ?_
  unfold c_order_at
  simp
  refine sat_to (compl_sp hw e1) ?_
  rintro _ h1 ⟨n2, rfl, k1, hn2, g1⟩
  refine sat_to (whole_sp (k := .int) (b := true) rfl rfl) ?_
  rintro _ x ⟨rfl, eh⟩
  rw [eh]
  clear eh x
  have w0 := way_get (w := w) (Nat.two_pow_pos w.length)
  simp [v_ix_l (lget_lst g1), w0]
  refine ⟨by exact_mod_cast hkc, ?_⟩
  have f1 : lget h1 n = some (w.map enc) := k1.lget e1 (by simp)
  refine sat_to (befores_sp f1 (by omega)) ?_
  rintro _ h2 ⟨rfl, k2, g2⟩
  have hn := lget_lt f1
  have hn2' : n2 < h1.length := (List.getElem?_eq_some_iff.mp g1).1
  have hl2 : h1.length < h2.length := (List.getElem?_eq_some_iff.mp g2).1
  have k3 : Kept [] h2 (h2 ++ [.lst []]) := (Kept.refl [] _).app _
  have B : Bas w n n2 h1.length (h2 ++ [.lst []]) := Bas.keep ⟨k2.lget f1 (by simp), k2.lget (lget_lst g1) (by simp), lget_lst g2⟩ k3 (by simp) (by simp) (by simp)
  have g3 : (h2 ++ [MO.lst []])[h2.length]? = some (.lst (encs [])) := get_new
  simp only [ws_whl]
  generalize h2 ++ [MO.lst []] = hB at k3 B g3 ⊢
  refine sat_whl (I := Lp w T n n2 h1.length h2.length hB) ?_ 100000 w.length _ hB (by omega) ⟨0, [], T, k, none, none, Nat.two_pow_pos _, rfl, by rw [U_0]; exact hk, by rw [U_0]; simp, by rw [U_0]; simp, Kept.refl _ _, g3, rfl⟩
  rintro μ fr h3 ⟨m, acc, t, k', a, b, hm, hT, hk', hlen, rfl, k4, g4, rfl⟩
  have B3 := B.keep k4 (by simp; omega) (by simp; omega) (by simp; omega)
  simp [v_len_l B3.st, v_len_l (lget_lst g4)]
  have hea : (encs acc).length = acc.length := by simp [encs]
  rw [hea]
  by_cases hl : acc.length < w.length
  · rw [if_pos (by exact_mod_cast hl)]
    have hne : U w.length m ≠ [] := fun z => by rw [z] at hlen; simp at hlen; omega
    refine turn_sp (T := T) hw hm B3 g4 (by omega) (by omega) (by omega) (by omega) hne hk' ?_
    rintro p t' k'' h5 a' b' hp rfl hk2 k5 g5
    have hu := U_len_add hp
    simp only [sqK_nx, ssat_nil, lpK_nx]
    refine ⟨(U w.length (m + 2 ^ p)).length, by omega, m + 2 ^ p, acc ++ [stp w p], t', k'', a', b', add_lt hm hp, by rw [hT]; simp, hk2, by simp; omega, rfl, k4.trans k5, g5, rfl⟩
  · rw [if_neg (by intro z; exact hl (by exact_mod_cast z))]
    have hU : U w.length m = [] := List.length_eq_zero_iff.mp (by omega)
    rw [hU] at hk'
    have ht : t = [] := by
      cases k' with
      | zero => simpa [ords, ordV] using hk'.symm
      | succ j => simp [ords, ordV] at hk'
    subst ht
    rw [hT, List.append_nil]
    refine ⟨?_, by have := k1.len; omega, g4⟩
    exact keptNew ((k1.trans k2).trans k3) k4 (fun q hq => by simp at hq; have := k1.len; omega)
end
end K48
namespace K48
open PySem FL PySem.W PyProof.Rows
section
variable {h : MH} {Q : PV → MH → Prop} {E : Exc → MH → Prop}
theorem at_big {n : Nat} {xs : List PV} {x : PV} (e : lget h n = some xs) (hw : 12 < xs.length) : (F_order_at [.ref n, x] h).sat (fun _ _ => False) (fun c h' => c = tooMany ∧ h' = h) := by
  refine sat_order_at ?_
  unfold c_order_at
  simp
  exact sat_mono (compl_big e hw) (fun _ _ z => z.elim) fun _ _ z => z
/-- not a number of an order -/
def badNo (w : List Stp) : PV → Prop
  | .int i => ¬(0 ≤ i ∧ i < (cn w 0 : Nat))
  | .bl _ => True
  | .non => True
  | .str _ => True
  | _ => False
theorem at_bad {n : Nat} {w : List Stp} {x : PV} (hw : w.length ≤ 12) (e1 : lget h n = some (w.map enc)) (hx : badNo w x) : (F_order_at [.ref n, x] h).sat (fun _ _ => False) (fun c h' => c = ⟨"BadNumber", [x]⟩ ∧ Kept [] h h') := by
  refine sat_order_at ?_
  unfold c_order_at
  simp
  refine sat_to (compl_sp hw e1) ?_
  rintro _ h1 ⟨n2, rfl, k1, hn2, g1⟩
  have w0 := way_get (w := w) (Nat.two_pow_pos w.length)
  cases x with
  | int i =>
    refine sat_to (whole_sp (k := .int) (b := true) rfl rfl) ?_
    rintro _ x ⟨rfl, eh⟩
    rw [eh]; clear eh x
    have hb : ¬(0 ≤ i ∧ i < (cn w 0 : Nat)) := hx
    simp [v_ix_l (lget_lst g1), w0, CEs.len, k1]
    by_cases h0 : 0 ≤ i
    · have : ¬ i < (cn w 0 : Nat) := fun z => hb ⟨h0, z⟩
      simp [h0, this]
    · simp [h0]
  | bl b =>
    refine sat_to (whole_sp (k := .bl) (b := false) rfl rfl) ?_
    rintro _ x ⟨rfl, eh⟩
    rw [eh]; clear eh x
    simp [CEs.len, k1]
  | non =>
    refine sat_to (whole_sp (k := .non) (b := false) rfl rfl) ?_
    rintro _ x ⟨rfl, eh⟩
    rw [eh]; clear eh x
    simp [CEs.len, k1]
  | str l =>
    refine sat_to (whole_sp (k := .str) (b := false) rfl rfl) ?_
    rintro _ x ⟨rfl, eh⟩
    rw [eh]; clear eh x
    simp [CEs.len, k1]
  | _ => exact hx.elim
theorem count_sp {n : Nat} {w : List Stp} (hw : w.length ≤ 12) (e1 : lget h n = some (w.map enc)) : (F_count_orders [.ref n] h).sat (fun v h' => v = .int (cn w 0 : Nat) ∧ Kept [] h h') noE := by
  refine sat_count_orders ?_
  unfold c_count_orders
  simp
  refine sat_to (compl_sp hw e1) ?_
  rintro _ h1 ⟨n2, rfl, k1, hn2, g1⟩
  have w0 := way_get (w := w) (Nat.two_pow_pos w.length)
  simp [v_ix_l (lget_lst g1), w0, k1]
theorem count_big {n : Nat} {xs : List PV} (e : lget h n = some xs) (hw : 12 < xs.length) : (F_count_orders [.ref n] h).sat (fun _ _ => False) (fun c h' => c = tooMany ∧ h' = h) := by
  refine sat_count_orders ?_
  unfold c_count_orders
  simp
  exact sat_mono (compl_big e hw) (fun _ _ z => z.elim) fun _ _ z => z
theorem least_big {n : Nat} {xs : List PV} (e : lget h n = some xs) (hw : 12 < xs.length) : (F_least_order [.ref n] h).sat (fun _ _ => False) (fun c h' => c = tooMany ∧ h' = h) := by
  refine sat_least_order ?_
  unfold c_least_order
  simp
  exact sat_mono (at_big e hw) (fun _ _ z => z.elim) fun _ _ z => z
theorem least_ok {n : Nat} {w : List Stp} (hw : w.length ≤ 12) (e1 : lget h n = some (w.map enc)) {T : List Stp} (hk : (ords w (List.range w.length))[0]? = some T) :
    (F_least_order [.ref n] h).sat (fun v h' => ∃ r, v = .ref r ∧ Kept [] h h' ∧ h.length ≤ r ∧ h'[r]? = some (.lst (encs T))) noE := by
  refine sat_least_order ?_
  unfold c_least_order
  simp
  exact sat_mono (at_ok hw e1 hk) (fun _ _ z => z) fun _ _ z => z
end
end K48
namespace K48
open PySem FL PySem.W PyProof.Rows
/-! ### the number of an order -/
/-- the place that holds o, and what is counted ahead of it -/
def pk (w : List Stp) (R : List Nat) (o : Option Stp) : List Nat → Nat → Option (Nat × Nat)
  | [], _ => none
  | p :: l, a => if some (stp w p) = o then some (p, a) else pk w R o l (a + cnt w (R.erase p))
def rk (w : List Stp) : List Nat → List (Option Stp) → Option Nat
  | _, [] => some 0
  | R, o :: os => match pk w R o (sfre w R) 0 with
    | none => none
    | some (p, a) => (rk w (R.erase p) os).map (· + a)
theorem pk_some {w : List Stp} {R : List Nat} {o : Option Stp} : ∀ {l : List Nat} {a p b : Nat}, pk w R o l a = some (p, b) → p ∈ l ∧ some (stp w p) = o
  | [], a, p, b, h => by simp [pk] at h
  | q :: l, a, p, b, h => by
    unfold pk at h
    split at h
    · rename_i e
      cases h
      exact ⟨List.mem_cons_self .., e⟩
    · exact ⟨List.mem_cons_of_mem _ (pk_some h).1, (pk_some h).2⟩
/-- behind b - a items the branch of p begins -/
theorem pk_at {w : List Stp} {R : List Nat} {o : Option Stp} : ∀ {l : List Nat} {a p b : Nat}, (∀ q ∈ l, q ∈ R) → pk w R o l a = some (p, b) → a ≤ b ∧ ∀ k, k < cnt w (R.erase p) → (l.flatMap (brn w R))[b - a + k]? = (brn w R p)[k]?
  | [], a, p, b, _, h => by simp [pk] at h
  | q :: l, a, p, b, hl, h => by
    have hlen : (brn w R q).length = cnt w (R.erase q) := by simp [brn, cnt]
    unfold pk at h
    split at h
    · rename_i e
      cases h
      refine ⟨Nat.le_refl _, fun k hk => ?_⟩
      rw [List.flatMap_cons, Nat.sub_self, Nat.zero_add, List.getElem?_append_left (by omega)]
    · obtain ⟨h1, h2⟩ := pk_at (fun r hr => hl r (List.mem_cons_of_mem _ hr)) h
      refine ⟨by omega, fun k hk => ?_⟩
      rw [List.flatMap_cons, List.getElem?_append_right (by omega), hlen, ← h2 k hk]
      congr 1; omega
theorem pk_find {w : List Stp} {R : List Nat} {s : Stp} : ∀ {l : List Nat} {a : Nat} {p : Nat}, p ∈ l → stp w p = s → (∀ q ∈ l, stp w q = s → q = p) → ∃ b, pk w R (some s) l a = some (p, b)
  | [], a, p, h, _, _ => by simp at h
  | q :: l, a, p, h, hs, hu => by
    unfold pk
    by_cases e : stp w q = s
    · have := hu q (List.mem_cons_self ..) e
      subst this
      rw [if_pos (by rw [e])]
      exact ⟨a, rfl⟩
    · rw [if_neg (by simpa using e)]
      refine pk_find ?_ hs fun r hr => hu r (List.mem_cons_of_mem _ hr)
      rcases List.mem_cons.mp h with z | z
      · subst z; exact absurd hs e
      · exact z
theorem brn_get {w : List Stp} {R : List Nat} {p k : Nat} {t : List Stp} (h : (ords w (R.erase p))[k]? = some t) : (brn w R p)[k]? = some (stp w p :: t) := by simp [brn, h]
theorem cnt_lt {w : List Stp} {R : List Nat} {k : Nat} {t : List Stp} (h : (ords w R)[k]? = some t) : k < cnt w R := (List.getElem?_eq_some_iff.mp h).1
/-- the rank leads to the order -/
theorem rk_get {w : List Stp} : ∀ {os : List (Option Stp)} {R : List Nat} {k : Nat}, R.Nodup → R.length = os.length → rk w R os = some k → ∃ t, os = t.map some ∧ (ords w R)[k]? = some t
  | [], R, k, _, hl, h => by
    have : R = [] := List.length_eq_zero_iff.mp hl
    subst this
    simp [rk] at h
    subst h
    exact ⟨[], rfl, rfl⟩
  | o :: os, R, k, hR, hl, h => by
    have hne : R ≠ [] := fun z => by rw [z] at hl; simp at hl
    unfold rk at h
    split at h
    · cases h
    · rename_i p a e
      obtain ⟨hp, ho⟩ := pk_some e
      have hpR := (mem_sfre.mp hp).1
      cases er : rk w (R.erase p) os with
      | none => rw [er] at h; cases h
      | some k' =>
        rw [er] at h
        simp only [Option.map_some, Option.some.injEq] at h
        obtain ⟨t, ht, hk⟩ := rk_get (hR.erase p) (by rw [List.length_erase_of_mem hpR]; simp at hl; omega) er
        obtain ⟨_, q⟩ := pk_at (fun q hq => (mem_sfre.mp hq).1) e
        refine ⟨stp w p :: t, by rw [← ho, ht]; rfl, ?_⟩
        rw [ords_step hne, ← h]
        have := q k' (cnt_lt hk)
        rw [Nat.sub_zero, Nat.add_comm] at this
        rw [this, brn_get hk]
/-- every order has its rank -/
theorem rk_of {w : List Stp} : ∀ {t : List Stp} {R : List Nat}, R.Nodup → t ∈ ords w R → ∃ k, rk w R (t.map some) = some k
  | [], R, _, h => ⟨0, rfl⟩
  | s :: t, R, hR, h => by
    have hlen : (s :: t).length = R.length := ord_item h
    obtain ⟨n, hn⟩ : ∃ n, R.length = n + 1 := ⟨t.length, by rw [← hlen]; rfl⟩
    unfold ords at h
    rw [hn] at h
    obtain ⟨p, o', h1, h2, h3, e⟩ := mem_ord.mp h
    cases e
    have ho : t ∈ ords w (R.erase p) := by
      unfold ords
      rw [List.length_erase_of_mem h1, hn]; exact h3
    obtain ⟨k, hk⟩ := rk_of (hR.erase p) ho
    obtain ⟨b, hb⟩ := pk_find (w := w) (R := R) (s := stp w p) (l := sfre w R) (a := 0) (mem_sfre.mpr ⟨h1, h2⟩) rfl fun q hq hs => by
      obtain ⟨q1, q2⟩ := mem_sfre.mp hq
      cases Nat.decEq q p with
      | isTrue z => exact z
      | isFalse z => exact absurd hs (opn_ne q1 h1 q2 h2 z)
    refine ⟨k + b, ?_⟩
    show (match pk w R (some (stp w p)) (sfre w R) 0 with
      | none => none
      | some (p, a) => (rk w (R.erase p) (t.map some)).map (· + a)) = _
    rw [hb]
    dsimp only
    rw [hk]; rfl
theorem nth_inj {l : List (List Stp)} (hl : l.Pairwise fun a b => llt a b = true) {i j : Nat} {t : List Stp} (hi : l[i]? = some t) (hj : l[j]? = some t) : i = j := by
  have h1 := List.getElem?_eq_some_iff.mp hi
  have h2 := List.getElem?_eq_some_iff.mp hj
  rcases Nat.lt_trichotomy i j with z | z | z
  · have := List.pairwise_iff_getElem.mp hl i j h1.1 h2.1 z
    rw [h1.2, h2.2, llt_irr] at this; cases this
  · exact z
  · have := List.pairwise_iff_getElem.mp hl j i h2.1 h1.1 z
    rw [h1.2, h2.2, llt_irr] at this; cases this
theorem rk_nth {w : List Stp} {R : List Nat} {k : Nat} {t : List Stp} (hR : R.Nodup) (h : (ords w R)[k]? = some t) : rk w R (t.map some) = some k := by
  have hm := List.mem_of_getElem? h
  obtain ⟨k', hk⟩ := rk_of hR hm
  obtain ⟨t', e, h'⟩ := rk_get hR (by rw [List.length_map, ord_item hm]) hk
  have : t = t' := (List.map_inj_right fun _ _ => Option.some.inj).mp e
  subst this
  rw [hk, nth_inj (ord_sorted hR) h' h]
/-- an item of a list that may be an order -/
def Itm (x : PV) (o : Option Stp) : Prop := ∃ d, (∀ h, snap h dp x = some d) ∧ ∀ s, PyData.eqv (dat s) d = decide (some s = o)
theorem itm_e (s : Stp) : Itm (enc s) (some s) := ⟨dat s, fun h => snap_e, fun t => by rw [eqv_e]; by_cases h : t = s <;> simp [h]⟩
theorem itm_non : Itm .non none := ⟨.none, fun h => snap_non, fun s => by cases s <;> rfl⟩
theorem itm_str (l : List Char) : Itm (.str l) none := ⟨_, fun h => snap_str, fun s => by cases s <;> rfl⟩
theorem itm_tup : Itm (.tup []) none := ⟨.tuple [], fun h => rfl, fun s => by cases s <;> simp [dat, eqv_tup, PyData.eqvAll]⟩
theorem eq_itm {h : MH} {Q : PV → MH → Prop} {E : Exc → MH → Prop} {s : Stp} {x : PV} {o : Option Stp} (i : Itm x o) : (cmpM .Eq (enc s) x h).sat Q E = Q (.bl (decide (some s = o))) h := by
  obtain ⟨d, h1, h2⟩ := i
  rw [v_eq snap_e (h1 h), h2]
end K48
namespace K48
open PySem FL PySem.W PyProof.Rows
theorem pk_cons {w : List Stp} {R : List Nat} {o : Option Stp} {p a : Nat} {l : List Nat} : pk w R o (p :: l) a = if some (stp w p) = o then some (p, a) else pk w R o l (a + cnt w (R.erase p)) := rfl
def notOrd : Exc := ⟨"NotAnOrder", []⟩
/-- what order_number gives -/
def rnk (w : List Stp) (os : List (Option Stp)) : Option Nat := if os.length = w.length then rk w (List.range w.length) os else none
structure ItL (xs : List PV) (os : List (Option Stp)) : Prop where
  len : xs.length = os.length
  itm : ∀ (i : Nat) (x : PV), xs[i]? = some x → ∃ o, os[i]? = some o ∧ Itm x o
def Np (w : List Stp) (os : List (Option Stp)) (n no n2 n3 : Nat) (hB : MH) (i : Nat) (fr : Fr) (h3 : MH) : Prop := ∃ (m num : Nat) (a b c : Option PV), m < 2 ^ w.length ∧ (U w.length m).length + i = w.length ∧ rk w (List.range w.length) os = (rk w (U w.length m) (os.drop i)).map (· + num) ∧ Kept [] hB h3 ∧
  fr = [some (.ref n), some (.ref no), some (.ref n2), some (.ref n3), some (.int m), some (.int num), a, b, c]
def Ip (w : List Stp) (R : List Nat) (o : Option Stp) (x : PV) (n no n2 n3 m num : Nat) (h4 : MH) (j : Nat) (fr : Fr) (h5 : MH) : Prop := h5 = h4 ∧ ∃ (a : Nat) (c : Option PV), pk w R o (sfre w R) 0 = pk w R o ((sfre w R).drop j) a ∧ fr = [some (.ref n), some (.ref no), some (.ref n2), some (.ref n3), some (.int m), some (.int (num + a : Nat)), some x, some .non, c]
section
variable {h : MH} {Q : PV → MH → Prop} {E : Exc → MH → Prop}
/-- the places are gone through for the one that holds the item -/
theorem seek_sp {w : List Stp} {n no n2 n3 m num : Nat} (hw : w.length ≤ 12) (hm : m < 2 ^ w.length) (B : Bas w n n2 n3 h) {x : PV} {o : Option Stp} (ix : Itm x o) {c : Option PV} {Qs : Fl → Fr → MH → Prop} {Es : Exc → Fr → MH → Prop}
    (qn : ∀ h' num' c, pk w (U w.length m) o (sfre w (U w.length m)) 0 = none → Kept [] h h' → Qs .nx [some (.ref n), some (.ref no), some (.ref n2), some (.ref n3), some (.int m), num', some x, some .non, c] h')
    (qs : ∀ (p a : Nat) h' c, pk w (U w.length m) o (sfre w (U w.length m)) 0 = some (p, a) → p ∈ U w.length m → Kept [] h h' → Qs .nx [some (.ref n), some (.ref no), some (.ref n2), some (.ref n3), some (.int m), some (.int (num + a : Nat)), some x, some (.int p), c] h') :
    (evS G_least_order (.fors (.one 8) (.val (.call "free_places" (.cons (.loc 0) (.cons (.loc 3) (.cons (.loc 4) .nil))))) (.cons (.ite (.cmp .Eq (.sub (.loc 0) (.loc 8)) (.loc 6)) (.cons (.asg 7 (.loc 8)) (.cons .brk .nil)) .nil) (.cons (.asg 5 (.bin .Add (.loc 5) (.sub (.loc 2) (.bin .Add (.loc 4) (.bin .LShift (.cst (.int 1)) (.loc 8)))))) .nil))) [some (.ref n), some (.ref no), some (.ref n2), some (.ref n3), some (.int m), some (.int num), some x, some .non, c] h).sat Qs Es := by
  rw [ws_for]
  simp only [w_val, w_call, q_order_number_free_places, w_es, w_es0, w_loc, List.getElem?_cons_zero, List.getElem?_cons_succ]
  refine sat_to (free_sp (m := m) (by omega) B.st B.ne) ?_
  rintro _ h1 ⟨rf, rfl, k1, hrf, e1⟩
  simp only [itK_ref, lget_lst e1, Option.isSome_some, true_and]
  have B1 := B.keep k1 (by simp) (by simp) (by simp)
  refine sat_forL (lget_lst e1) (I := Ip w (U w.length m) o x n no n2 n3 m num h1) ⟨rfl, 0, c, by simp, rfl⟩ (fun j fr h2 q => by rw [q.1]; exact lget_lst e1) ?_ ?_
  · rintro j y fr h2 hy ⟨rfl, a, c', epk, rfl⟩
    refine ⟨_, rfl, ?_⟩
    obtain ⟨p, ep, rfl⟩ : ∃ p, (sfre w (U w.length m))[j]? = some p ∧ y = .int (p : Nat) := by
      simp [iL] at hy
      obtain ⟨p, h1, h2⟩ := hy
      exact ⟨p, h1, h2.symm⟩
    have hp : p ∈ U w.length m := (mem_sfre.mp (List.mem_of_getElem? ep)).1
    have hpn : p < w.length := U_lt p hp
    have hlt := add_lt hm hp
    have ea : (m : Int) + ((2 ^ p : Nat) : Int) = ((m + 2 ^ p : Nat) : Int) := by omega
    have ed : (sfre w (U w.length m)).drop j = p :: (sfre w (U w.length m)).drop (j + 1) := by
      have hj := (List.getElem?_eq_some_iff.mp ep).1
      rw [List.drop_eq_getElem_cons hj, (List.getElem?_eq_some_iff.mp ep).2]
    have est : (w.map enc)[p]? = some (enc (stp w p)) := by rw [List.getElem?_map, stp_get hpn]; rfl
    rw [ed, pk_cons] at epk
    simp only [ssat_cons, ws_ite, w_cmp, FL.w_sub, w_loc, List.set_cons_zero, List.set_cons_succ, List.getElem?_cons_zero, List.getElem?_cons_succ, v_ix_l B1.st, atI_nat, est, atK_some, eq_itm ix, blK_bl]
    by_cases he : some (stp w p) = o
    · rw [if_pos he] at epk
      simp [he]
      exact qs p a _ _ epk hp k1
    · rw [if_neg he] at epk
      simp [he]
      rw [shl1 (by omega)]
      simp only [v_add_i, ea, v_ix_l B1.wy, atI_nat, way_get hlt, atK_some]
      refine ⟨rfl, a + cn w (m + 2 ^ p), some (.int (p : Nat)), ?_, ?_⟩
      · rw [epk]; unfold cn; rw [U_add hp]
      · simp; omega
  · rintro fr h2 ⟨rfl, a, c', epk, rfl⟩
    have : (iL (sfre w (U w.length m))).length = (sfre w (U w.length m)).length := by simp [iL]
    rw [this, List.drop_length] at epk
    exact qn _ _ _ epk k1
end
end K48
namespace K48
open PySem FL PySem.W PyProof.Rows
section
variable {h : MH} {Q : PV → MH → Prop} {E : Exc → MH → Prop}
theorem number_sp {n no : Nat} {w : List Stp} {xs : List PV} {os : List (Option Stp)} (hw : w.length ≤ 12) (e1 : lget h n = some (w.map enc)) (e2 : lget h no = some xs) (L : ItL xs os) :
    (F_order_number [.ref n, .ref no] h).sat (fun v h' => ∃ k : Nat, rnk w os = some k ∧ v = .int k ∧ Kept [] h h') (fun c h' => rnk w os = none ∧ c = notOrd ∧ Kept [] h h') := by
  refine sat_order_number ?_
  unfold c_order_number
  simp
  refine sat_to (compl_sp hw e1) ?_
  rintro _ h1 ⟨n2, rfl, k1, hn2, g1⟩
  have f1 : lget h1 n = some (w.map enc) := k1.lget e1 (by simp)
  have f2 : lget h1 no = some xs := k1.lget e2 (by simp)
  simp [v_len_l f1, v_len_l f2, L.len]
  by_cases hl : ¬ os.length = w.length
  · have : rnk w os = none := by unfold rnk; rw [if_neg hl]
    have hl' : (os.length : Int) ≠ w.length := by exact_mod_cast hl
    simp [hl, hl', this, notOrd, CEs.len, k1]
  have hl := Classical.not_not.mp hl
  have hl' : (os.length : Int) = w.length := by exact_mod_cast hl
  have hr : rnk w os = rk w (List.range w.length) os := by unfold rnk; rw [if_pos hl]
  simp [hl, hl', hr]
  refine sat_to (befores_sp f1 (by omega)) ?_
  rintro _ h2 ⟨rfl, k2, g2⟩
  have hn := lget_lt f1
  have hno := lget_lt f2
  have hn2' : n2 < h1.length := (List.getElem?_eq_some_iff.mp g1).1
  have hl2 : h1.length < h2.length := (List.getElem?_eq_some_iff.mp g2).1
  have B : Bas w n n2 h1.length h2 := ⟨k2.lget f1 (by simp), k2.lget (lget_lst g1) (by simp), lget_lst g2⟩
  have f3 : lget h2 no = some xs := k2.lget f2 (by simp)
  have k12 := k1.trans k2
  simp only [ws_for, w_val, w_loc, List.set_cons_zero, List.set_cons_succ, List.getElem?_cons_zero, List.getElem?_cons_succ]
  simp only [itK_ref, lget_lst, f3, Option.isSome_some, true_and]
  refine sat_forL f3 (I := Np w os n no n2 h1.length h2) ⟨0, 0, none, none, none, Nat.two_pow_pos _, by rw [U_0]; simp, by rw [U_0]; simp, Kept.refl _ _, rfl⟩ ?_ ?_ ?_
  · rintro i fr h3 ⟨m, num, a, b, c, hm, hlen, ek, k3, rfl⟩
    exact k3.lget f3 (by simp)
  · rintro i x fr h3 hx ⟨m, num, a, b, c, hm, hlen, ek, k3, rfl⟩
    refine ⟨_, rfl, ?_⟩
    have B3 := B.keep k3 (by simp) (by simp) (by simp)
    obtain ⟨o, eo, ix⟩ := L.itm i x hx
    have ed : os.drop i = o :: os.drop (i + 1) := by
      have hj := (List.getElem?_eq_some_iff.mp eo).1
      rw [List.drop_eq_getElem_cons hj, (List.getElem?_eq_some_iff.mp eo).2]
    rw [ed] at ek
    simp only [ssat_cons, ws_asg, w_cst, List.set_cons_zero, List.set_cons_succ, sqK_nx]
    refine seek_sp (o := o) hw hm B3 ix ?_ ?_
    · intro h' num' c' ep k4
      have : rk w (List.range w.length) os = none := by
        rw [ek, rk, ep]; rfl
      simp [this, notOrd, CEs.len, (k12.trans k3).trans k4]
    · intro p a' h' c' ep hp k4
      have hpn : p < w.length := U_lt p hp
      have hu := U_len_add hp
      have ea : (m : Int) + ((2 ^ p : Nat) : Int) = ((m + 2 ^ p : Nat) : Int) := by omega
      simp only [ssat_cons, ssat_nil, sqK_nx, ws_ite, ws_asg, w_bin, w_cst, w_cmp, w_loc, List.set_cons_zero, List.set_cons_succ, List.getElem?_cons_zero, List.getElem?_cons_succ]
      simp
      rw [shl1 (by omega)]
      simp only [v_add_i, ea]
      refine ⟨m + 2 ^ p, num + a', _, _, _, add_lt hm hp, by omega, ?_, k3.trans k4, rfl⟩
      rw [ek, rk, ep, U_add hp]
      simp [Nat.add_comm, Nat.add_left_comm, Function.comp_def]
  · rintro fr h3 ⟨m, num, a, b, c, hm, hlen, ek, k3, rfl⟩
    rw [L.len, List.drop_length] at ek
    simp [ek, rk]
    exact k12.trans k3
end
end K48
namespace K48
open PySem FL PySem.W PyProof.Rows
/-! ### the deck -/
structure Deck (n : Nat) (i m s : Int) (c : Nat) (cs : List Int) (h : MH) : Prop where
  own : h[n]? = some (.lst [.int i, .int m, .int s, .ref c])
  cel : lget h c = some (cs.map PV.int)
  pos : 0 ≤ i
  ne : n ≠ c
def Dk (n c : Nat) (h : MH) : Prop := ∃ (i m s : Int) (cs : List Int), Deck n i m s c cs h
theorem lget_set_ne {h : MH} {n c : Nat} {o : MO} (hn : n ≠ c) : lget (h.set n o) c = lget h c := by
  unfold lget; rw [List.getElem?_set_ne hn]
theorem Deck.set {n : Nat} {i m s : Int} {c : Nat} {cs : List Int} {h : MH} (d : Deck n i m s c cs h) (i' m' s' : Int) (hi : 0 ≤ i') : Deck n i' m' s' c cs (h.set n (.lst [.int i', .int m', .int s', .ref c])) :=
  ⟨get_set d.own, by rw [lget_set_ne d.ne]; exact d.cel, hi, d.ne⟩
theorem Dk.lt {n c : Nat} {h : MH} (d : Dk n c h) : n < h.length ∧ c < h.length ∧ n ≠ c := by
  obtain ⟨i, m, s, cs, d⟩ := d
  exact ⟨(List.getElem?_eq_some_iff.mp d.own).1, lget_lt d.cel, d.ne⟩
theorem Dk.keep {n c : Nat} {h h' : MH} {S : List Nat} (d : Dk n c h) (k : Kept S h h') (h1 : n ∉ S) (h2 : c ∉ S) : Dk n c h' := by
  obtain ⟨i, m, s, cs, d⟩ := d
  exact ⟨i, m, s, cs, k.at d.own h1, k.lget d.cel h2, d.pos, d.ne⟩
theorem Dk.keep0 {n c : Nat} {h h' : MH} (d : Dk n c h) (k : Kept [] h h') : Dk n c h' := d.keep k (fun z => nomatch z) (fun z => nomatch z)
theorem Dk.app {n c : Nat} {h : MH} (d : Dk n c h) (g : MH) : Dk n c (h ++ g) := d.keep0 ((Kept.refl [] h).app g)
theorem Dk.set {n c k : Nat} {h : MH} (d : Dk n c h) (o : MO) (h1 : k ≠ n) (h2 : k ≠ c) : Dk n c (h.set k o) :=
  d.keep ((Kept.refl [k] h).setIn (by simp) o) (by simpa using fun z => h1 z.symm) (by simpa using fun z => h2 z.symm)
/-- the deck moved on, all else stands -/
structure Dr (n c : Nat) (h h' : MH) : Prop where
  k : Kept [n] h h'
  d : Dk n c h'
theorem Dr.trans {n c : Nat} {h h1 h2 : MH} (a : Dr n c h h1) (b : Dr n c h1 h2) : Dr n c h h2 := ⟨a.k.trans b.k, b.d⟩
theorem Dr.refl {n c : Nat} {h : MH} (d : Dk n c h) : Dr n c h h := ⟨Kept.refl _ _, d⟩
theorem Dr.app {n c : Nat} {h h1 : MH} (a : Dr n c h h1) (g : MH) : Dr n c h (h1 ++ g) := ⟨a.k.app g, a.d.app g⟩
theorem Dr.keep {n c : Nat} {h h1 h2 : MH} (a : Dr n c h h1) (k : Kept [] h1 h2) : Dr n c h h2 := ⟨a.k.trans k.any, a.d.keep0 k⟩
theorem Dr.keepNew {n c : Nat} {h h1 h2 : MH} {S : List Nat} (a : Dr n c h h1) (d : Dk n c h) (k : Kept S h1 h2) (hS : ∀ i ∈ S, h.length ≤ i) : Dr n c h h2 := by
  have hl := d.lt
  exact ⟨keptNew a.k k hS, a.d.keep k (fun z => by have := hS _ z; omega) (fun z => by have := hS _ z; omega)⟩
section
variable {h : MH} {Q : PV → MH → Prop} {E : Exc → MH → Prop}
theorem int_nat {a b : Int} (hb : 0 < b) : ∃ k : Nat, a % b = k ∧ (k : Int) < b := by
  refine ⟨(a % b).toNat, ?_, ?_⟩
  · rw [Int.toNat_of_nonneg (Int.emod_nonneg _ (by omega))]
  · rw [Int.toNat_of_nonneg (Int.emod_nonneg _ (by omega))]; exact Int.emod_lt_of_pos _ hb
theorem set_deck {n : Nat} {i m s : Int} {c : Nat} {cs : List Int} {K : Unit → MH → Prop} (d : Deck n i m s c cs h) (x : Int) :
    ((setM (.ref n) (.int 0) (.int x) h).sat K E = K () (h.set n (.lst [.int x, .int m, .int s, .ref c]))) ∧ ((setM (.ref n) (.int 1) (.int x) h).sat K E = K () (h.set n (.lst [.int i, .int x, .int s, .ref c]))) ∧ ((setM (.ref n) (.int 2) (.int x) h).sat K E = K () (h.set n (.lst [.int i, .int m, .int x, .ref c]))) :=
  ⟨v_set d.own (i := ((0 : Nat) : Int)) (ixN_nat (by simp)), v_set d.own (i := ((1 : Nat) : Int)) (ixN_nat (by simp)), v_set d.own (i := ((2 : Nat) : Int)) (ixN_nat (by simp))⟩
theorem draw_sp {n c : Nat} {many : Int} (d : Dk n c h) (hm : 0 < many ∧ many ≤ 1000) : (F__law_draw [.ref n, .int many] h).sat (fun v h' => ∃ k : Nat, v = .int k ∧ (k : Int) < many ∧ Dr n c h h') noE := by
  obtain ⟨i, m, s, cs, d⟩ := d
  have a := lget_lst d.own
  have hdiv : 0 < many ∧ many.natAbs.log2 < 9000 := ⟨hm.1, by
    have : many.natAbs ≤ 1000 := by omega
    have h2 : many.natAbs < 2 ^ 10 := by omega
    have : many.natAbs.log2 < 10 := by
      by_cases z : many.natAbs = 0
      · rw [z]; decide
      · exact (Nat.log2_lt z).mpr h2
    omega⟩
  refine sat__law_draw ?_
  unfold c__law_draw
  have fin : ∀ (x : Int) (h' : MH), Kept [n] h h' → Dk n c h' → ∃ k : Nat, x % many = k ∧ (k : Int) < many ∧ Dr n c h h' := fun x h' k e => by
    obtain ⟨j, hj, hl⟩ := int_nat (a := x) hm.1
    exact ⟨j, by rw [hj], hl, ⟨k, e⟩⟩
  have kn : ∀ {o : MO} {h' : MH}, Kept [n] h h' → Kept [n] h (h'.set n o) := fun k => k.setIn (by simp) _
  have hmul : ∀ {K : PV → MH → Prop} {h' : MH}, (binM .Mult (.int s) (.int 1103515245) h').sat K noE = K (.int (s * 1103515245)) h' := v_mul_i (by simp [small64])
  have h64 : ∀ {x : Int} {K : PV → MH → Prop} {h' : MH}, (binM .FloorDiv (.int x) (.int 65536) h').sat K noE = K (.int (x / 65536)) h' := v_div_i (by decide)
  have h31 : ∀ {x : Int} {K : PV → MH → Prop} {h' : MH}, (binM .Mod (.int x) (.int 2147483648) h').sat K noE = K (.int (x % 2147483648)) h' := v_mod_i (by decide)
  simp [v_ix_l a, v_len_l d.cel]
  by_cases h0 : 0 < m
  · simp [h0, v_div_i hdiv, (set_deck d _).2.1, v_mod_i hm.1]
    exact fin _ _ (kn (Kept.refl _ _)) ⟨_, _, _, _, d.set i (m / many) s d.pos⟩
  · simp only [h0, if_false]
    by_cases h1 : i < (cs.length : Int)
    · obtain ⟨j, rfl⟩ : ∃ j : Nat, i = j := ⟨i.toNat, by have := d.pos; omega⟩
      have hlt : j < cs.length := by omega
      have ec : L2.atI (cs.map PV.int) (j : Int) = some (.int cs[j]) := by
        rw [atI_nat]; simp [hlt]
      have d1 := d.set (j + 1) m s (by omega)
      simp [h1, v_ix_l d.cel, ec, v_ix_l a, (set_deck d _).1, v_div_i hdiv, (set_deck d1 _).2.1, v_mod_i hm.1]
      exact fin _ _ (kn (Kept.refl _ _)) ⟨_, _, _, _, d.set (j + 1) _ s (by omega)⟩
    · simp [h1, v_ix_l a, hmul, h31, (set_deck d _).2.2, h64, v_mod_i hm.1]
      exact fin _ _ (kn (Kept.refl _ _)) ⟨_, _, _, _, d.set i m _ d.pos⟩
/-- a comprehension that draws -/
theorem sat_lcD {n c : Nat} {h0 : MH} {xs : List PV} {P : PV → Prop} {step : PV → M (Option PV)} {Q : Unit → MH → Prop} (d : Dk n c h0) (hb : xs.length ≤ big)
    (hs : ∀ x ∈ xs, ∀ h1, Dr n c h0 h1 → (step x h1).sat (fun r h2 => (∃ v, r = some v ∧ P v) ∧ Dr n c h1 h2) noE) (fin : ∀ h1 acc, Dr n c h0 h1 → h1[h0.length]? = some (.lst acc) → acc.length = xs.length → (∀ v ∈ acc, P v) → Q () h1) :
    (compL (.seq xs) h0.length step ((IT.seq xs).fuel h0) 0 (h0 ++ [.lst []])).sat Q noE := by
  have hl := d.lt
  refine sat_compL (J := fun i acc h1 => Dr n c h0 h1 ∧ h1[h0.length]? = some (.lst acc) ∧ acc.length = i ∧ ∀ v ∈ acc, P v) (xs := xs) (fun i acc h1 q hi => rfl) ?_ ?_ _ 0 [] _ (by have := fuel_seq (h0 := h0) (xs := xs); omega) (Nat.zero_le _) ⟨(Dr.refl d).app _, by simp, rfl, fun _ z => nomatch z⟩
  · rintro i x acc h1 hx ⟨k1, k2, k3, k4⟩
    refine sat_mono (hs x (List.mem_of_getElem? hx) h1 k1) ?_ fun _ _ z => z
    rintro r h2 ⟨⟨v, rfl, pv⟩, k5⟩
    have k6 := k5.k.at k2 (by simp; omega)
    have hi := (List.getElem?_eq_some_iff.mp hx).1
    refine ⟨wl_lst k6, by omega, ⟨(k1.k.trans k5.k).setNew (Nat.le_refl _) _, k5.d.set _ (by omega) (by omega)⟩, get_set k6, by simp [k3], ?_⟩
    intro u hu
    rcases List.mem_append.mp hu with z | z
    · exact k4 u z
    · simp at z; rw [z]; exact pv
  · rintro acc h1 ⟨k1, k2, k3, k4⟩
    exact fin h1 acc k1 k2 k3 k4
end
end K48
namespace K48
open PySem FL PySem.W PyProof.Rows
def abc : List Char := ['a', 'b', 'c', 'd', 'e', 'f', 'g', 'h', 'i', 'j', 'k', 'l', 'm', 'n', 'o', 'p', 'q', 'r', 's', 't', 'u', 'v', 'w', 'x', 'y', 'z']
theorem abc_len : abc.length = 26 := rfl
theorem abc_big : abc.length ≤ big := by rw [abc_len]; unfold big; omega
/-- the two-letter words -/
def twos : List Nm := (List.range 676).map fun k => [abc.getD (k / 26) 'a', abc.getD (k % 26) 'a']
theorem sub_len {α : Type} [DecidableEq α] : ∀ {l us : List α}, l.Nodup → (∀ a ∈ l, a ∈ us) → l.length ≤ us.length
  | [], us, _, _ => Nat.zero_le _
  | a :: l, us, hl, hs => by
    have ha := hs a (List.mem_cons_self ..)
    rw [List.nodup_cons] at hl
    have := sub_len (us := us.erase a) hl.2 fun b hb => (List.mem_erase_of_ne fun z => hl.1 (by rw [← z]; exact hb)).mpr (hs b (List.mem_cons_of_mem _ hb))
    rw [List.length_erase_of_mem ha] at this
    have := List.length_pos_of_mem ha
    simp only [List.length_cons]
    omega
/-- of many more words than are used some are not used -/
theorem some_free {l us : List Nm} (hl : l.Nodup) (hn : us.length < l.length) : ∃ a ∈ l, a ∉ us := by
  refine Classical.byContradiction fun z => ?_
  have := sub_len hl (us := us) fun a ha => Classical.byContradiction fun q => z ⟨a, ha, q⟩
  omega
theorem twos_nodup : (twos.take 26).Nodup := by decide +kernel
theorem twos_len : (twos.take 26).length = 26 := by simp [twos]
section
variable {h : MH} {Q : PV → MH → Prop} {E : Exc → MH → Prop}
theorem abc_at {i : Nat} {K : PV → MH → Prop} (hi : i < 26) : (ixM (.str abc) (.int i) h).sat K E = K (.str [abc.getD i 'a']) h := by
  rw [v_ix_s abc_big, atI_nat, List.getD_eq_getElem?_getD]
  have : i < abc.length := hi
  simp [this]
def two : PV → Option PV
  | .int k => some (.str [abc.getD (k.toNat / 26) 'a', abc.getD (k.toNat % 26) 'a'])
  | _ => none
def unused (us : List Nm) : PV → Option PV
  | .str a => if a ∈ us then none else some (.str a)
  | _ => none
theorem nats_map : ∀ {n : Nat} {lo : Int}, nats lo n = (List.range n).map fun (i : Nat) => PV.int (lo + (i : Int))
  | 0, lo => by unfold nats; rfl
  | n + 1, lo => by
    unfold nats
    rw [nats_map, List.range_succ_eq_map, List.map_cons, List.map_map]
    congr 1
    · simp
    · apply List.map_congr_left
      intro a _
      simp only [Function.comp_apply]
      congr 1
      omega
theorem twos_eq : (nats 0 676).filterMap two = twos.map PV.str := by
  rw [nats_map]
  unfold twos
  rw [List.filterMap_map, List.map_map]
  rw [show ((two ∘ fun (i : Nat) => PV.int (0 + (i : Int))) : Nat → Option PV) = some ∘ (PV.str ∘ fun k => [abc.getD (k / 26) 'a', abc.getD (k % 26) 'a']) from funext fun k => by simp [two], List.filterMap_eq_map]
theorem un_eq {us l : List Nm} : (l.map PV.str).filterMap (unused us) = (l.filter fun a => decide (a ∉ us)).map PV.str := by
  induction l with
  | nil => rfl
  | cons a l ih =>
    rw [List.map_cons, List.filterMap_cons, List.filter_cons]
    by_cases q : a ∈ us <;> simp [q, unused, ih]
theorem wsize {kind d8 : Nat} (hk : kind < 4) (hd : d8 < 8) : ∃ sz : Nat, L2.atI [PV.int 1, .int 1, .int 2, .int (1 + (d8 : Int))] (kind : Int) = some (.int (sz : Int)) ∧ sz ≤ 8 := by
  rw [atI_nat]
  match kind, hk with
  | 0, _ => exact ⟨1, rfl, by omega⟩
  | 1, _ => exact ⟨1, rfl, by omega⟩
  | 2, _ => exact ⟨2, rfl, by omega⟩
  | 3, _ => exact ⟨1 + d8, by simp, by omega⟩
theorem wmany {kind : Nat} (hk : kind < 4) : ∃ m : Int, L2.atI [PV.int 4, .int 26, .int 26, .int 26] (kind : Int) = some (.int m) ∧ 0 < m ∧ m ≤ 26 := by
  rw [atI_nat]
  match kind, hk with
  | 0, _ => exact ⟨4, rfl, by omega⟩
  | 1, _ => exact ⟨26, rfl, by omega⟩
  | 2, _ => exact ⟨26, rfl, by omega⟩
  | 3, _ => exact ⟨26, rfl, by omega⟩
def Wp (n c u kind sz : Nat) (h : MH) (i : Nat) (fr : Fr) (h4 : MH) : Prop := Dr n c h h4 ∧ ∃ (a : Nm) (b : Option PV), a.length = i ∧ fr = [some (.ref n), some (.ref u), some (.str abc), some (.int kind), some (.int sz), some (.str a), b, none, none]
theorem word_sp {n c u : Nat} {us : List Nm} (d : Dk n c h) (e : lget h u = some (us.map PV.str)) (hu : u ≠ n) (hl : us.length ≤ 20) :
    (F__law_word [.ref n, .ref u] h).sat (fun v h' => ∃ a, v = .str a ∧ a ∉ us ∧ Dr n c h h') noE := by
  refine sat__law_word ?_
  unfold c__law_word
  simp
  refine sat_to (draw_sp d (by omega)) ?_
  rintro _ h1 ⟨kind, rfl, hk, r1⟩
  refine sat_to (draw_sp r1.d (by omega)) ?_
  rintro _ h2 ⟨d8, rfl, hd, r2⟩
  obtain ⟨sz, es, hsz⟩ := wsize (kind := kind) (d8 := d8) (by omega) (by omega)
  obtain ⟨mn, em, hm0, hm⟩ := wmany (kind := kind) (by omega)
  simp
  refine ⟨by unfold big; omega, ?_⟩
  rw [v_ix_l (lget_lst get_new), es]
  simp [ws_for]
  refine ⟨by unfold okR; simp; omega, ?_⟩
  have r3 := (r1.trans r2).app [MO.lst [.int 1, .int 1, .int 2, .int (1 + (d8 : Int))]]
  generalize h2 ++ [MO.lst [PV.int 1, PV.int 1, PV.int 2, PV.int (1 + (d8 : Int))]] = h3 at r3 ⊢
  refine sat_forS (Wp n c u kind sz h) ⟨r3, [], none, rfl, rfl⟩ ?_ ?_
  · rintro i x fr h4 hx ⟨r4, a, b, ha, e9⟩
    subst e9
    obtain ⟨rfl, hi⟩ := nats_at hx
    refine ⟨_, rfl, ?_⟩
    simp
    refine ⟨by unfold big; omega, ?_⟩
    rw [v_ix_l (lget_lst get_new), em]
    have r5 := r4.app [MO.lst [.int 4, .int 26, .int 26, .int 26]]
    simp
    refine sat_to (draw_sp r5.d (by omega)) ?_
    rintro _ h6 ⟨p, rfl, hp, r6⟩
    rw [abc_at (by omega), v_add_s (by simp; unfold big; omega)]
    exact ⟨r5.trans r6, _, _, by simp [ha], rfl⟩
  · rintro fr h4 ⟨r4, a, b, ha, e9⟩
    subst e9
    have f4 : lget h4 u = some (us.map PV.str) := r4.k.lget e (by simpa using hu)
    simp
    rw [v_nin_sl us f4]
    simp
    by_cases hin : a ∈ us
    · simp [hin, w_lc]
      refine ⟨by unfold okR; simp, ?_⟩
      refine sat_lcP (S := []) (xs := nats 0 676) (g := two) (fun n z => nomatch z) at_seq fuel_seq (by rw [nats_len]; unfold big; omega) ?_ ?_
      · intro x hx h5 k5 _
        obtain ⟨j, hj⟩ := List.getElem?_of_mem hx
        obtain ⟨rfl, hi⟩ := nats_at hj
        refine sat_lcStep rfl ?_
        simp [wipeF]
        rw [v_div_i (by decide)]
        have e1 : (j : Int) / 26 = ((j / 26 : Nat) : Int) := by simp
        have e2 : (j : Int) % 26 = ((j % 26 : Nat) : Int) := by simp
        rw [e1, abc_at (by omega), v_mod_i (by decide), e2, abc_at (by omega), v_add_s (by simp)]
        exact ⟨by simp [two], Kept.refl _ _⟩
      · intro h5 k5 g5
        have e5 : (nats 0 676).filterMap two = twos.map PV.str := twos_eq
        rw [e5] at g5
        have f5 : lget h5 u = some (us.map PV.str) := k5.lget f4 (by simp)
        have g5' := lget_lst g5
        simp [g5', w_lc]
        refine sat_lcP (S := []) (g := unused us) (fun n z => nomatch z) (at_lst g5' (by simp)) (fuel_lst g5') (by simp [twos]; unfold big; omega) ?_ ?_
        · intro x hx h6 k6 _
          obtain ⟨a', ha', rfl⟩ := List.mem_map.mp hx
          refine sat_lcStep rfl ?_
          have f6 : lget h6 u = some (us.map PV.str) := k6.lget f5 (by simp)
          simp [wipeF]
          rw [v_nin_sl us f6]
          by_cases q : a' ∈ us <;> simp [q, unused, Kept.refl]
        · intro h6 k6 g6
          rw [un_eq] at g6
          obtain ⟨b0, hb0, hb1⟩ := some_free (us := us) twos_nodup (by rw [twos_len]; omega)
          cases ef : twos.filter (fun a => decide (a ∉ us)) with
          | nil =>
            have : b0 ∈ twos.filter (fun a => decide (a ∉ us)) := List.mem_filter.mpr ⟨List.mem_of_mem_take hb0, by simpa using hb1⟩
            rw [ef] at this; simp at this
          | cons b1 r =>
            have hb : b1 ∈ twos.filter (fun a => decide (a ∉ us)) := by rw [ef]; exact List.mem_cons_self ..
            rw [ef] at g6
            simp [v_ix_l (lget_lst g6)]
            exact ⟨by simpa using (List.mem_filter.mp hb).2, (r4.keep k5).keep k6⟩
    · simp [hin]
      exact r4
end
end K48
namespace K48
open PySem FL PySem.W PyProof.Rows
theorem strs_of : ∀ {l : List PV}, (∀ v ∈ l, ∃ a : Nm, v = .str a) → ∃ p : List Nm, l = p.map PV.str
  | [], _ => ⟨[], rfl⟩
  | v :: l, h => by
    obtain ⟨a, rfl⟩ := h v (List.mem_cons_self ..)
    obtain ⟨p, rfl⟩ := strs_of fun u hu => h u (List.mem_cons_of_mem _ hu)
    exact ⟨a :: p, rfl⟩
section
variable {h : MH} {Q : PV → MH → Prop} {E : Exc → MH → Prop}
theorem path_sp {n c u : Nat} {ws : List Nm} (d : Dk n c h) (e : lget h u = some (ws.map PV.str)) (hu : u ≠ n) (hl : 0 < ws.length ∧ ws.length ≤ 20) :
    (F__law_path [.ref n, .ref u] h).sat (fun v h' => ∃ p : List Nm, v = pth p ∧ p.length ≤ 2 ∧ Dr n c h h') noE := by
  refine sat__law_path ?_
  unfold c__law_path
  simp [w_lc]
  refine sat_to (draw_sp d (by omega)) ?_
  rintro _ h1 ⟨k, rfl, hk, r1⟩
  simp
  refine ⟨by unfold okR; simp; omega, ?_⟩
  refine sat_lcD (P := fun v => ∃ a : Nm, v = .str a) r1.d (by rw [nats_len]; unfold big; omega) ?_ ?_
  · intro x hx h2 r2
    refine sat_lcStep rfl ?_
    have f2 : lget h2 u = some (ws.map PV.str) := r2.k.lget (r1.k.lget e (by simpa using hu)) (by simpa using hu)
    simp [wipeF, v_len_l f2]
    refine sat_to (draw_sp r2.d (by omega)) ?_
    rintro _ h3 ⟨i, rfl, hi, r3⟩
    have f3 : lget h3 u = some (ws.map PV.str) := r3.k.lget f2 (by simpa using hu)
    have hi' : i < ws.length := by omega
    rw [v_ix_l f3, atI_nat]
    simp [hi', r3]
  · intro h2 acc r2 g2 la pa
    obtain ⟨p, rfl⟩ := strs_of pa
    rw [nats_len] at la
    rw [v_tuple (lget_lst g2)]
    exact ⟨p, rfl, by simp at la; omega, r1.trans r2⟩
theorem pick_sp {n c u : Nat} {ws : List Nm} (d : Dk n c h) (e : lget h u = some (ws.map PV.str)) (hu : u ≠ n) (hl : ws.length = 3) {K : PV → MH → Prop} (k : ∀ a h', Dr n c h h' → K (.str a) h') :
    (F__law_draw [.ref n, .int 3] h).sat (fun y h1 => (ixM (.ref u) y h1).sat K noE) noE := by
  refine sat_to (draw_sp d (by omega)) ?_
  rintro _ h1 ⟨i, rfl, hi, r1⟩
  have f : lget h1 u = some (ws.map PV.str) := r1.k.lget e (by simpa using hu)
  have hi' : i < ws.length := by omega
  rw [v_ix_l f, atI_nat]
  simp [hi']
  exact k _ _ r1
theorem step_sp {n c t u kind : Nat} {ts ws : List Nm} (d : Dk n c h) (e1 : lget h t = some (ts.map PV.str)) (e2 : lget h u = some (ws.map PV.str)) (ht : t ≠ n) (hu : u ≠ n) (lt : ts.length = 3) (lu : ws.length = 3) (hk : kind < 8) :
    (F__law_step [.ref n, .int kind, .ref t, .ref u] h).sat (fun v h' => ∃ s, v = enc s ∧ okS s ∧ Dr n c h h') noE := by
  refine sat__law_step ?_
  unfold c__law_step
  simp
  refine pick_sp d e1 ht lt fun n0 h1 r1 => ?_
  have f1 := r1.k.lget e1 (by simpa using ht)
  refine pick_sp r1.d f1 ht lt fun n1 h2 r2 => ?_
  have f2 := r2.k.lget (r1.k.lget e2 (by simpa using hu)) (by simpa using hu)
  have r12 := (r1.trans r2).app [MO.lst [.str n0, .str n1]]
  have g3 : (h2 ++ [MO.lst [PV.str n0, PV.str n1]])[h2.length]? = some (.lst [.str n0, .str n1]) := get_new
  have f3 : lget (h2 ++ [MO.lst [PV.str n0, PV.str n1]]) u = some (ws.map PV.str) := ((Kept.refl [] h2).app _).lget f2 (by simp)
  have l3 := r2.d.lt.1
  generalize h2 ++ [MO.lst [PV.str n0, PV.str n1]] = h3 at r12 g3 f3 ⊢
  refine pick_sp r12.d f3 hu lu fun w0 h4 r4 => ?_
  have f4 := r4.k.lget f3 (by simpa using hu)
  refine pick_sp r4.d f4 hu lu fun w1 h5 r5 => ?_
  have f5 := r5.k.lget f4 (by simpa using hu)
  have g5 := (r4.k.trans r5.k).at g3 (by simp; omega)
  rw [v_add_l (xs := [.str n0, .str n1]) (ys := [.str w0, .str w1]) (wl_lst (by rw [List.getElem?_append_left (List.getElem?_eq_some_iff.mp g5).1]; exact g5)) (wl_lst get_new) (by simp; unfold big; omega)]
  have r6 := (((r12.trans r4).trans r5).app [MO.lst [.str w0, .str w1]]).app [MO.lst [.str n0, .str n1, .str w0, .str w1]]
  have g6 : (h5 ++ [MO.lst [PV.str w0, PV.str w1]] ++ [MO.lst [PV.str n0, PV.str n1, PV.str w0, PV.str w1]])[(h5 ++ [MO.lst [PV.str w0, PV.str w1]]).length]? = some (.lst [.str n0, .str n1, .str w0, .str w1]) := get_new
  have f6 : lget (h5 ++ [MO.lst [PV.str w0, PV.str w1]] ++ [MO.lst [PV.str n0, PV.str n1, PV.str w0, PV.str w1]]) u = some (ws.map PV.str) := (((Kept.refl [] h5).app _).app _).lget f5 (by simp)
  have l6 : n < (h5 ++ [MO.lst [PV.str w0, PV.str w1]]).length := by have := r5.d.lt.1; simp; omega
  simp only [List.cons_append, List.nil_append]
  generalize h5 ++ [MO.lst [PV.str w0, PV.str w1]] ++ [MO.lst [PV.str n0, PV.str n1, PV.str w0, PV.str w1]] = h6 at r6 g6 f6 ⊢
  generalize (h5 ++ [MO.lst [PV.str w0, PV.str w1]]).length = v6 at g6 l6 ⊢
  refine sat_to (path_sp r6.d f6 hu (by omega)) ?_
  rintro _ h7 ⟨p, rfl, hp, r7⟩
  have f7 := r7.k.lget f6 (by simpa using hu)
  refine sat_to (path_sp r7.d f7 hu (by omega)) ?_
  rintro _ h8 ⟨q, rfl, hq, r8⟩
  have r9 := ((r6.trans r7).trans r8).app [MO.lst [pth p, pth q]]
  have g8 := (r7.k.trans r8.k).at g6 (by simp; omega)
  have g9 : lget (h8 ++ [MO.lst [pth p, pth q]]) v6 = some [.str n0, .str n1, .str w0, .str w1] := lget_lst (((Kept.refl [] h8).app _).at g8 (by simp))
  have g10 : lget (h8 ++ [MO.lst [pth p, pth q]]) h8.length = some [pth p, pth q] := lget_lst get_new
  generalize h8 ++ [MO.lst [pth p, pth q]] = h9 at r9 g9 g10 ⊢
  have b4 : 4 ≤ big := by unfold big; omega
  have b8 : 8 ≤ big := by unfold big; omega
  simp [v_ix_l g9, v_ix_l g10, b4, b8]
  rw [v_ix_l (lget_lst get_new), atI_nat]
  have ra := r9.app [MO.lst [enc (.addT n0), enc (.addC n0 w0 n1), enc (.addR n0 p q), enc (.drpT n0), enc (.drpC n0 w0), enc (.drpR n0 p q), enc (.namT n0 n1), enc (.namC n0 w0 w1)]]
  have hp' : p.length ≤ 100 := by omega
  have hq' : q.length ≤ 100 := by omega
  match kind, hk with
  | 0, _ => exact ⟨.addT n0, rfl, trivial, ra⟩
  | 1, _ => exact ⟨.addC n0 w0 n1, rfl, trivial, ra⟩
  | 2, _ => exact ⟨.addR n0 p q, rfl, ⟨hp', hq'⟩, ra⟩
  | 3, _ => exact ⟨.drpT n0, rfl, trivial, ra⟩
  | 4, _ => exact ⟨.drpC n0 w0, rfl, trivial, ra⟩
  | 5, _ => exact ⟨.drpR n0 p q, rfl, ⟨hp', hq'⟩, ra⟩
  | 6, _ => exact ⟨.namT n0 n1, rfl, trivial, ra⟩
  | 7, _ => exact ⟨.namC n0 w0 w1, rfl, trivial, ra⟩
end
end K48
namespace K48
open PySem FL PySem.W PyProof.Rows
/-- words drawn so far, in the list u -/
def Ws (n c u : Nat) (h : MH) (i : Nat) (h4 : MH) : Prop := Dr n c h h4 ∧ ∃ us : List Nm, us.length = i ∧ us.Nodup ∧ h4[u]? = some (.lst (us.map PV.str))
theorem three {α : Type} {l : List α} (h : l.length = 3) : ∃ a b c, l = [a, b, c] := by
  match l, h with
  | [a, b, c], _ => exact ⟨a, b, c, rfl⟩
def Lz (n c t u ur low : Nat) (h : MH) (ts ws : List Nm) (i : Nat) (fr : Fr) (h4 : MH) : Prop := Dr n c h h4 ∧ h4[t]? = some (.lst (ts.map PV.str)) ∧ h4[u]? = some (.lst (ws.map PV.str)) ∧ ∃ w : List Stp, w.length = i ∧ (∀ s ∈ w, okS s) ∧ h4[ur]? = some (.lst (w.map enc)) ∧
  ∃ (x1 x2 x3 : Option PV), fr = [some (.ref n), some (.ref t), x1, some (.ref u), some (.int low), some (.ref ur), x2, x3]
section
variable {h : MH} {Q : PV → MH → Prop} {E : Exc → MH → Prop}
/-- one word more -/
theorem more_sp {n c u i : Nat} {h4 : MH} (hu : u ≠ n ∧ u ≠ c ∧ h.length ≤ u) (hi : i ≤ 20) (W : Ws n c u h i h4) {K : MH → Prop} (k : ∀ h', Ws n c u h (i + 1) h' → K h') :
    (F__law_word [.ref n, .ref u] h4).sat (fun y h1 => (mthM .list .append (.ref u) [y] h1).sat (fun _ h2 => K h2) noE) noE := by
  obtain ⟨r, us, hl, hd, g⟩ := W
  refine sat_to (word_sp r.d (lget_lst g) hu.1 (by omega)) ?_
  rintro _ h5 ⟨a, rfl, ha, r5⟩
  have g5 := r5.k.at g (by simpa using hu.1)
  rw [v_append, wl_lst g5]
  refine ⟨by simp; unfold big; omega, k _ ⟨⟨(r.k.trans r5.k).setNew hu.2.2 _, r5.d.set _ hu.1 hu.2.1⟩, us ++ [a], by simp [hl], ?_, ?_⟩⟩
  · rw [List.nodup_append]
    exact ⟨hd, by simp, fun x hx y hy => by simp at hy; subst hy; intro z; subst z; exact ha hx⟩
  · rw [get_set g5]; simp
theorem loose_sp {n c : Nat} (d : Dk n c h) : (F__law_loose [.ref n] h).sat (fun v h' => ∃ (r : Nat) (w : List Stp), v = .ref r ∧ w.length ≤ 8 ∧ (∀ s ∈ w, okS s) ∧ h.length ≤ r ∧ h'[r]? = some (.lst (w.map enc)) ∧ Dr n c h h') noE := by
  have hl := d.lt
  refine sat__law_loose ?_
  unfold c__law_loose
  simp [ws_for]
  refine ⟨by unfold okR; simp, ?_⟩
  refine sat_forS (fun i fr h4 => Ws n c h.length h i h4 ∧ ∃ b, fr = [some (.ref n), some (.ref h.length), b, none, none, none, none, none]) ⟨⟨(Dr.refl d).app _, [], rfl, by simp, get_new⟩, none, rfl⟩ ?_ ?_
  · rintro i x fr h4 hx ⟨W, b, rfl⟩
    obtain ⟨rfl, hi⟩ := nats_at hx
    refine ⟨_, rfl, ?_⟩
    obtain ⟨r, us, hl', hd, g⟩ := id W
    simp [kind_l (lget_lst g), -v_append]
    refine more_sp ⟨by omega, by omega, Nat.le_refl _⟩ (by omega) W fun h' W' => ?_
    exact W'
  · rintro fr h4 ⟨⟨r4, ts, lt, -, gt⟩, b, rfl⟩
    rw [nats_len] at lt
    have ht := (List.getElem?_eq_some_iff.mp gt).1
    simp [ws_for]
    refine ⟨by unfold okR; simp, ?_⟩
    refine sat_forS (fun i fr h5 => Ws n c h4.length h4 i h5 ∧ ∃ b, fr = [some (.ref n), some (.ref h.length), b, some (.ref h4.length), none, none, none, none]) ⟨⟨(Dr.refl r4.d).app _, [], rfl, by simp, get_new⟩, b, rfl⟩ ?_ ?_
    · rintro i x fr h5 hx ⟨W, b, rfl⟩
      obtain ⟨rfl, hi⟩ := nats_at hx
      refine ⟨_, rfl, ?_⟩
      obtain ⟨r, us, hl', hd, g⟩ := id W
      simp [kind_l (lget_lst g), -v_append]
      have := r4.d.lt
      refine more_sp ⟨by omega, by omega, Nat.le_refl _⟩ (by omega) W fun h' W' => ?_
      exact W'
    · rintro fr h5 ⟨⟨r5, ws, lw, -, gw⟩, b, rfl⟩
      rw [nats_len] at lw
      have gt5 := r5.k.at gt (by simp; omega)
      simp
      obtain ⟨a0, a1, a2, rfl⟩ := three lt
      obtain ⟨b0, b1, b2, rfl⟩ := three lw
      have b4 : 4 ≤ big := by unfold big; omega
      have hl4 := r4.d.lt
      simp only [List.map_cons, List.map_nil] at gt5 gw
      simp [v_ix_l (lget_lst gw), v_ix_l (lget_lst gt5), b4]
      have r6 := (r4.trans r5).app [MO.lst [.str b2, .str a0]]
      have g6 : (h5 ++ [MO.lst [PV.str b2, PV.str a0]])[h5.length]? = some (.lst [.str b2, .str a0]) := get_new
      have gt6 := ((Kept.refl [] h5).app [MO.lst [PV.str b2, PV.str a0]]).at gt5 (by simp)
      have gw6 := ((Kept.refl [] h5).app [MO.lst [PV.str b2, PV.str a0]]).at gw (by simp)
      have hl5 := (List.getElem?_eq_some_iff.mp gw).1
      generalize h5 ++ [MO.lst [PV.str b2, PV.str a0]] = h6 at r6 g6 gt6 gw6 ⊢
      refine sat_to (draw_sp r6.d (by omega)) ?_
      rintro _ h7 ⟨k, rfl, hk, r7⟩
      have gt7 := r7.k.at gt6 (by simp; omega)
      have gw7 := r7.k.at gw6 (by simp; omega)
      have g7 := r7.k.at g6 (by simp; omega)
      obtain ⟨z, ez⟩ : ∃ z : Nm, L2.atI [PV.str b2, .str a0] (k : Int) = some (.str z) := by
        rw [atI_nat]
        match k, (show k < 2 by omega) with
        | 0, _ => exact ⟨b2, rfl⟩
        | 1, _ => exact ⟨a0, rfl⟩
      rw [v_ix_l (lget_lst g7), ez, atK_some, v_set (i := 2) (j := 2) gw7 (ixN_nat (k := 2) (by simp))]
      have r8 : Dr n c h (h7.set h4.length (.lst ([PV.str b0, .str b1, .str b2].set 2 (.str z)))) := (r6.trans r7).keepNew d ((Kept.refl [h4.length] h7).setIn (by simp) _) (by simp; omega)
      have gw8 : (h7.set h4.length (.lst ([PV.str b0, .str b1, .str b2].set 2 (.str z))))[h4.length]? = some (.lst [PV.str b0, .str b1, .str z]) := get_set gw7
      have gt8 : (h7.set h4.length (.lst ([PV.str b0, .str b1, .str b2].set 2 (.str z))))[h.length]? = some (.lst [PV.str a0, .str a1, .str a2]) := by rw [List.getElem?_set_ne (by omega)]; exact gt7
      generalize h7.set h4.length (.lst ([PV.str b0, .str b1, .str b2].set 2 (.str z))) = h8 at r8 gw8 gt8 ⊢
      have hl8 := (List.getElem?_eq_some_iff.mp gw8).1
      have k9 := (Kept.refl [] h8).app [MO.lst [.int 0, .int 3, .int 0, .int 0]]
      have g9 : (h8 ++ [MO.lst [PV.int 0, PV.int 3, PV.int 0, PV.int 0]])[h8.length]? = some (.lst [.int 0, .int 3, .int 0, .int 0]) := get_new
      have r9 := r8.keep k9
      have gw9 := k9.at gw8 (by simp)
      have gt9 := k9.at gt8 (by simp)
      generalize h8 ++ [MO.lst [PV.int 0, PV.int 3, PV.int 0, PV.int 0]] = h9 at k9 g9 r9 gw9 gt9 ⊢
      refine sat_to (draw_sp r9.d (by omega)) ?_
      rintro _ h10 ⟨k', rfl, hk', r10⟩
      obtain ⟨low, el, hlow⟩ : ∃ low : Nat, L2.atI [PV.int 0, .int 3, .int 0, .int 0] (k' : Int) = some (.int (low : Int)) ∧ low ≤ 3 := by
        rw [atI_nat]
        match k', (show k' < 4 by omega) with
        | 0, _ => exact ⟨0, rfl, by omega⟩
        | 1, _ => exact ⟨3, rfl, by omega⟩
        | 2, _ => exact ⟨0, rfl, by omega⟩
        | 3, _ => exact ⟨0, rfl, by omega⟩
      have g10 := r10.k.at g9 (by simp; omega)
      have gw10 := r10.k.at gw9 (by simp; omega)
      have gt10 := r10.k.at gt9 (by simp; omega)
      rw [v_ix_l (lget_lst g10), el, atK_some]
      have k11 := (Kept.refl [] h10).app [MO.lst []]
      have g11 : (h10 ++ [MO.lst []])[h10.length]? = some (.lst (([] : List Stp).map enc)) := get_new
      have r11 := (r9.trans r10).keep k11
      have gw11 := k11.at gw10 (by simp)
      have gt11 := k11.at gt10 (by simp)
      have hl10 := (List.getElem?_eq_some_iff.mp gw10).1
      have hd10 := r10.d.lt
      have hn10 : h.length ≤ h10.length := by omega
      generalize h10 ++ [MO.lst []] = h11 at k11 g11 r11 gw11 gt11 ⊢
      generalize h10.length = ur at g11 hl10 hd10 hn10 ⊢
      refine sat_to (draw_sp r11.d (by omega)) ?_
      rintro _ h12 ⟨m, rfl, hm, r12⟩
      have g12 := r12.k.at g11 (by simp; omega)
      have gw12 := r12.k.at gw11 (by simp; omega)
      have gt12 := r12.k.at gt11 (by simp; omega)
      simp
      refine ⟨by unfold okR; simp; omega, ?_⟩
      refine sat_forS (Lz n c h.length h4.length ur low h [a0, a1, a2] [b0, b1, z]) ⟨r11.trans r12, gt12, gw12, [], rfl, by simp, g12, _, _, _, rfl⟩ ?_ ?_
      · rintro i x fr h13 hx ⟨r13, gt13, gw13, w, lw', ow, g13, x1, x2, x3, rfl⟩
        obtain ⟨rfl, hi⟩ := nats_at hx
        refine ⟨_, rfl, ?_⟩
        have fin : ∀ (h14 : MH) (kind : Nat) {K : MH → Prop}, Dr n c h13 h14 → kind < 8 → (∀ (h' : MH) (w' : List Stp), Dr n c h h' → h'[h.length]? = some (.lst (([a0, a1, a2] : List Nm).map PV.str)) → h'[h4.length]? = some (.lst (([b0, b1, z] : List Nm).map PV.str)) → w'.length = i + 1 → (∀ s ∈ w', okS s) → h'[ur]? = some (.lst (w'.map enc)) → K h') →
            (F__law_step [.ref n, .int kind, .ref h.length, .ref h4.length] h14).sat (fun y h1 => (mthM .list .append (.ref ur) [y] h1).sat (fun _ h2 => K h2) noE) noE := by
          intro h14 kind K r14 hk8 kk
          have gt14 := r14.k.at gt13 (by simp; omega)
          have gw14 := r14.k.at gw13 (by simp; omega)
          have g14 := r14.k.at g13 (by simp; omega)
          refine sat_to (step_sp (r14.d) (lget_lst gt14) (lget_lst gw14) (by omega) (by omega) rfl rfl hk8) ?_
          rintro _ h15 ⟨s, rfl, os, r15⟩
          have gt15 := r15.k.at gt14 (by simp; omega)
          have gw15 := r15.k.at gw14 (by simp; omega)
          have g15 := r15.k.at g14 (by simp; omega)
          rw [v_append, wl_lst g15]
          refine ⟨by simp; unfold big; omega, kk _ (w ++ [s]) ⟨((r13.trans r14).trans r15).k.setNew hn10 _, r15.d.set _ (by omega) (by omega)⟩ ?_ ?_ (by simp [lw']) ?_ ?_⟩
          · rw [List.getElem?_set_ne (by omega)]; exact gt15
          · rw [List.getElem?_set_ne (by omega)]; exact gw15
          · intro q hq
            rcases List.mem_append.mp hq with y | y
            · exact ow q y
            · simp at y; rw [y]; exact os
          · rw [get_set g15]; simp
        simp [-v_append]
        refine sat_to (draw_sp r13.d (by omega)) ?_
        rintro _ h14 ⟨k3, rfl, hk3, r14⟩
        simp [-v_append]
        refine sat_to (draw_sp r14.d (by omega)) ?_
        rintro _ h15 ⟨k12, rfl, hk12, r15⟩
        have g15 := (r14.k.trans r15.k).at g13 (by simp; omega)
        have ek : (low : Int) + (k3 : Int) = ((low + k3 : Nat) : Int) := by omega
        simp only [v_eq_i, blK_bl]
        by_cases h11 : (k12 : Int) = 11
        · simp [h11, -v_append]
          refine sat_to (draw_sp r15.d (by omega)) ?_
          rintro _ h16 ⟨k8, rfl, hk8, r16⟩
          have g16 := r16.k.at g15 (by simp; omega)
          simp only [kind_l (lget_lst g16)]
          refine ⟨rfl, fin h16 k8 ((r14.trans r15).trans r16) (by omega) fun h' w' a b c' d' e' f' => ⟨a, b, c', w', d', e', f', _, _, _, rfl⟩⟩
        · simp only [h11, decide_false, Bool.false_eq_true, if_false, kind_l (lget_lst g15), ek]
          refine ⟨rfl, fin h15 (low + k3) (r14.trans r15) (by omega) fun h' w' a b c' d' e' f' => ⟨a, b, c', w', d', e', f', _, _, _, rfl⟩⟩
      · rintro fr h13 ⟨r13, gt13, gw13, w, lw', ow, g13, x1, x2, x3, rfl⟩
        rw [nats_len] at lw'
        exact ⟨ur, rfl, w, by omega, ow, hn10, g13, r13⟩
end
end K48
namespace K48
open PySem FL PySem.W PyProof.Rows
theorem cut_map {α β : Type} (f : α → β) (l : List α) (lo hi : Option Int) : cutP (l.map f) lo hi = (cutP l lo hi).map f := by
  unfold cutP; rw [List.length_map, ← List.map_drop, ← List.map_take]
theorem cut_len {α : Type} (l : List α) (lo hi : Option Int) : (cutP l lo hi).length ≤ l.length := by
  unfold cutP; rw [List.length_take, List.length_drop]; omega
section
variable {h : MH} {Q : PV → MH → Prop} {E : Exc → MH → Prop}
theorem number_big {n : Nat} {xs : List PV} {x : PV} (e : lget h n = some xs) (hw : 12 < xs.length) : (F_order_number [.ref n, x] h).sat (fun _ _ => False) (fun c h' => c = tooMany ∧ h' = h) := by
  refine sat_order_number ?_
  unfold c_order_number
  simp
  exact sat_mono (compl_big e hw) (fun _ _ z => z.elim) fun _ _ z => z
theorem slc_l {n : Nat} {xs : List PV} {lo hi : Option Int} (e : lget h n = some xs) : (slcM (.ref n) lo hi h).sat Q E = Q (.ref h.length) (h ++ [.lst (cutP xs lo hi)]) := by
  rw [show slcM (.ref n) lo hi h = Res.ok (.ref h.length) (h ++ [.lst (cutP xs lo hi)]) from ?_, sat_ok]
  unfold slcM; dsimp only; rw [e]; rfl
def modC : PV → Option PV
  | .int i => some (.int (i % 10 ^ (40 : Int).toNat))
  | _ => none
theorem modC_map (ms : List Int) : (ms.map PV.int).filterMap modC = (ms.map fun i => i % 10 ^ (40 : Int).toNat).map PV.int := by
  induction ms with
  | nil => rfl
  | cons m ms ih => simp only [List.map_cons, List.filterMap_cons, modC, ih]
theorem deck_sp {ns : List Int} (hl : ns.length ≤ 63) {k : Nat} (e : lget h k = some (ns.map PV.int)) : (F__law_deck [.ref k] h).sat (fun v h' => ∃ n c, v = .ref n ∧ Dk n c h') noE := by
  refine sat__law_deck ?_
  unfold c__law_deck
  simp [w_lc]
  rw [slc_l e, cut_map]
  have hl2 := cut_len ns none (some 63)
  generalize cutP ns none (some 63) = ms at hl2 ⊢
  have e1 : lget (h ++ [MO.lst (ms.map PV.int)]) h.length = some (ms.map PV.int) := lget_lst get_new
  generalize h ++ [MO.lst (ms.map PV.int)] = h1 at e1 ⊢
  simp only [itK_ref]
  refine ⟨by rw [e1]; rfl, ?_⟩
  refine sat_lcP (S := []) (g := modC) (fun n z => nomatch z) (at_lst e1 (by simp)) (fuel_lst e1) (by rw [List.length_map]; unfold big; omega) ?_ ?_
  · intro x hx h2 k2 _
    obtain ⟨i, _, rfl⟩ := List.mem_map.mp hx
    refine sat_lcStep rfl ?_
    simp [wipeF]
    rw [v_pow_i (by decide), v_mod_i (by decide)]
    exact ⟨rfl, Kept.refl _ _⟩
  · intro h2 k2 g2
    rw [modC_map] at g2
    generalize ms.map (fun i => i % 10 ^ (40 : Int).toNat) = cs at g2 ⊢
    have g3 := lget_lst g2
    simp [ws_for, g3]
    refine sat_forL g3 (I := fun i fr h3 => h3 = h2 ∧ ∃ (s : Int) (y : Option PV), fr = [some (.ref k), some (.ref h1.length), some (.int s), y]) ⟨rfl, 7, none, rfl⟩ (fun i fr h3 q => by rw [q.1]; exact g3) ?_ ?_
    · rintro i x fr h3 hx ⟨rfl, s, y, rfl⟩
      obtain ⟨j, _, rfl⟩ := List.mem_map.mp (List.mem_of_getElem? hx)
      refine ⟨_, rfl, ?_⟩
      simp
      rw [v_mul_i (by simp [small64])]
      simp
      rw [v_mod_i (by decide)]
      exact ⟨rfl, _, rfl⟩
    · rintro fr h3 ⟨rfl, s, y, rfl⟩
      simp
      refine ⟨by unfold big; omega, h1.length, 0, 0, s, cs, get_new, ?_, by omega, ?_⟩
      · exact ((Kept.refl [] h3).app _).lget g3 (by simp)
      · have := lget_lt g3
        omega

/-! ### two values of the same data -/
end
mutual
def dsz : PyData → Nat
  | .tuple ds => 1 + dszs ds
  | .list ds => 1 + dszs ds
  | _ => 1
def dszs : List PyData → Nat
  | [] => 0
  | d :: ds => dsz d + dszs ds
end
theorem dszs_eq : ∀ ds : List PyData, dszs ds = (ds.map dsz).sum
  | [] => by simp [dszs]
  | d :: ds => by rw [dszs, dszs_eq ds]; rfl
theorem dszs_len : ∀ ds : List PyData, ds.length ≤ dszs ds
  | [] => Nat.zero_le _
  | d :: ds => by
    have := dszs_len ds
    have : 0 < dsz d := by cases d <;> simp [dsz] <;> omega
    rw [dszs, List.length_cons]; omega
theorem dsz_pos (d : PyData) : 0 < dsz d := by cases d <;> simp [dsz] <;> omega
abbrev T3 := PV × PV × PyData
def Tw (h : MH) (q : T3) : Prop := (∃ m, snap h m q.1 = some q.2.2) ∧ ∃ m, snap h m q.2.1 = some q.2.2
def tp (q : T3) : PV := .tup [q.1, q.2.1]
def wgt (st : List T3) : Nat := (st.map fun q => dsz q.2.2).sum
theorem wgt_app (a b : List T3) : wgt (a ++ b) = wgt a + wgt b := by unfold wgt; rw [List.map_append, List.sum_append]
theorem wgt_len (a : List T3) : a.length ≤ wgt a := by
  induction a with
  | nil => simp [wgt]
  | cons q a ih =>
    have := dsz_pos q.2.2
    unfold wgt at ih ⊢
    simp only [List.length_cons, List.map_cons, List.sum_cons]
    omega
theorem mapO_inv {α β : Type} {f : α → Option β} : ∀ {xs : List α} {ds : List β}, mapO f xs = some ds → xs.length = ds.length ∧ ∀ (j : Nat) (a : α), xs[j]? = some a → ∃ d, ds[j]? = some d ∧ f a = some d
  | [], ds, h => by
    simp at h; subst h
    exact ⟨rfl, fun j a e => by simp at e⟩
  | x :: xs, ds, h => by
    rw [mapO_c] at h
    split at h
    · rename_i y ys e1 e2
      cases h
      obtain ⟨h1, h2⟩ := mapO_inv e2
      refine ⟨by simp [h1], fun j a e => ?_⟩
      cases j with
      | zero => simp at e; subst e; exact ⟨y, rfl, e1⟩
      | succ j => simpa using h2 j a (by simpa using e)
    · cases h
theorem snap_t {h : MH} {m : Nat} {v : PV} {ds : List PyData} (e : snap h m v = some (.tuple ds)) : ∃ xs k, v = .tup xs ∧ mapO (snap h k) xs = some ds := by
  cases v with
  | tup xs =>
    cases m with
    | zero => cases e
    | succ m =>
      rw [snap_tup] at e
      cases q : mapO (snap h m) xs with
      | none => rw [q] at e; cases e
      | some us => rw [q] at e; cases e; exact ⟨xs, m, rfl, q⟩
  | ref n =>
    cases m with
    | zero => cases e
    | succ m =>
      rw [show snap h (m + 1) (.ref n) = (match lget h n with | some xs => (mapO (snap h m) xs).map PyData.list | none => none) from rfl] at e
      split at e
      · rename_i xs _
        cases q : mapO (snap h m) xs <;> rw [q] at e <;> cases e
      · cases e
  | exc c xs => cases m <;> cases e
  | _ => cases m <;> cases e
theorem snap_l {h : MH} {m : Nat} {v : PV} {ds : List PyData} (e : snap h m v = some (.list ds)) : ∃ n xs k, v = .ref n ∧ lget h n = some xs ∧ mapO (snap h k) xs = some ds := by
  cases v with
  | tup xs =>
    cases m with
    | zero => cases e
    | succ m =>
      rw [snap_tup] at e
      cases q : mapO (snap h m) xs <;> rw [q] at e <;> cases e
  | ref n =>
    cases m with
    | zero => cases e
    | succ m =>
      rw [show snap h (m + 1) (.ref n) = (match lget h n with | some xs => (mapO (snap h m) xs).map PyData.list | none => none) from rfl] at e
      split at e
      · rename_i xs el
        cases q : mapO (snap h m) xs with
        | none => rw [q] at e; cases e
        | some us => rw [q] at e; cases e; exact ⟨n, xs, m, rfl, el, q⟩
      · cases e
  | exc c xs => cases m <;> cases e
  | _ => cases m <;> cases e
/-- the value of a flat datum -/
def flatV : PyData → PV → Prop
  | .none, v => v = .non
  | .bool b, v => v = .bl b
  | .int i, v => v = .int i
  | .str s, v => ∃ l, v = .str l ∧ s = S l
  | .dict _, _ => False
  | _, _ => True
theorem snap_f {h : MH} {m : Nat} {v : PV} {d : PyData} (e : snap h m v = some d) : flatV d v := by
  cases v with
  | tup xs =>
    cases m with
    | zero => cases e
    | succ m =>
      rw [snap_tup] at e
      cases q : mapO (snap h m) xs with
      | none => rw [q] at e; cases e
      | some us => rw [q] at e; cases e; trivial
  | ref n =>
    cases m with
    | zero => cases e
    | succ m =>
      rw [show snap h (m + 1) (.ref n) = (match lget h n with | some xs => (mapO (snap h m) xs).map PyData.list | none => none) from rfl] at e
      split at e
      · rename_i xs el
        cases q : mapO (snap h m) xs with
        | none => rw [q] at e; cases e
        | some us => rw [q] at e; cases e; trivial
      · cases e
  | exc c xs => cases m <;> cases e
  | non => rw [snap_non] at e; cases e; rfl
  | bl b => rw [snap_bl] at e; cases e; rfl
  | int i => rw [snap_int] at e; cases e; rfl
  | str l => rw [snap_str] at e; cases e; exact ⟨l, rfl, rfl⟩
theorem zip3 {α β γ : Type} {xs : List α} {ys : List β} {ds : List γ} (h1 : xs.length = ds.length) (h2 : ys.length = ds.length) : ((xs.zip (ys.zip ds)).map fun q => q.2.2) = ds := by
  induction ds generalizing xs ys with
  | nil => simp at h1; subst h1; rfl
  | cons d ds ih =>
    match xs, ys, h1, h2 with
    | x :: xs, y :: ys, h1, h2 =>
      simp only [List.zip_cons_cons, List.map_cons]
      rw [ih (by simpa using h1) (by simpa using h2)]
theorem zip3_get {α β γ : Type} {xs : List α} {ys : List β} {ds : List γ} {j : Nat} {x : α} {y : β} {d : γ} (h1 : xs[j]? = some x) (h2 : ys[j]? = some y) (h3 : ds[j]? = some d) : (xs.zip (ys.zip ds))[j]? = some (x, y, d) := by
  rw [List.getElem?_zip_eq_some]
  exact ⟨h1, by rw [List.getElem?_zip_eq_some]; exact ⟨h2, h3⟩⟩
/-- what holds between the turns of the comparison -/
def Sm (x y : PV) (N : Nat) (h : MH) (i : Nat) (fr : Fr) (h1 : MH) : Prop := FL.Kept [] h h1 ∧ ∃ st : List T3, h1[h.length]? = some (.lst (st.map tp)) ∧ (∀ q ∈ st, Tw h q) ∧ i + wgt st ≤ N ∧ ∃ a b c, fr = [some x, some y, some (.ref h.length), a, b, c]
section
variable {h : MH} {Q : PV → MH → Prop} {E : Exc → MH → Prop}
theorem v_pop0 {n : Nat} {xs : List PV} {y : PV} (e : h[n]? = some (.lst (xs ++ [y]))) : (mthM .list .pop (.ref n) [] h).sat Q E = Q y (h.set n (.lst xs)) := by
  have : mthM .list .pop (.ref n) [] h = Res.ok y (h.set n (.lst xs)) := by
    unfold mthM; dsimp only
    rw [wl_lst e]; dsimp only
    rw [show (xs ++ [y])[(xs ++ [y]).length - 1]? = some y by simp]; dsimp only
    rw [List.dropLast_concat]
  rw [this, sat_ok]
theorem v_popI {n k : Nat} {xs : List PV} {y : PV} (e : h[n]? = some (.lst xs)) (hk : xs[k]? = some y) (hb : xs.length ≤ 1000000) : (mthM .list .pop (.ref n) [.int k] h).sat Q E = Q y (h.set n (.lst (xs.eraseIdx k))) := by
  have hl := (List.getElem?_eq_some_iff.mp hk).1
  have : mthM .list .pop (.ref n) [.int k] h = Res.ok y (h.set n (.lst (xs.eraseIdx k))) := by
    unfold mthM; dsimp only
    rw [wl_lst e]; dsimp only
    rw [if_pos (by omega), ixN_nat hl]; dsimp only
    rw [hk]
  rw [this, sat_ok]
theorem pk_l {n : Nat} {xs : List PV} (e : lget h n = some xs) : pkOf h (.ref n) = some .lst := by
  unfold lget at e
  show (match h[n]? with
      | some (.lst _) => some PK.lst
      | some (.rls _) => some .lst
      | some (.dct _) => some .dct
      | _ => none) = _
  split at e
  · rename_i e'; rw [e']
  · rename_i e'; rw [e']
  · cases e
@[simp] theorem pk_t {xs : List PV} : pkOf h (.tup xs) = some .tup := rfl
@[simp] theorem pk_s {l : List Char} : pkOf h (.str l) = some .str := rfl
@[simp] theorem pk_i {i : Int} : pkOf h (.int i) = some .int := rfl
@[simp] theorem pk_b {b : Bool} : pkOf h (.bl b) = some .bl := rfl
@[simp] theorem pk_n : pkOf h .non = some .non := rfl
@[simp] theorem ne_b {a b : Bool} : (cmpM .NotEq (.bl a) (.bl b) h).sat Q E = Q (.bl (a != b)) h := by
  rw [v_ne snap_bl snap_bl]; cases a <;> cases b <;> rfl
theorem okR_nat {n : Nat} (hn : n ≤ 10000000) : okR (n : Int) = true := by unfold okR; simp; omega
@[simp] theorem ix_tp0 {x y : PV} {d : PyData} : (ixM (tp (x, y, d)) (.int 0) h).sat Q E = Q x h := by simp [tp]
@[simp] theorem ix_tp1 {x y : PV} {d : PyData} : (ixM (tp (x, y, d)) (.int 1) h).sat Q E = Q y h := by simp [tp]
theorem push_sp {x y x1 y1 : PV} {xs ys : List PV} {ds : List PyData} {h h2 : MH} {st : List T3} {N i : Nat} {c : Option PV} {d1 : PyData} {Qs : Fl → Fr → MH → Prop} {Es : Exc → Fr → MH → Prop}
    (k2 : FL.Kept [] h h2) (g2 : h2[h.length]? = some (.lst (st.map tp))) (tw : ∀ q ∈ st, Tw h q) (hw : i + 1 + (wgt st + dszs ds) ≤ N) (hN : N < 190000)
    (mx : ∃ m, mapO (snap h m) xs = some ds) (my : ∃ m, mapO (snap h m) ys = some ds)
    (ax : ∀ (h3 : MH) (j : Nat) (K : PV → MH → Prop), FL.Kept [] h h3 → (ixM x1 (.int j) h3).sat K noE = atK (fun p => K p h3) xs[j]?)
    (ay : ∀ (h3 : MH) (j : Nat) (K : PV → MH → Prop), FL.Kept [] h h3 → (ixM y1 (.int j) h3).sat K noE = atK (fun p => K p h3) ys[j]?)
    (ly : ∀ (h3 : MH) (K : PV → MH → Prop), FL.Kept [] h h3 → (bltM .len [y1] h3).sat K noE = K (.int ys.length) h3) (fin : ∀ fr h3, Sm x y N h (i + 1) fr h3 → Qs .nx fr h3) :
    (evS G__law_word (.fors (.one 5) (.rng1 (.blt .len (.cons (.sub (.loc 4) (.cst (.int 1))) .nil))) (.cons (.expr (.mth .append (.loc 2) (.cons (.tup (.cons (.sub (.sub (.loc 4) (.cst (.int 0))) (.loc 5)) (.cons (.sub (.sub (.loc 4) (.cst (.int 1))) (.loc 5)) .nil))) .nil))) .nil)) [some x, some y, some (.ref h.length), some (.int i), some (tp (x1, y1, d1)), c] h2).sat Qs Es := by
  obtain ⟨m1, ex⟩ := mx
  obtain ⟨m2, ey⟩ := my
  obtain ⟨lx, px⟩ := mapO_inv ex
  obtain ⟨lly, py⟩ := mapO_inv ey
  have hz := zip3 (xs := xs) (ys := ys) (ds := ds) lx lly
  have wz : ∀ j, wgt ((xs.zip (ys.zip ds)).take j) ≤ dszs ds := by
    intro j
    have h1 : wgt (xs.zip (ys.zip ds)) = dszs ds := by
      unfold wgt
      have : (xs.zip (ys.zip ds)).map (fun q => dsz q.2.2) = ((xs.zip (ys.zip ds)).map fun q => q.2.2).map dsz := by rw [List.map_map]; rfl
      rw [dszs_eq, this, hz]
    have h2 : wgt ((xs.zip (ys.zip ds)).take j) + wgt ((xs.zip (ys.zip ds)).drop j) = wgt (xs.zip (ys.zip ds)) := by
      rw [← wgt_app, List.take_append_drop]
    omega
  have hds := dszs_len ds
  rw [ws_for]
  simp [ly h2 _ k2]
  refine ⟨okR_nat (by omega), ?_⟩
  refine sat_forS (fun j fr h3 => FL.Kept [] h h3 ∧ h3[h.length]? = some (.lst ((st ++ (xs.zip (ys.zip ds)).take j).map tp)) ∧ ∃ c, fr = [some x, some y, some (.ref h.length), some (.int i), some (tp (x1, y1, d1)), c]) ⟨k2, by simpa using g2, c, rfl⟩ ?_ ?_
  · rintro j z fr h3 hx ⟨k3, g3, c, rfl⟩
    obtain ⟨rfl, hj⟩ := nats_at hx
    refine ⟨_, rfl, ?_⟩
    have e1 : xs[j]? = some (xs[j]'(by omega)) := List.getElem?_eq_getElem _
    have e2 : ys[j]? = some (ys[j]'(by omega)) := List.getElem?_eq_getElem _
    have e3 : ds[j]? = some (ds[j]'(by omega)) := List.getElem?_eq_getElem _
    have e4 := zip3_get e1 e2 e3
    have e5 : ((xs.zip (ys.zip ds)).map tp)[j]? = some (.tup [xs[j]'(by omega), ys[j]'(by omega)]) := by rw [List.getElem?_map, e4]; rfl
    have hlen := wgt_len (st ++ (xs.zip (ys.zip ds)).take j)
    rw [wgt_app] at hlen
    have := wz j
    simp [kind_l (lget_lst g3), ax h3 j _ k3, ay h3 j _ k3, e1, e2, wl_lst g3]
    refine ⟨by simp at hlen; unfold big; omega, k3.setNew (Nat.le_refl _) _, ?_⟩
    rw [get_set g3]
    simp [List.take_add_one, e5]
  · rintro fr h3 ⟨k3, g3, c, rfl⟩
    rw [nats_len, List.take_of_length_le (by simp; omega)] at g3
    refine fin _ _ ⟨k3, _, g3, ?_, ?_, _, _, _, rfl⟩
    · intro q hq
      rcases List.mem_append.mp hq with z | z
      · exact tw q z
      · obtain ⟨j, hj⟩ := List.getElem?_of_mem z
        rw [List.getElem?_zip_eq_some] at hj
        obtain ⟨a1, a2⟩ := hj
        rw [List.getElem?_zip_eq_some] at a2
        obtain ⟨d1, b1, b2⟩ := px j _ a1
        obtain ⟨d2, c1, c2⟩ := py j _ a2.1
        rw [a2.2] at b1 c1
        cases b1; cases c1
        exact ⟨⟨_, b2⟩, _, c2⟩
    · rw [wgt_app]
      have := wz (xs.zip (ys.zip ds)).length
      rw [List.take_length] at this
      omega
theorem same_sp {x y : PV} {d : PyData} (ht : Tw h (x, y, d)) (hs : dsz d < 190000) : (F__law_same [x, y] h).sat (fun v h' => v = .bl true ∧ FL.Kept [] h h') noE := by
  refine sat__law_same ?_
  unfold c__law_same
  simp only [ssat_cons, ws_asg, w_lst, w_es, w_tup, w_loc, w_es0, List.getElem?_cons_zero, List.getElem?_cons_succ, List.set_cons_zero, List.set_cons_succ, sqK_nx, ws_for, w_rng1, w_cst]
  refine ⟨by simp, by simp; unfold big; omega, by decide, ?_⟩
  refine sat_forS (Sm x y (dsz d) h) ⟨(FL.Kept.refl [] h).app _, [(x, y, d)], by simp [tp], by simpa using ht, by simp [wgt], _, _, _, rfl⟩ ?_ ?_
  · rintro i z fr h1 hx ⟨k1, st, g1, tw, hw, a, b, c, rfl⟩
    obtain ⟨rfl, hi⟩ := nats_at hx
    refine ⟨_, rfl, ?_⟩
    simp [v_len_l (lget_lst g1)]
    rcases List.eq_nil_or_concat st with rfl | ⟨st', q, est⟩
    · simp [k1]
    rw [List.concat_eq_append] at est; subst est
    obtain ⟨x1, y1, d1⟩ := q
    have tq := tw _ (by simp : (x1, y1, d1) ∈ st' ++ [(x1, y1, d1)])
    have g1' : h1[h.length]? = some (.lst (st'.map tp ++ [tp (x1, y1, d1)])) := by rw [g1]; simp
    have hlen : ¬ ((st'.length : Int) + 1 = 0) := by omega
    simp [hlen, kind_l (lget_lst g1)]
    rw [v_pop0 g1']
    have k2 : FL.Kept [] h (h1.set h.length (.lst (st'.map tp))) := k1.setNew (Nat.le_refl _) _
    have g2 : (h1.set h.length (.lst (st'.map tp)))[h.length]? = some (.lst (st'.map tp)) := get_set g1'
    generalize h1.set h.length (.lst (st'.map tp)) = h2 at k2 g2 ⊢
    have tw' : ∀ q ∈ st', Tw h q := fun q hq => tw q (List.mem_append_left _ hq)
    rw [wgt_app] at hw
    have hd : wgt [(x1, y1, d1)] = dsz d1 := by simp [wgt]
    rw [hd] at hw
    have hp := dsz_pos d1
    have one : Sm x y (dsz d) h (i + 1) [some x, some y, some (.ref h.length), some (.int i), some (tp (x1, y1, d1)), c] h2 := ⟨k2, st', g2, tw', by omega, _, _, _, rfl⟩
    obtain ⟨⟨m1, s1⟩, m2, s2⟩ := tq
    cases d1 with
    | none =>
      cases snap_f s1; cases snap_f s2
      simp [isTN]
      exact one
    | bool u =>
      cases snap_f s1; cases snap_f s2
      simp [isTN]
      exact one
    | int u =>
      cases snap_f s1; cases snap_f s2
      simp [isTN]
      exact one
    | str u =>
      obtain ⟨l1, rfl, e1⟩ := snap_f s1
      obtain ⟨l2, rfl, e2⟩ := snap_f s2
      rw [e1] at e2
      cases S_inj e2
      simp [isTN]
      exact one
    | dict u => exact (snap_f s1).elim
    | tuple us =>
      obtain ⟨xs, n1, rfl, mx⟩ := snap_t s1
      obtain ⟨ys, n2, rfl, my⟩ := snap_t s2
      have hds : dsz (.tuple us) = 1 + dszs us := by rw [dsz]
      have lx := (mapO_inv mx).1
      have ly := (mapO_inv my).1
      simp [isTN, lx, ly]
      refine push_sp (ds := us) (N := dsz d) (i := i) k2 g2 tw' (by omega) hs ⟨_, mx⟩ ⟨_, my⟩ (fun h3 j K _ => by rw [v_ix_t, atI_nat]) (fun h3 j K _ => by rw [v_ix_t, atI_nat]) (fun h3 K _ => v_len_t) ?_
      intro fr h3 q
      exact q
    | list us =>
      obtain ⟨r1, xs, n1, rfl, l1, mx⟩ := snap_l s1
      obtain ⟨r2, ys, n2, rfl, l2, my⟩ := snap_l s2
      have hds : dsz (.list us) = 1 + dszs us := by rw [dsz]
      have lx := (mapO_inv mx).1
      have ly := (mapO_inv my).1
      have f1 : lget h2 r1 = some xs := k2.lget l1 (by simp)
      have f2 : lget h2 r2 = some ys := k2.lget l2 (by simp)
      simp [isTN, pk_l f1, pk_l f2, v_len_l f1, v_len_l f2, lx, ly]
      refine push_sp (ds := us) (N := dsz d) (i := i) k2 g2 tw' (by omega) hs ⟨_, mx⟩ ⟨_, my⟩ (fun h3 j K k3 => by rw [v_ix_l (k3.lget l1 (by simp)), atI_nat]) (fun h3 j K k3 => by rw [v_ix_l (k3.lget l2 (by simp)), atI_nat]) (fun h3 K k3 => v_len_l (k3.lget l2 (by simp))) ?_
      intro fr h3 q
      exact q
  · rintro fr h1 ⟨k1, st, g1, tw, hw, a, b, c, rfl⟩
    rw [nats_len] at hw
    have : (200000 : Int).toNat = 200000 := rfl
    omega
end
end K48
namespace K48
open PySem FL PySem.W PyProof.Rows
/-! ### counting interleavings -/
theorem fac_pos : ∀ n, 0 < fac n
  | 0 => Nat.one_pos
  | n + 1 => Nat.mul_pos (Nat.succ_pos _) (fac_pos n)
def ch : Nat → Nat → Nat
  | _, 0 => 1
  | 0, _ + 1 => 0
  | n + 1, k + 1 => ch n k + ch n (k + 1)
theorem ch_up : ∀ n k, ch (n + 1) (k + 1) * (k + 1) = ch n k * (n + 1)
  | 0, 0 => by simp [ch]
  | 0, k + 1 => by simp [ch]
  | n + 1, 0 => by
    have h := ch_up n 0
    simp only [ch] at h ⊢
    omega
  | n + 1, k + 1 => by
    have h1 := ch_up n k
    have h2 := ch_up n (k + 1)
    have e1 : ch (n + 1 + 1) (k + 1 + 1) = ch (n + 1) (k + 1) + ch (n + 1) (k + 1 + 1) := rfl
    have e2 : ch (n + 1) (k + 1) = ch n k + ch n (k + 1) := rfl
    have a1 : ch (n + 1) (k + 1) * (k + 1 + 1) = ch (n + 1) (k + 1) * (k + 1) + ch (n + 1) (k + 1) := by rw [Nat.mul_add, Nat.mul_one]
    have a2 : ch (n + 1) (k + 1) * (n + 1 + 1) = ch (n + 1) (k + 1) * (n + 1) + ch (n + 1) (k + 1) := by rw [Nat.mul_add, Nat.mul_one]
    have a3 : ch (n + 1) (k + 1) * (n + 1) = ch n k * (n + 1) + ch n (k + 1) * (n + 1) := by rw [e2, Nat.add_mul]
    rw [e1, Nat.add_mul, a1, h1, h2, a2, a3]
    omega
theorem ch_fac (D : Nat) : ∀ k, ch (D + k) k * fac k * fac D = fac (D + k)
  | 0 => by cases D <;> simp [ch, fac]
  | k + 1 => by
    have ih := ch_fac D k
    have h := ch_up (D + k) k
    show ch (D + k + 1) (k + 1) * ((k + 1) * fac k) * fac D = (D + k + 1) * fac (D + k)
    rw [← Nat.mul_assoc, h, ← ih]
    simp [Nat.mul_comm, Nat.mul_left_comm, Nat.mul_assoc]
/-- the law's formula -/
def mult : Nat → List Nat → Nat
  | _, [] => 1
  | D, s :: l => ch (D + s) s * mult (D + s) l
def facs : List Nat → Nat
  | [] => 1
  | s :: l => fac s * facs l
theorem facs_pos : ∀ l, 0 < facs l
  | [] => Nat.one_pos
  | s :: l => Nat.mul_pos (fac_pos s) (facs_pos l)
theorem mult_fac : ∀ (l : List Nat) (D : Nat), mult D l * facs l * fac D = fac (D + l.sum)
  | [], D => by simp [mult, facs]
  | s :: l, D => by
    have ih := mult_fac l (D + s)
    rw [← ch_fac D s] at ih
    simp only [mult, facs, List.sum_cons]
    rw [← Nat.add_assoc, ← ih]
    simp [Nat.mul_comm, Nat.mul_left_comm, Nat.mul_assoc]
theorem mult_0 (l : List Nat) : mult 0 l * facs l = fac l.sum := by
  have := mult_fac l 0
  simpa [fac] using this
/-! ### chains -/
def heads (L : List (List Stp)) : List Stp := L.filterMap List.head?
def adv1 (s : Stp) (c : List Stp) : List Stp := if c.head? = some s then c.tail else c
def adv (L : List (List Stp)) (s : Stp) : List (List Stp) := L.map (adv1 s)
def apart (c d : List Stp) : Prop := ∀ x ∈ c, ∀ y ∈ d, dep x y = false
def tight (c : List Stp) : Prop := c.Pairwise fun x y => x ≠ y ∧ dep x y = true
structure Ch (L : List (List Stp)) : Prop where
  out : L.Pairwise apart
  inn : ∀ c ∈ L, tight c
inductive Wv : List (List Stp) → List Stp → Prop
  | nil {L : List (List Stp)} (h : ∀ c ∈ L, c = []) : Wv L []
  | cons {L : List (List Stp)} {x : Stp} {T : List Stp} (h : x ∈ heads L) (t : Wv (adv L x) T) : Wv L (x :: T)
theorem mem_heads {L : List (List Stp)} {x : Stp} : x ∈ heads L ↔ ∃ c, x :: c ∈ L := by
  unfold heads
  rw [List.mem_filterMap]
  constructor
  · rintro ⟨c, hc, e⟩
    cases c with
    | nil => simp at e
    | cons y c => simp at e; subst e; exact ⟨c, hc⟩
  · rintro ⟨c, hc⟩
    exact ⟨_, hc, rfl⟩
theorem adv1_mem {s x : Stp} {c : List Stp} (h : x ∈ adv1 s c) : x ∈ c := by
  unfold adv1 at h
  split at h
  · exact List.mem_of_mem_tail h
  · exact h
theorem apart_sym {c d : List Stp} (h : apart c d) : apart d c := fun x hx y hy => by rw [dep_sym]; exact h y hy x hx
theorem Ch.adv {L : List (List Stp)} (h : Ch L) (s : Stp) : Ch (adv L s) := by
  refine ⟨?_, ?_⟩
  · unfold K48.adv
    rw [List.pairwise_map]
    exact h.out.imp fun {c d} q x hx y hy => q x (adv1_mem hx) y (adv1_mem hy)
  · intro c hc
    obtain ⟨d, hd, rfl⟩ := List.mem_map.mp hc
    unfold adv1
    split
    · exact (h.inn d hd).sublist (List.tail_sublist d)
    · exact h.inn d hd
theorem Ch.two {L : List (List Stp)} (h : Ch L) {c d : List Stp} (hc : c ∈ L) (hd : d ∈ L) : c = d ∨ apart c d := by
  obtain ⟨i, hi, rfl⟩ := List.getElem_of_mem hc
  obtain ⟨j, hj, rfl⟩ := List.getElem_of_mem hd
  rcases Nat.lt_trichotomy i j with z | z | z
  · exact .inr (List.pairwise_iff_getElem.mp h.out i j hi hj z)
  · subst z; exact .inl rfl
  · exact .inr (apart_sym (List.pairwise_iff_getElem.mp h.out j i hj hi z))
theorem tight_in {c : List Stp} (h : tight c) {x y : Stp} (hx : x ∈ c) (hy : y ∈ c) : dep x y = true := by
  obtain ⟨i, hi, rfl⟩ := List.getElem_of_mem hx
  obtain ⟨j, hj, rfl⟩ := List.getElem_of_mem hy
  rcases Nat.lt_trichotomy i j with z | z | z
  · exact (List.pairwise_iff_getElem.mp h i j hi hj z).2
  · subst z; exact dep_eq _
  · rw [dep_sym]; exact (List.pairwise_iff_getElem.mp h j i hj hi z).2
/-- a chain that holds a step is the one -/
theorem Ch.same {L : List (List Stp)} (h : Ch L) {c d : List Stp} (hc : c ∈ L) (hd : d ∈ L) {x y : Stp} (hx : x ∈ c) (hy : y ∈ d) (e : dep x y = true) : c = d := by
  rcases h.two hc hd with z | z
  · exact z
  · have := z x hx y hy; rw [e] at this; cases this
theorem adv1_hit {s : Stp} {c : List Stp} : adv1 s (s :: c) = c := by simp [adv1]
theorem adv1_mis {s : Stp} {c : List Stp} (h : c.head? ≠ some s) : adv1 s c = c := by simp [adv1, h]
/-- other heads stay -/
theorem heads_stay {L : List (List Stp)} {x y : Stp} (hx : x ∈ heads L) (h : x ≠ y) : x ∈ heads (adv L y) := by
  obtain ⟨c, hc⟩ := mem_heads.mp hx
  refine mem_heads.mpr ⟨c, List.mem_map.mpr ⟨_, hc, adv1_mis (by simpa using h)⟩⟩
theorem heads_dep {L : List (List Stp)} (h : Ch L) {x y : Stp} (hx : x ∈ heads L) (hy : y ∈ heads L) (n : x ≠ y) : dep x y = false := by
  obtain ⟨c, hc⟩ := mem_heads.mp hx
  obtain ⟨d, hd⟩ := mem_heads.mp hy
  cases q : dep x y with
  | false => rfl
  | true =>
    have := h.same hc hd (List.mem_cons_self ..) (List.mem_cons_self ..) q
    simp at this
    exact absurd this.1 n
theorem adv_comm {L : List (List Stp)} (h : Ch L) {x y : Stp} (d : dep x y = false) : adv (adv L x) y = adv (adv L y) x := by
  unfold adv
  rw [List.map_map, List.map_map]
  refine List.map_congr_left fun c hc => ?_
  show adv1 y (adv1 x c) = adv1 x (adv1 y c)
  have hxy : x ≠ y := fun z => by rw [z, dep_eq] at d; cases d
  cases c with
  | nil => rfl
  | cons z c =>
    by_cases hx : z = x
    · subst hx
      have ey : adv1 y (z :: c) = z :: c := adv1_mis (by simpa using hxy)
      rw [ey, adv1_hit]
      refine adv1_mis fun q => ?_
      have hy : y ∈ c := List.mem_of_head? q
      have := tight_in (h.inn _ hc) (List.mem_cons_self ..) (List.mem_cons_of_mem _ hy)
      rw [this] at d; cases d
    · by_cases hy : z = y
      · subst hy
        have ex : adv1 x (z :: c) = z :: c := adv1_mis (by simpa using hx)
        rw [ex, adv1_hit]
        refine (adv1_mis fun q => ?_).symm
        have hy : x ∈ c := List.mem_of_head? q
        have := tight_in (h.inn _ hc) (List.mem_cons_of_mem _ hy) (List.mem_cons_self ..)
        rw [this] at d; cases d
      · have e1 : adv1 x (z :: c) = z :: c := adv1_mis (by simpa using hx)
        have e2 : adv1 y (z :: c) = z :: c := adv1_mis (by simpa using hy)
        rw [e1, e2, e1]
/-- an open step is a head -/
theorem wv_open {x : Stp} {B : List Stp} : ∀ {A : List Stp} {L : List (List Stp)}, Ch L → Wv L (A ++ x :: B) → (∀ a ∈ A, dep a x = false) → x ∈ heads L ∧ Wv (adv L x) (A ++ B)
  | [], L, hL, h, _ => by
    cases h with
    | cons h t => exact ⟨h, t⟩
  | a :: A, L, hL, h, ho => by
    cases h with
    | cons ha t =>
      have da := ho a (List.mem_cons_self ..)
      have hax : a ≠ x := fun z => by rw [z, dep_eq] at da; cases da
      obtain ⟨hx, t'⟩ := wv_open (hL.adv a) t fun b hb => ho b (List.mem_cons_of_mem _ hb)
      have hx' : x ∈ heads L := by
        obtain ⟨c, hc⟩ := mem_heads.mp hx
        obtain ⟨d, hd, e⟩ := List.mem_map.mp hc
        by_cases q : d.head? = some a
        · cases d with
          | nil => simp at q
          | cons z d =>
            simp at q; subst q
            rw [adv1_hit] at e
            subst e
            have := tight_in (hL.inn _ hd) (x := z) (y := x) (by simp) (by simp)
            rw [this] at da; cases da
        · rw [adv1_mis q] at e
          subst e
          exact mem_heads.mpr ⟨c, hd⟩
      refine ⟨hx', .cons (heads_stay ha hax) ?_⟩
      rw [← adv_comm hL da]
      exact t'
/-- a head is open -/
theorem wv_head {x : Stp} : ∀ {T : List Stp} {L : List (List Stp)}, Ch L → Wv L T → x ∈ heads L → ∃ A B, T = A ++ x :: B ∧ ∀ a ∈ A, dep a x = false
  | [], L, hL, h, hx => by
    cases h with
    | nil h =>
      obtain ⟨c, hc⟩ := mem_heads.mp hx
      cases h _ hc
  | y :: T, L, hL, h, hx => by
    cases h with
    | cons hy t =>
      by_cases e : x = y
      · subst e; exact ⟨[], T, rfl, fun _ z => nomatch z⟩
      · obtain ⟨A, B, rfl, ho⟩ := wv_head (hL.adv y) t (heads_stay hx e)
        refine ⟨y :: A, B, rfl, fun a ha => ?_⟩
        rcases List.mem_cons.mp ha with z | z
        · subst z; exact heads_dep hL hy hx (Ne.symm e)
        · exact ho a z
theorem heads_nodup {L : List (List Stp)} (h : Ch L) : (heads L).Nodup := by
  unfold heads
  show List.Pairwise _ _
  rw [List.pairwise_filterMap]
  refine h.out.imp fun {c d} q x hx y hy e => ?_
  subst e
  have := q x (List.mem_of_head? hx) x (List.mem_of_head? hy)
  rw [dep_eq] at this; cases this
def total (L : List (List Stp)) : Nat := (L.map List.length).sum
theorem adv_eq {L : List (List Stp)} {s : Stp} (h : ∀ c ∈ L, s ∉ c) : adv L s = L := by
  unfold adv
  rw [List.map_congr_left (g := id), List.map_id]
  exact fun c hc => adv1_mis fun z => h c hc (List.mem_of_head? z)
theorem Ch.tail {c : List Stp} {L : List (List Stp)} (h : Ch (c :: L)) : Ch L := ⟨(List.pairwise_cons.mp h.out).2, fun d hd => h.inn d (List.mem_cons_of_mem _ hd)⟩
theorem Ch.not {c : List Stp} {L : List (List Stp)} (h : Ch (c :: L)) {s : Stp} (hs : s ∈ c) : ∀ d ∈ L, s ∉ d := fun d hd z => by
  have := (List.pairwise_cons.mp h.out).1 d hd s hs s z
  rw [dep_eq] at this; cases this
theorem adv_facs {s : Stp} {c : List Stp} : ∀ {L : List (List Stp)}, Ch L → s :: c ∈ L → facs (L.map List.length) = (c.length + 1) * facs ((adv L s).map List.length)
  | [], _, h => by simp at h
  | d :: L, hL, h => by
    by_cases e : d = s :: c
    · subst e
      have : adv (( s :: c) :: L) s = c :: L := by
        show adv1 s (s :: c) :: adv L s = _
        rw [adv1_hit, adv_eq (hL.not (List.mem_cons_self ..))]
      rw [this]
      simp [facs, fac, Nat.mul_assoc]
    · have hm : s :: c ∈ L := by
        rcases List.mem_cons.mp h with z | z
        · exact absurd z.symm e
        · exact z
      have hd : adv1 s d = d := adv1_mis fun z => by
        have := hL.same (c := d) (d := s :: c) (List.mem_cons_self ..) h (List.mem_of_head? z) (List.mem_cons_self ..) (dep_eq s)
        exact e this
      have ih := adv_facs hL.tail hm
      show fac d.length * facs (L.map List.length) = _ * facs ((adv1 s d :: adv L s).map List.length)
      rw [hd, ih]
      simp [facs, Nat.mul_comm, Nat.mul_left_comm, Nat.mul_assoc]
theorem adv_total {s : Stp} : ∀ {L : List (List Stp)}, Ch L → s ∈ heads L → total (adv L s) + 1 = total L
  | [], _, h => by simp [heads] at h
  | d :: L, hL, h => by
    obtain ⟨c, hc⟩ := mem_heads.mp h
    by_cases e : d = s :: c
    · subst e
      have : adv (( s :: c) :: L) s = c :: L := by
        show adv1 s (s :: c) :: adv L s = _
        rw [adv1_hit, adv_eq (hL.not (List.mem_cons_self ..))]
      rw [this]
      simp [total]; omega
    · have hm : s :: c ∈ L := by
        rcases List.mem_cons.mp hc with z | z
        · exact absurd z.symm e
        · exact z
      have hd : adv1 s d = d := adv1_mis fun z => by
        have := hL.same (c := d) (d := s :: c) (List.mem_cons_self ..) hc (List.mem_of_head? z) (List.mem_cons_self ..) (dep_eq s)
        exact e this
      have ih := adv_total hL.tail (mem_heads.mpr ⟨c, hm⟩)
      unfold total at ih ⊢
      show ((adv1 s d :: adv L s).map List.length).sum + 1 = _
      rw [hd]
      simp at ih ⊢
      omega
theorem heads_sum {L : List (List Stp)} {f : Stp → Nat} {K : Nat} (h : ∀ s c, s :: c ∈ L → f s = (c.length + 1) * K) : ((heads L).map f).sum = total L * K := by
  induction L with
  | nil => simp [heads, total]
  | cons d L ih =>
    have ih := ih fun s c hc => h s c (List.mem_cons_of_mem _ hc)
    unfold heads total at ih ⊢
    cases d with
    | nil =>
      simp only [List.filterMap_cons, List.head?_nil, List.map_cons, List.sum_cons, List.length_nil, Nat.zero_add]
      exact ih
    | cons s c =>
      have h1 := h s c (List.mem_cons_self ..)
      simp only [List.filterMap_cons, List.head?_cons, List.map_cons, List.sum_cons, List.length_cons]
      rw [h1, ih, ← Nat.add_mul]
/-- so many interleavings -/
def nW (L : List (List Stp)) : Nat := mult 0 (L.map List.length)
theorem nW_fac (L : List (List Stp)) : nW L * facs (L.map List.length) = fac (total L) := mult_0 _
theorem nW_step {L : List (List Stp)} (hL : Ch L) (h : total L ≠ 0) : nW L = ((heads L).map fun s => nW (adv L s)).sum := by
  obtain ⟨n, hn⟩ : ∃ n, total L = n + 1 := ⟨total L - 1, by omega⟩
  have hp : 0 < facs (L.map List.length) := facs_pos _
  refine Nat.eq_of_mul_eq_mul_right hp ?_
  rw [nW_fac, hn]
  have e : ((heads L).map fun s => nW (adv L s) * facs (L.map List.length)).sum = total L * fac n := heads_sum fun s c hc => by
    rw [adv_facs hL hc]
    have h2 := nW_fac (adv L s)
    have h3 : total (adv L s) = n := by
      have := adv_total hL (mem_heads.mpr ⟨c, hc⟩)
      omega
    rw [h3] at h2
    rw [← h2]
    simp [Nat.mul_comm, Nat.mul_left_comm, Nat.mul_assoc]
  have e2 : ∀ (l : List Stp) (f : Stp → Nat) (k : Nat), (l.map fun s => f s * k).sum = (l.map f).sum * k := by
    intro l f k
    induction l with
    | nil => simp
    | cons a l ih => simp [ih, Nat.add_mul]
  rw [← e2, e, hn]; rfl
theorem nW_0 {L : List (List Stp)} (h : total L = 0) : nW L = 1 := by
  have h1 := nW_fac L
  rw [h] at h1
  exact Nat.eq_one_of_mul_eq_one_right h1
theorem wv_total {T : List Stp} : ∀ {L : List (List Stp)}, Ch L → Wv L T → T.length = total L := by
  induction T with
  | nil =>
    intro L hL h
    cases h with
    | nil h =>
      unfold total
      have : ∀ l : List (List Stp), (∀ c ∈ l, c = []) → (l.map List.length).sum = 0 := by
        intro l
        induction l with
        | nil => intro _; rfl
        | cons c l ih => intro h; rw [List.map_cons, List.sum_cons, ih fun d hd => h d (List.mem_cons_of_mem _ hd), h c (List.mem_cons_self ..)]; rfl
      rw [this L h]; rfl
  | cons x T ih =>
    intro L hL h
    cases h with
    | cons hx t =>
      rw [List.length_cons, ih (hL.adv x) t, adv_total hL hx]
theorem total_0 {L : List (List Stp)} (h : total L = 0) : ∀ c ∈ L, c = [] := by
  unfold total at h
  intro c hc
  induction L with
  | nil => simp at hc
  | cons d L ih =>
    simp at h
    rcases List.mem_cons.mp hc with z | z
    · subst z; exact h.1
    · exact ih (by simpa using h.2) z
/-- the steps of an interleaving are no two the same -/
theorem wv_mem {T : List Stp} : ∀ {L : List (List Stp)} {x : Stp}, Wv L T → x ∈ T → ∃ c ∈ L, x ∈ c := by
  induction T with
  | nil => intro L x _ h; simp at h
  | cons y T ih =>
    intro L x h hx
    cases h with
    | cons hy t =>
      rcases List.mem_cons.mp hx with z | z
      · subst z
        obtain ⟨c, hc⟩ := mem_heads.mp hy
        exact ⟨_, hc, List.mem_cons_self ..⟩
      · obtain ⟨c, hc, hx⟩ := ih t z
        obtain ⟨d, hd, rfl⟩ := List.mem_map.mp hc
        exact ⟨d, hd, adv1_mem hx⟩
theorem adv_not {L : List (List Stp)} (hL : Ch L) {x : Stp} (hx : x ∈ heads L) : ∀ c ∈ adv L x, x ∉ c := by
  intro c hc z
  obtain ⟨d, hd, rfl⟩ := List.mem_map.mp hc
  obtain ⟨e, he⟩ := mem_heads.mp hx
  have := hL.same hd he (adv1_mem z) (List.mem_cons_self ..) (dep_eq x)
  subst this
  rw [adv1_hit] at z
  have := List.pairwise_cons.mp (hL.inn _ hd)
  exact (this.1 x z).1 rfl
theorem wv_nodup {T : List Stp} : ∀ {L : List (List Stp)}, Ch L → Wv L T → T.Nodup := by
  induction T with
  | nil => intro L _ _; exact List.nodup_nil
  | cons y T ih =>
    intro L hL h
    cases h with
    | cons hy t =>
      refine List.nodup_cons.mpr ⟨fun z => ?_, ih (hL.adv y) t⟩
      obtain ⟨c, hc, hz⟩ := wv_mem t z
      exact adv_not hL hy c hc hz
theorem split_eq {x : Stp} : ∀ {A A' B B' : List Stp}, A ++ x :: B = A' ++ x :: B' → x ∉ A → x ∉ A' → A = A'
  | [], [], _, _, _, _, _ => rfl
  | [], a :: A', _, _, h, _, h2 => by simp at h; exact absurd (h.1 ▸ List.mem_cons_self ..) h2
  | a :: A, [], _, _, h, h1, _ => by simp at h; exact absurd (h.1 ▸ List.mem_cons_self ..) h1
  | a :: A, b :: A', B, B', h, h1, h2 => by
    simp only [List.cons_append, List.cons.injEq] at h
    rw [h.1, split_eq h.2 (fun z => h1 (List.mem_cons_of_mem _ z)) fun z => h2 (List.mem_cons_of_mem _ z)]
section
variable {w : List Stp} {R : List Nat} {L : List (List Stp)} {p : Nat}
theorem open_wv (hR : R.Pairwise (· < ·)) (hL : Ch L) (hw : Wv L (R.map (stp w))) (hp : p ∈ R) (ho : opn w R p = true) : stp w p ∈ heads L ∧ Wv (adv L (stp w p)) ((R.erase p).map (stp w)) := by
  obtain ⟨A, B, rfl⟩ := List.append_of_mem hp
  have hs := List.pairwise_append.mp hR
  have hA : ∀ a ∈ A, a < p := fun a ha => hs.2.2 a ha p (List.mem_cons_self ..)
  rw [erase_split fun z => Nat.lt_irrefl _ (hA p z), List.map_append]
  rw [List.map_append, List.map_cons] at hw
  refine wv_open hL hw fun a ha => ?_
  obtain ⟨q, hq, rfl⟩ := List.mem_map.mp ha
  exact opn_of ho (List.mem_append_left _ hq) (hA q hq)
theorem head_open (hR : R.Pairwise (· < ·)) (hL : Ch L) (hw : Wv L (R.map (stp w))) (hp : p ∈ R) (hh : stp w p ∈ heads L) : opn w R p = true := by
  obtain ⟨A, B, rfl⟩ := List.append_of_mem hp
  have hs := List.pairwise_append.mp hR
  obtain ⟨A', B', e, ho⟩ := wv_head hL hw hh
  have nd := wv_nodup hL hw
  have nd2 := nd
  rw [e] at nd2
  rw [List.map_append, List.map_cons] at e nd
  have e1 := split_eq e (fun z => (List.pairwise_append.mp nd).2.2 _ z _ (List.mem_cons_self ..) rfl) (fun z => (List.pairwise_append.mp nd2).2.2 _ z _ (List.mem_cons_self ..) rfl)
  refine List.all_eq_true.mpr fun q hq => ?_
  by_cases hl : q < p
  · have hqA : q ∈ A := by
      rcases List.mem_append.mp hq with z | z
      · exact z
      · rcases List.mem_cons.mp z with y | y
        · omega
        · have := (List.pairwise_cons.mp hs.2.1).1 q y; omega
    have := ho (stp w q) (by rw [← e1]; exact List.mem_map_of_mem hqA)
    simp [this]
  · simp [hl]
theorem opens_perm (hR : R.Pairwise (· < ·)) (hL : Ch L) (hw : Wv L (R.map (stp w))) : ((R.filter (opn w R)).map (stp w)).Perm (heads L) := by
  have nd := wv_nodup hL hw
  refine (List.perm_ext_iff_of_nodup (nd.sublist (List.filter_sublist.map _)) (heads_nodup hL)).mpr fun s => ?_
  constructor
  · intro h
    obtain ⟨p, hp, rfl⟩ := List.mem_map.mp h
    obtain ⟨h1, h2⟩ := List.mem_filter.mp hp
    exact (open_wv hR hL hw h1 h2).1
  · intro h
    obtain ⟨A, B, e, _⟩ := wv_head hL hw h
    have : s ∈ R.map (stp w) := by rw [e]; simp
    obtain ⟨p, hp, rfl⟩ := List.mem_map.mp this
    exact List.mem_map.mpr ⟨p, List.mem_filter.mpr ⟨hp, head_open hR hL hw hp h⟩, rfl⟩
end
theorem cnt_wv {w : List Stp} : ∀ {n : Nat} {R : List Nat} {L : List (List Stp)}, R.length = n → R.Pairwise (· < ·) → Ch L → Wv L (R.map (stp w)) → cnt w R = nW L
  | 0, R, L, hn, hR, hL, hw => by
    have : R = [] := List.length_eq_zero_iff.mp hn
    subst this
    rw [cnt_nil, nW_0 (wv_total hL (by simpa using hw)).symm]
  | n + 1, R, L, hn, hR, hL, hw => by
    have hne : R ≠ [] := fun z => by rw [z] at hn; simp at hn
    have ht := wv_total hL hw
    rw [List.length_map] at ht
    rw [cnt_step w hne, nW_step hL (by omega)]
    have e : (R.filter (opn w R)).map (fun p => cnt w (R.erase p)) = ((R.filter (opn w R)).map (stp w)).map fun s => nW (adv L s) := by
      rw [List.map_map]
      refine List.map_congr_left fun p hp => ?_
      obtain ⟨h1, h2⟩ := List.mem_filter.mp hp
      exact cnt_wv (n := n) (by rw [List.length_erase_of_mem h1, hn]; simp) (hR.sublist (List.erase_sublist ..)) (hL.adv _) (open_wv hR hL hw h1 h2).2
    rw [e]
    exact ((opens_perm hR hL hw).map _).sum_nat
/-- the law's rank -/
def rkL : List (List Stp) → List Stp → Nat
  | _, [] => 0
  | L, s :: T => rkL (adv L s) T + (((heads L).filter fun h => slt h s).map fun h => nW (adv L h)).sum
theorem pk_sum {w : List Stp} {R : List Nat} {s : Stp} : ∀ {l : List Nat} {a p : Nat}, l.Pairwise (fun p q => slt (stp w p) (stp w q) = true) → p ∈ l → stp w p = s →
    pk w R (some s) l a = some (p, a + ((l.filter fun q => slt (stp w q) s).map fun q => cnt w (R.erase q)).sum)
  | [], a, p, _, h, _ => by simp at h
  | q :: l, a, p, hl, h, hs => by
    have h1 := List.pairwise_cons.mp hl
    rw [pk_cons]
    by_cases e : stp w q = s
    · have hpq : p = q := by
        rcases List.mem_cons.mp h with z | z
        · exact z
        · have := h1.1 p z
          rw [e, hs, slt_irr] at this; cases this
      subst hpq
      rw [if_pos (by rw [e])]
      have : ((p :: l).filter fun q => slt (stp w q) s) = [] := by
        rw [List.filter_eq_nil_iff]
        intro r hr
        rcases List.mem_cons.mp hr with z | z
        · subst z; rw [e, slt_irr]; simp
        · have := h1.1 r z
          rw [e] at this
          rw [slt_asym this]; simp
      rw [this]; rfl
    · have hp : p ∈ l := by
        rcases List.mem_cons.mp h with z | z
        · subst z; exact absurd hs e
        · exact z
      rw [if_neg (by simpa using e), pk_sum h1.2 hp hs]
      have hq : slt (stp w q) s = true := by rw [← hs]; exact h1.1 p hp
      rw [List.filter_cons, if_pos hq, List.map_cons, List.sum_cons, Nat.add_assoc]
theorem rk_wv {w : List Stp} : ∀ {T : List Stp} {R : List Nat} {L : List (List Stp)}, R.Pairwise (· < ·) → Ch L → Wv L (R.map (stp w)) → Wv L T → rk w R (T.map some) = some (rkL L T)
  | [], R, L, _, _, _, _ => rfl
  | s :: T, R, L, hR, hL, hw, hT => by
    cases hT with
    | cons hs t =>
      have nd : R.Nodup := hR.imp fun h => Nat.ne_of_lt h
      obtain ⟨A, B, e, _⟩ := wv_head hL hw hs
      have : s ∈ R.map (stp w) := by rw [e]; simp
      obtain ⟨p, hp, rfl⟩ := List.mem_map.mp this
      have ho := head_open hR hL hw hp hs
      have hps : p ∈ sfre w R := mem_sfre.mpr ⟨hp, ho⟩
      show (match pk w R (some (stp w p)) (sfre w R) 0 with
        | none => none
        | some (p, a) => (rk w (R.erase p) (T.map some)).map (· + a)) = _
      rw [pk_sum (sfre_sorted nd) hps rfl]
      dsimp only
      rw [rk_wv (hR.sublist (List.erase_sublist ..)) (hL.adv _) (open_wv hR hL hw hp ho).2 t]
      refine congrArg some ?_
      show rkL (adv L (stp w p)) T + _ = rkL (adv L (stp w p)) T + _
      refine congrArg _ ?_
      rw [Nat.zero_add]
      have e1 : ((sfre w R).filter fun q => slt (stp w q) (stp w p)).map (fun q => cnt w (R.erase q)) = (((sfre w R).map (stp w)).filter fun h => slt h (stp w p)).map fun h => nW (adv L h) := by
        rw [List.filter_map, List.map_map]
        refine List.map_congr_left fun q hq => ?_
        obtain ⟨h1, h2⟩ := mem_sfre.mp (List.mem_filter.mp hq).1
        exact cnt_wv rfl (hR.sublist (List.erase_sublist ..)) (hL.adv _) (open_wv hR hL hw h1 h2).2
      rw [e1]
      have e2 : ((sfre w R).map (stp w)).Perm (heads L) := ((List.mergeSort_perm _ _).map _).trans (opens_perm hR hL hw)
      exact ((e2.filter _).map _).sum_nat
/-- the least each time -/
inductive Gr : List (List Stp) → List Stp → Prop
  | nil {L : List (List Stp)} (h : ∀ c ∈ L, c = []) : Gr L []
  | cons {L : List (List Stp)} {x : Stp} {T : List Stp} (h : x ∈ heads L) (m : ∀ y ∈ heads L, slt y x = false) (t : Gr (adv L x) T) : Gr L (x :: T)
theorem Gr.wv {L : List (List Stp)} {T : List Stp} (h : Gr L T) : Wv L T := by
  induction h with
  | nil h => exact .nil h
  | cons h _ _ ih => exact .cons h ih
theorem Gr.rk0 {L : List (List Stp)} {T : List Stp} (h : Gr L T) : rkL L T = 0 := by
  induction h with
  | nil h => rfl
  | @cons L x T h m _ ih =>
    show rkL _ _ + _ = 0
    have : (heads L).filter (fun h => slt h x) = [] := by
      rw [List.filter_eq_nil_iff]
      intro y hy
      rw [m y hy]; simp
    rw [ih, this]; rfl
theorem stp_map (w : List Stp) : (List.range w.length).map (stp w) = w := by
  refine List.ext_getElem? fun i => ?_
  rw [List.getElem?_map]
  by_cases hi : i < w.length
  · rw [List.getElem?_range hi, Option.map_some, stp_get hi]
  · rw [List.getElem?_eq_none (by simp; omega), List.getElem?_eq_none (by omega)]; rfl
/-- for interleaved chains: the count, the rank and the first order -/
theorem wv_cnt {w : List Stp} {L : List (List Stp)} (hL : Ch L) (hw : Wv L w) : cnt w (List.range w.length) = nW L := cnt_wv rfl List.pairwise_lt_range hL (by rw [stp_map]; exact hw)
theorem wv_rnk {w T : List Stp} {L : List (List Stp)} (hL : Ch L) (hw : Wv L w) (hT : Wv L T) : rk w (List.range w.length) (T.map some) = some (rkL L T) := rk_wv List.pairwise_lt_range hL (by rw [stp_map]; exact hw) hT
theorem wv_get {w T : List Stp} {L : List (List Stp)} (hL : Ch L) (hw : Wv L w) (hT : Wv L T) : (ords w (List.range w.length))[rkL L T]? = some T := by
  obtain ⟨t, e, h⟩ := rk_get (w := w) (R := List.range w.length) List.nodup_range (by rw [List.length_map, List.length_range, wv_total hL hw, wv_total hL hT]) (wv_rnk hL hw hT)
  have : T = t := (List.map_inj_right fun _ _ => Option.some.inj).mp e
  rw [this]
  rw [← this] at h ⊢
  exact h
end K48
namespace K48
open PySem FL PySem.W PyProof.Rows
@[simp] theorem wm_ne : (("what" : Str) = ("most" : Str)) = False := eq_false (by decide)
@[simp] theorem big_1 : 1 ≤ big := by unfold big; omega
@[simp] theorem big_4 : 4 ≤ big := by unfold big; omega
@[simp] theorem big_6 : 6 ≤ big := by unfold big; omega
def tooT : PV := .tup [.str ['T', 'o', 'o', 'M', 'a', 'n', 'y'], .str ['c', 'o', 'u', 'n', 't', 'e', 'd'], .int 12]
def cntT (k : Nat) : PV := .tup [.str ['c', 'o', 'u', 'n', 't'], .int k]
def ordT (r : Nat) : PV := .tup [.str ['o', 'r', 'd', 'e', 'r'], .ref r]
def numT (k : Nat) : PV := .tup [.str ['n', 'u', 'm', 'b', 'e', 'r'], .int k]
def badT (x : PV) : PV := .tup [.str ['B', 'a', 'd', 'N', 'u', 'm', 'b', 'e', 'r'], x]
def notT : PV := .tup [.str ['N', 'o', 't', 'A', 'n', 'O', 'r', 'd', 'e', 'r']]
section
variable {h : MH} {Q : PV → MH → Prop} {E : Exc → MH → Prop}
theorem counted_sp {n : Nat} {w : List Stp} (hw : w.length ≤ 12) (e : lget h n = some (w.map enc)) : (F__law_counted [.ref n] h).sat (fun v h' => v = cntT (cn w 0) ∧ FL.Kept [] h h') noE := by
  refine sat__law_counted ?_
  unfold c__law_counted
  simp only [ssat_cons]
  rw [ws_tri (by simp [hsKn])]
  simp
  refine sat_to (count_sp hw e) ?_
  rintro _ h1 ⟨rfl, k1⟩
  exact ⟨rfl, k1⟩
theorem counted_big {n : Nat} {xs : List PV} (e : lget h n = some xs) (hw : 12 < xs.length) : (F__law_counted [.ref n] h).sat (fun v h' => v = tooT ∧ h' = h) noE := by
  refine sat__law_counted ?_
  unfold c__law_counted
  simp only [ssat_cons]
  rw [ws_tri (by simp [hsKn])]
  simp
  refine sat_mono (count_big e hw) (fun _ _ z => z.elim) ?_
  rintro _ h1 ⟨rfl, rfl⟩
  simp [tooMany, evHs, evHS, evHIs, evHI, idxOf, tooT]
theorem least_tp {n : Nat} {w : List Stp} (hw : w.length ≤ 12) (e1 : lget h n = some (w.map enc)) {T : List Stp} (hk : (ords w (List.range w.length))[0]? = some T) : (F__law_least [.ref n] h).sat (fun v h' => ∃ r, v = ordT r ∧ FL.Kept [] h h' ∧ h'[r]? = some (.lst (encs T))) noE := by
  refine sat__law_least ?_
  unfold c__law_least
  simp only [ssat_cons]
  rw [ws_tri (by simp [hsKn])]
  simp
  refine sat_to (least_ok hw e1 hk) ?_
  rintro _ h1 ⟨r, rfl, k1, _, g⟩
  exact ⟨r, rfl, k1, g⟩
theorem least_tb {n : Nat} {xs : List PV} (e : lget h n = some xs) (hw : 12 < xs.length) : (F__law_least [.ref n] h).sat (fun v h' => v = tooT ∧ h' = h) noE := by
  refine sat__law_least ?_
  unfold c__law_least
  simp only [ssat_cons]
  rw [ws_tri (by simp [hsKn])]
  simp
  refine sat_mono (least_big e hw) (fun _ _ z => z.elim) ?_
  rintro _ h1 ⟨rfl, rfl⟩
  simp [tooMany, evHs, evHS, evHIs, evHI, idxOf, tooT]
theorem at_tp {n : Nat} {w : List Stp} (hw : w.length ≤ 12) (e1 : lget h n = some (w.map enc)) {k : Nat} {T : List Stp} (hk : (ords w (List.range w.length))[k]? = some T) : (F__law_at [.ref n, .int k] h).sat (fun v h' => ∃ r, v = ordT r ∧ FL.Kept [] h h' ∧ h'[r]? = some (.lst (encs T))) noE := by
  refine sat__law_at ?_
  unfold c__law_at
  simp only [ssat_cons]
  rw [ws_tri (by simp [hsKn])]
  simp
  refine sat_to (at_ok hw e1 hk) ?_
  rintro _ h1 ⟨r, rfl, k1, _, g⟩
  exact ⟨r, rfl, k1, g⟩
theorem at_tb {n : Nat} {xs : List PV} {x : PV} (e : lget h n = some xs) (hw : 12 < xs.length) : (F__law_at [.ref n, x] h).sat (fun v h' => v = tooT ∧ h' = h) noE := by
  refine sat__law_at ?_
  unfold c__law_at
  simp only [ssat_cons]
  rw [ws_tri (by simp [hsKn])]
  simp
  refine sat_mono (at_big e hw) (fun _ _ z => z.elim) ?_
  rintro _ h1 ⟨rfl, rfl⟩
  simp [tooMany, evHs, evHS, evHIs, evHI, idxOf, tooT]
theorem at_tn {n : Nat} {w : List Stp} {x : PV} (hw : w.length ≤ 12) (e1 : lget h n = some (w.map enc)) (hx : badNo w x) : (F__law_at [.ref n, x] h).sat (fun v h' => v = badT x ∧ FL.Kept [] h h') noE := by
  refine sat__law_at ?_
  unfold c__law_at
  simp only [ssat_cons]
  rw [ws_tri (by simp [hsKn])]
  simp
  refine sat_mono (at_bad hw e1 hx) (fun _ _ z => z.elim) ?_
  rintro _ h1 ⟨rfl, k1⟩
  simp [evHs, evHS, evHIs, evHI, idxOf, badT, k1]
theorem number_tp {n no : Nat} {w : List Stp} {xs : List PV} {os : List (Option Stp)} (hw : w.length ≤ 12) (e1 : lget h n = some (w.map enc)) (e2 : lget h no = some xs) (L : ItL xs os) :
    (F__law_number [.ref n, .ref no] h).sat (fun v h' => v = (match rnk w os with | some k => numT k | none => notT) ∧ FL.Kept [] h h') noE := by
  refine sat__law_number ?_
  unfold c__law_number
  simp only [ssat_cons]
  rw [ws_tri (by simp [hsKn])]
  simp
  refine sat_mono (number_sp hw e1 e2 L) ?_ ?_
  · rintro _ h1 ⟨k, e, rfl, k1⟩
    rw [e]
    exact ⟨rfl, k1⟩
  · rintro _ h1 ⟨e, rfl, k1⟩
    rw [e]
    simp [notOrd, evHs, evHS, evHIs, evHI, idxOf, notT, k1]
theorem number_tb {n : Nat} {xs : List PV} {x : PV} (e : lget h n = some xs) (hw : 12 < xs.length) : (F__law_number [.ref n, x] h).sat (fun v h' => v = tooT ∧ h' = h) noE := by
  refine sat__law_number ?_
  unfold c__law_number
  simp only [ssat_cons]
  rw [ws_tri (by simp [hsKn])]
  simp
  refine sat_mono (number_big e hw) (fun _ _ z => z.elim) ?_
  rintro _ h1 ⟨rfl, rfl⟩
  simp [tooMany, evHs, evHS, evHIs, evHI, idxOf, tooT]
/-! ### refused -/
theorem list_sp {n : Nat} {xs : List PV} (e : lget h n = some xs) : (bltM .list [.ref n] h).sat Q E = Q (.ref h.length) (h ++ [.lst xs]) := v_list e
theorem tooT_snap {h : MH} {m : Nat} : snap h (m + 1) tooT = some (.tuple [.str (S ['T', 'o', 'o', 'M', 'a', 'n', 'y']), .str (S ['c', 'o', 'u', 'n', 't', 'e', 'd']), .int 12]) := by
  unfold tooT; rw [snap_tup]; simp [mapO_c]
def toss : PV → Option PV := fun _ => some tooT
theorem refused_sp {n : Nat} {xs : List PV} (e : lget h n = some xs) (hw : 12 < xs.length) : (F__law_refused [.ref n] h).sat (fun v h' => v = .bl true ∧ FL.Kept [] h h') noE := by
  refine sat__law_refused ?_
  unfold c__law_refused
  simp
  refine sat_to (counted_big e hw) ?_
  rintro _ _ ⟨rfl, rfl⟩
  refine sat_to (least_tb e hw) ?_
  rintro _ _ ⟨rfl, rfl⟩
  refine sat_to (at_tb e hw) ?_
  rintro _ _ ⟨rfl, rfl⟩
  refine sat_to (at_tb e hw) ?_
  rintro _ _ ⟨rfl, rfl⟩
  rename_i h
  have k1 : FL.Kept [] h (h ++ [MO.lst [tooT, tooT, tooT, tooT]]) := (FL.Kept.refl [] h).app _
  have g1 : (h ++ [MO.lst [tooT, tooT, tooT, tooT]])[h.length]? = some (.lst [tooT, tooT, tooT, tooT]) := get_new
  generalize h ++ [MO.lst [tooT, tooT, tooT, tooT]] = h1 at k1 g1 ⊢
  rw [v_list (k1.lget e (by simp))]
  have k2 := k1.app [MO.lst xs]
  have g2 := ((FL.Kept.refl [] h1).app [MO.lst xs]).at g1 (by simp)
  generalize h1 ++ [MO.lst xs] = h2 at k2 g2 ⊢
  refine sat_to (number_tb (k2.lget e (by simp)) hw) ?_
  rintro _ _ ⟨rfl, rfl⟩
  rename_i h2
  have k3 := k2.app [MO.lst []]
  have g3 := ((FL.Kept.refl [] h2).app [MO.lst []]).at g2 (by simp)
  generalize h2 ++ [MO.lst []] = h3 at k3 g3 ⊢
  refine sat_to (number_tb (k3.lget e (by simp)) hw) ?_
  rintro _ _ ⟨rfl, rfl⟩
  rename_i h3
  have k4 := k3.app [MO.lst [tooT, tooT]]
  have g4 := ((FL.Kept.refl [] h3).app [MO.lst [tooT, tooT]]).at g3 (by simp)
  rw [v_add_l (wl_lst g4) (wl_lst get_new) (by simp)]
  have k5 := k4.app [MO.lst ([tooT, tooT, tooT, tooT] ++ [tooT, tooT])]
  have g5 : (h3 ++ [MO.lst [tooT, tooT]] ++ [MO.lst ([tooT, tooT, tooT, tooT] ++ [tooT, tooT])])[(h3 ++ [MO.lst [tooT, tooT]]).length]? = some (.lst [tooT, tooT, tooT, tooT, tooT, tooT]) := get_new
  generalize h3 ++ [MO.lst [tooT, tooT]] ++ [MO.lst ([tooT, tooT, tooT, tooT] ++ [tooT, tooT])] = h5 at k5 g5 ⊢
  generalize (h3 ++ [MO.lst [tooT, tooT]]).length = r at g5 ⊢
  simp [w_lc]
  refine ⟨by decide, ?_⟩
  refine sat_lcP (S := []) (g := toss) (fun n z => nomatch z) at_seq fuel_seq (by rw [nats_len]; unfold big; omega) ?_ ?_
  · intro x hx h6 k6 _
    refine sat_lcStep rfl ?_
    simp [wipeF, toss, tooT, FL.Kept.refl]
  · intro h6 k6 g6
    have g7 := k6.at g5 (by simp)
    have e6 : List.filterMap toss (nats 0 6) = [tooT, tooT, tooT, tooT, tooT, tooT] := rfl
    rw [e6] at g6
    have sn : ∀ {r : Nat}, h6[r]? = some (.lst [tooT, tooT, tooT, tooT, tooT, tooT]) → snap h6 dp (.ref r) = some (.list (List.replicate 6 (.tuple [.str (S ['T', 'o', 'o', 'M', 'a', 'n', 'y']), .str (S ['c', 'o', 'u', 'n', 't', 'e', 'd']), .int 12]))) := fun {r} g => by
      show (match lget h6 r with | some xs => (mapO (snap h6 59) xs).map PyData.list | none => none) = _
      rw [lget_lst g]
      simp [mapO_c, tooT_snap (m := 58), List.replicate]
    refine sat_to (same_sp ⟨⟨_, sn g7⟩, _, sn g6⟩ (by simp [dsz, dszs, List.replicate])) ?_
    rintro _ h7 ⟨rfl, k7⟩
    exact ⟨rfl, (k5.trans k6).trans k7⟩
end
end K48
namespace K48
open PySem FL PySem.W PyProof.Rows
/-! ### the law's formula -/
theorem ch_le : ∀ n k, ch n k ≤ 2 ^ n
  | 0, 0 => by simp [ch]
  | n + 1, 0 => by simp [ch]; exact Nat.one_le_two_pow
  | 0, k + 1 => by simp [ch]
  | n + 1, k + 1 => by
    have h1 := ch_le n k
    have h2 := ch_le n (k + 1)
    show ch n k + ch n (k + 1) ≤ _
    rw [Nat.pow_succ]; omega
theorem log_small {k : Nat} (hk : k ≤ 2000) : ((k : Int) + 1).natAbs.log2 < 9000 := by
  have e : ((k : Int) + 1).natAbs = k + 1 := by omega
  rw [e]
  have : (k + 1).log2 < 11 := (Nat.log2_lt (by omega)).mpr (by omega)
  omega
section
variable {h : MH} {Q : PV → MH → Prop} {E : Exc → MH → Prop}
/-- turns over the sizes: D steps are placed, in c ways -/
def Wz (n : Nat) (l : List Nat) (h : MH) (i : Nat) (fr : Fr) (h1 : MH) : Prop := h1 = h ∧ ∃ (c : Nat) (a b : Option PV), c * mult ((l.take i).sum) (l.drop i) = mult 0 l ∧ fr = [some (.ref n), some (.int c), some (.int ((l.take i).sum : Nat)), a, b]
theorem ways_sp {n : Nat} {l : List Nat} (e : lget h n = some (iL l)) (hl : l.sum ≤ 1000) : (F__law_ways [.ref n] h).sat (fun v h' => v = .int (mult 0 l : Nat) ∧ h' = h) noE := by
  refine sat__law_ways ?_
  unfold c__law_ways
  simp [ws_for, e]
  refine sat_forL e (I := Wz n l h) ⟨rfl, 1, none, none, by simp, rfl⟩ (fun i fr h1 q => by rw [q.1]; exact e) ?_ ?_
  · rintro i x fr h1 hx ⟨rfl, c, a, b, ec, rfl⟩
    refine ⟨_, rfl, ?_⟩
    obtain ⟨s, es, rfl⟩ : ∃ s, l[i]? = some s ∧ x = .int (s : Nat) := by
      simp [iL] at hx
      obtain ⟨p, h1, h2⟩ := hx
      exact ⟨p, h1, h2.symm⟩
    have ed : l.drop i = s :: l.drop (i + 1) := by
      have hj := (List.getElem?_eq_some_iff.mp es).1
      rw [List.drop_eq_getElem_cons hj, (List.getElem?_eq_some_iff.mp es).2]
    have et : l.take (i + 1) = l.take i ++ [s] := by rw [List.take_add_one, es]; rfl
    have e9 : (l.take i).sum + (l.drop i).sum = l.sum := by rw [← List.sum_append, List.take_append_drop]
    rw [ed, List.sum_cons] at e9
    rw [ed] at ec
    generalize hD : (l.take i).sum = D at ec e9 ⊢
    simp [ws_for]
    refine ⟨okR_nat (by omega), ?_⟩
    refine sat_forS (fun k fr h2 => h2 = h1 ∧ ∃ b, fr = [some (.ref n), some (.int (c * ch (D + k) k : Nat)), some (.int (D + k : Nat)), some (.int (s : Nat)), b]) ⟨rfl, b, by simp [ch]⟩ ?_ ?_
    · rintro k y fr h2 hy ⟨rfl, b, rfl⟩
      obtain ⟨rfl, hk⟩ := nats_at hy
      refine ⟨_, rfl, ?_⟩
      simp
      rw [v_mul_i (by unfold small64; simp; omega), v_div_i ⟨by omega, log_small (by omega)⟩]
      have e1 : c * ch (D + k) k * (D + k + 1) = c * ch (D + k + 1) (k + 1) * (k + 1) := by
        rw [Nat.mul_assoc, Nat.mul_assoc, ← ch_up]
      have e2 : ((c : Int) * (ch (D + k) k : Nat) * ((D : Int) + k + 1)) = ((c * ch (D + k + 1) (k + 1) * (k + 1) : Nat) : Int) := by
        rw [← e1]; simp
      rw [e2]
      have e3 : ((c * ch (D + k + 1) (k + 1) * (k + 1) : Nat) : Int) / ((k : Int) + 1) = ((c * ch (D + k + 1) (k + 1) : Nat) : Int) := by
        rw [Int.natCast_mul _ (k + 1)]
        exact Int.mul_ediv_cancel _ (by omega)
      rw [e3]
      exact ⟨rfl, by simp [Nat.add_assoc]; omega⟩
    · rintro fr h2 ⟨rfl, b, rfl⟩
      rw [nats_len]
      refine ⟨rfl, c * ch (D + s) s, some (.int (s : Nat)), b, ?_, ?_⟩
      · rw [et, List.sum_append, List.sum_singleton, hD, ← ec]
        show _ = c * (ch (D + s) s * mult (D + s) _)
        rw [Nat.mul_assoc]
      · rw [et, List.sum_append, List.sum_singleton, hD]
  · rintro fr h1 ⟨rfl, c, a, b, ec, rfl⟩
    have : (iL l).length = l.length := by simp [iL]
    rw [this, List.drop_length] at ec
    simp [mult] at ec
    simp [ec]
end
/-! ### lists of lists -/
def Lsts (h : MH) (rs : List Nat) (L : List (List Stp)) : Prop := rs.map (fun r => h[r]?) = L.map fun c => some (MO.lst (encs c))
section
variable {h h' : MH} {rs : List Nat} {L : List (List Stp)}
theorem Lsts.len (s : Lsts h rs L) : rs.length = L.length := by
  have := congrArg List.length s
  simpa using this
theorem Lsts.get (s : Lsts h rs L) {i : Nat} {r : Nat} {c : List Stp} (h1 : rs[i]? = some r) (h2 : L[i]? = some c) : h[r]? = some (.lst (encs c)) := by
  have := congrArg (fun l => l[i]?) s
  simp only [List.getElem?_map, h1, h2, Option.map_some, Option.some.injEq] at this
  exact this
theorem Lsts.ix (s : Lsts h rs L) {i : Nat} {c : List Stp} (h2 : L[i]? = some c) : ∃ r, rs[i]? = some r ∧ h[r]? = some (.lst (encs c)) := by
  have hi := (List.getElem?_eq_some_iff.mp h2).1
  have hr : rs[i]? = some (rs[i]'(by rw [s.len]; exact hi)) := List.getElem?_eq_getElem _
  exact ⟨_, hr, s.get hr h2⟩
theorem Lsts.mem (s : Lsts h rs L) {r : Nat} (hr : r ∈ rs) : ∃ c, h[r]? = some (.lst (encs c)) := by
  have h1 : h[r]? ∈ rs.map (fun r => h[r]?) := List.mem_map_of_mem (f := fun r => h[r]?) hr
  rw [s] at h1
  obtain ⟨c, _, e⟩ := List.mem_map.mp h1
  exact ⟨c, e.symm⟩
theorem Lsts.lt (s : Lsts h rs L) {r : Nat} (hr : r ∈ rs) : r < h.length := by
  obtain ⟨c, e⟩ := s.mem hr
  exact (List.getElem?_eq_some_iff.mp e).1
theorem Lsts.keep {S : List Nat} (s : Lsts h rs L) (k : FL.Kept S h h') (hS : ∀ r ∈ rs, r ∉ S) : Lsts h' rs L := by
  unfold Lsts at *
  rw [← s]
  refine List.map_congr_left fun r hr => ?_
  obtain ⟨c, e⟩ := Lsts.mem (L := L) s hr
  rw [e, k.at e (hS r hr)]
theorem Lsts.set (s : Lsts h rs L) (nd : rs.Nodup) {i r : Nat} (h1 : rs[i]? = some r) (c : List Stp) : Lsts (h.set r (.lst (encs c))) rs (L.set i c) := by
  have hr := s.lt (List.mem_of_getElem? h1)
  unfold Lsts at *
  refine List.ext_getElem? fun j => ?_
  have hj := congrArg (fun l => l[j]?) s
  simp only [List.getElem?_map] at hj ⊢
  have hL := Lsts.len (L := L) s
  have hi := (List.getElem?_eq_some_iff.mp h1).1
  by_cases e : i = j
  · subst e
    rw [h1, List.getElem?_set_self (by omega)]
    simp only [Option.map_some, Option.some.injEq]
    rw [List.getElem?_set_self hr]
  · rw [List.getElem?_set_ne e, ← hj]
    cases q : rs[j]? with
    | none => rfl
    | some r' =>
      simp only [Option.map_some, Option.some.injEq]
      refine List.getElem?_set_ne fun z => e ?_
      subst z
      have a1 := List.getElem?_eq_some_iff.mp h1
      have a2 := List.getElem?_eq_some_iff.mp q
      exact (List.getElem_inj nd).mp (a1.2.trans a2.2.symm)
theorem Lsts.snoc (s : Lsts h rs L) {r : Nat} {c : List Stp} (e : h[r]? = some (.lst (encs c))) : Lsts h (rs ++ [r]) (L ++ [c]) := by
  unfold Lsts at *
  rw [List.map_append, List.map_append, s]
  simp [e]
/-- a chain with its head taken off -/
theorem adv_set {L : List (List Stp)} (hL : Ch L) {k : Nat} {x : Stp} {c : List Stp} (hk : L[k]? = some (x :: c)) : adv L x = L.set k c := by
  refine List.ext_getElem? fun j => ?_
  unfold adv
  rw [List.getElem?_map]
  have h1 := List.getElem?_eq_some_iff.mp hk
  by_cases e : k = j
  · subst e
    rw [hk, List.getElem?_set_self h1.1]
    simp [adv1_hit]
  · rw [List.getElem?_set_ne e]
    cases q : L[j]? with
    | none => rfl
    | some d =>
      have h2 := List.getElem?_eq_some_iff.mp q
      simp only [Option.map_some, Option.some.injEq]
      refine adv1_mis fun z => ?_
      have hx : x ∈ d := List.mem_of_head? z
      rcases Nat.lt_or_gt_of_ne e with l | l
      · have := List.pairwise_iff_getElem.mp hL.out k j h1.1 h2.1 l x (by rw [h1.2]; simp) x (by rw [h2.2]; exact hx)
        rw [dep_eq] at this; cases this
      · have := List.pairwise_iff_getElem.mp hL.out j k h2.1 h1.1 l x (by rw [h2.2]; exact hx) x (by rw [h1.2]; simp)
        rw [dep_eq] at this; cases this
end
section
variable {h : MH} {Q : PV → MH → Prop} {E : Exc → MH → Prop}
/-- all lists copied -/
theorem copies_sp {m : Nat} {rs : List Nat} {L : List (List Stp)} {step : PV → M (Option PV)} {Q : Unit → MH → Prop} (e : lget h m = some (rs.map PV.ref)) (s : Lsts h rs L) (hb : rs.length ≤ 1000)
    (hs : ∀ r xs h1, lget h1 r = some xs → (step (.ref r) h1).sat (fun v h2 => v = some (.ref h1.length) ∧ h2 = h1 ++ [.lst xs]) noE)
    (fin : ∀ h1 rs', FL.Kept [] h h1 → h1[h.length]? = some (.lst (rs'.map PV.ref)) → Lsts h1 rs' L → rs'.Nodup → (∀ r ∈ rs', h.length < r) → Q () h1) :
    (compL (.lst m) h.length step ((IT.lst m).fuel h) 0 (h ++ [.lst []])).sat Q noE := by
  refine sat_compL (xs := rs.map PV.ref) (J := fun i acc h1 => FL.Kept [] h h1 ∧ ∃ rs' : List Nat, acc = rs'.map PV.ref ∧ h1[h.length]? = some (.lst (rs'.map PV.ref)) ∧ Lsts h1 rs' (L.take i) ∧ rs'.Nodup ∧ ∀ r ∈ rs', h.length < r) ?_ ?_ ?_ _ 0 [] _ (by have := fuel_lst e; omega) (Nat.zero_le _) ⟨(FL.Kept.refl [] h).app _, [], rfl, get_new, by simp [Lsts], List.nodup_nil, fun _ z => nomatch z⟩
  · rintro i acc h1 ⟨k1, _⟩ _
    show (lget h1 m).map _ = _
    rw [k1.lget e (by simp)]; rfl
  · rintro i x acc h1 hx ⟨k1, rs', rfl, g1, s1, nd, fr⟩
    obtain ⟨r, hr, rfl⟩ : ∃ r, rs[i]? = some r ∧ x = .ref r := by
      rw [List.getElem?_map] at hx
      cases q : rs[i]? with
      | none => rw [q] at hx; cases hx
      | some r => rw [q] at hx; cases hx; exact ⟨r, rfl, rfl⟩
    have hi := (List.getElem?_eq_some_iff.mp hr).1
    have hc : L[i]? = some (L[i]'(by rw [← s.len]; exact hi)) := List.getElem?_eq_getElem _
    have hl := lget_lst (k1.at (s.get hr hc) (by simp))
    have hlt := (List.getElem?_eq_some_iff.mp g1).1
    refine sat_mono (hs r _ h1 hl) ?_ fun _ _ z => z
    rintro _ _ ⟨rfl, rfl⟩
    have g2 := ((FL.Kept.refl [] h1).app [MO.lst (encs (L[i]'(by rw [← s.len]; exact hi)))]).at g1 (by simp)
    have hlen := s1.len
    rw [List.length_take] at hlen
    refine ⟨wl_lst g2, by simp; unfold big; omega, (k1.app _).setNew (Nat.le_refl _) _, rs' ++ [h1.length], by simp, ?_, ?_, ?_, ?_⟩
    · rw [get_set g2]; simp
    · have s2 : Lsts (h1 ++ [MO.lst (encs (L[i]'(by rw [← s.len]; exact hi)))]) (rs' ++ [h1.length]) (L.take (i + 1)) := by
        rw [List.take_add_one, hc]
        exact (s1.keep ((FL.Kept.refl [] h1).app _) (by simp)).snoc get_new
      refine s2.keep ((FL.Kept.refl [h.length] _).setIn (by simp) _) fun q hq => ?_
      rcases List.mem_append.mp hq with z | z
      · have := fr q z; simp; omega
      · simp at z; subst z; simp; omega
    · rw [List.nodup_append]
      refine ⟨nd, by simp, fun a ha b hb z => ?_⟩
      simp at hb; subst hb; subst z
      have := s1.lt ha
      omega
    · intro q hq
      rcases List.mem_append.mp hq with z | z
      · exact fr q z
      · simp at z; subst z; exact hlt
  · rintro acc h1 ⟨k1, rs', rfl, g1, s1, nd, fr⟩
    refine fin h1 rs' k1 g1 ?_ nd fr
    rw [List.length_map, s.len, List.take_length] at s1
    exact s1
end
end K48
namespace K48
open PySem FL PySem.W PyProof.Rows
theorem nats_mem {n : Nat} {x : PV} (hx : x ∈ nats 0 n) : ∃ k : Nat, x = .int k ∧ k < n := by
  obtain ⟨k, hk⟩ := List.getElem?_of_mem hx
  obtain ⟨e, hl⟩ := nats_at hk
  exact ⟨k, e, hl⟩
theorem nats_filter {n : Nat} {p : Nat → Bool} {g : PV → Option PV} (hg : ∀ k : Nat, k < n → g (.int k) = if p k then some (.int k) else none) : (nats 0 n).filterMap g = iL ((List.range n).filter p) := by
  rw [nats_map, List.filterMap_map]
  unfold iL
  have : ∀ l : List Nat, (∀ k ∈ l, k < n) → l.filterMap (g ∘ fun (i : Nat) => PV.int (0 + (i : Int))) = (l.filter p).map fun (k : Nat) => PV.int k := by
    intro l
    induction l with
    | nil => intro _; rfl
    | cons k l ih =>
      intro hl
      have e := hg k (hl k (List.mem_cons_self ..))
      rw [List.filterMap_cons, List.filter_cons, ih fun q hq => hl q (List.mem_cons_of_mem _ hq)]
      simp only [Function.comp_apply, Int.zero_add, e]
      cases p k <;> simp
  exact this _ fun k hk => List.mem_range.mp hk
theorem nats_fm {n : Nat} {f : Nat → Nat} {g : PV → Option PV} (hg : ∀ k : Nat, k < n → g (.int k) = some (.int (f k : Nat))) : (nats 0 n).filterMap g = iL ((List.range n).map f) := by
  rw [nats_map, List.filterMap_map]
  unfold iL
  have : ∀ l : List Nat, (∀ k ∈ l, k < n) → l.filterMap (g ∘ fun (i : Nat) => PV.int (0 + (i : Int))) = (l.map f).map fun (k : Nat) => PV.int k := by
    intro l
    induction l with
    | nil => intro _; rfl
    | cons k l ih =>
      intro hl
      have e := hg k (hl k (List.mem_cons_self ..))
      rw [List.filterMap_cons, ih fun q hq => hl q (List.mem_cons_of_mem _ hq)]
      simp only [Function.comp_apply, Int.zero_add, e]
      rfl
  exact this _ fun k hk => List.mem_range.mp hk
section
variable {h : MH} {Q : PV → MH → Prop} {E : Exc → MH → Prop}
/-- the places of a range at which p holds -/
theorem lc_idx {n : Nat} {p : Nat → Bool} {step : PV → M (Option PV)} {Q : Unit → MH → Prop} (hn : n ≤ 1000000)
    (hs : ∀ k : Nat, k < n → ∀ h1, FL.Kept [] h h1 → (step (.int k) h1).sat (fun r h2 => r = (if p k then some (.int k) else none) ∧ h2 = h1) noE)
    (fin : ∀ h1, FL.Kept [] h h1 → h1[h.length]? = some (.lst (iL ((List.range n).filter p))) → Q () h1) :
    (compL (.seq (nats 0 n)) h.length step ((IT.seq (nats 0 n)).fuel h) 0 (h ++ [.lst []])).sat Q noE := by
  refine sat_lcP (S := []) (g := fun x => match x with | .int k => if p k.toNat then some (.int k) else none | _ => none) (fun n z => nomatch z) at_seq fuel_seq (by rw [nats_len]; unfold big; omega) ?_ ?_
  · intro x hx h1 k1 _
    obtain ⟨k, rfl, hk⟩ := nats_mem hx
    refine sat_mono (hs k hk h1 k1) ?_ fun _ _ z => z
    rintro r h2 ⟨rfl, rfl⟩
    exact ⟨by simp, FL.Kept.refl _ _⟩
  · intro h1 k1 g1
    rw [nats_filter (p := p) (fun k _ => by simp)] at g1
    exact fin h1 k1 g1
theorem lc_nat {n : Nat} {f : Nat → Nat} {step : PV → M (Option PV)} {Q : Unit → MH → Prop} (hn : n ≤ 1000000)
    (hs : ∀ k : Nat, k < n → ∀ h1, FL.Kept [] h h1 → (step (.int k) h1).sat (fun r h2 => r = some (.int (f k : Nat)) ∧ h2 = h1) noE)
    (fin : ∀ h1, FL.Kept [] h h1 → h1[h.length]? = some (.lst (iL ((List.range n).map f))) → Q () h1) :
    (compL (.seq (nats 0 n)) h.length step ((IT.seq (nats 0 n)).fuel h) 0 (h ++ [.lst []])).sat Q noE := by
  refine sat_lcP (S := []) (g := fun x => match x with | .int k => some (.int (f k.toNat : Nat)) | _ => none) (fun n z => nomatch z) at_seq fuel_seq (by rw [nats_len]; unfold big; omega) ?_ ?_
  · intro x hx h1 k1 _
    obtain ⟨k, rfl, hk⟩ := nats_mem hx
    refine sat_mono (hs k hk h1 k1) ?_ fun _ _ z => z
    rintro r h2 ⟨rfl, rfl⟩
    exact ⟨by simp, FL.Kept.refl _ _⟩
  · intro h1 k1 g1
    rw [nats_fm (f := f) (fun k _ => by simp)] at g1
    exact fin h1 k1 g1
/-- the lengths of all lists -/
def lenG (h : MH) : PV → Option PV
  | .ref r => (lget h r).map fun xs => .int xs.length
  | _ => none
theorem lens_sp {m : Nat} {rs : List Nat} {L : List (List Stp)} {step : PV → M (Option PV)} {Q : Unit → MH → Prop} (e : lget h m = some (rs.map PV.ref)) (s : Lsts h rs L) (hb : rs.length ≤ 1000)
    (hs : ∀ r xs h1, lget h1 r = some xs → (step (.ref r) h1).sat (fun v h2 => v = some (.int xs.length) ∧ h2 = h1) noE)
    (fin : ∀ h1, FL.Kept [] h h1 → h1[h.length]? = some (.lst (iL (L.map List.length))) → Q () h1) :
    (compL (.lst m) h.length step ((IT.lst m).fuel h) 0 (h ++ [.lst []])).sat Q noE := by
  refine sat_lcP (S := []) (g := lenG h) (fun n z => nomatch z) (at_lst e (by simp)) (fuel_lst e) (by rw [List.length_map]; unfold big; omega) ?_ ?_
  · intro x hx h1 k1 _
    obtain ⟨r, hr, rfl⟩ := List.mem_map.mp hx
    obtain ⟨c, hc⟩ := s.mem hr
    refine sat_mono (hs r _ h1 (lget_lst (k1.at hc (by simp)))) ?_ fun _ _ z => z
    rintro v h2 ⟨rfl, rfl⟩
    exact ⟨by simp [lenG, lget_lst hc], FL.Kept.refl _ _⟩
  · intro h1 k1 g1
    refine fin h1 k1 ?_
    rw [g1]
    congr 2
    rw [List.filterMap_map]
    have : ∀ (rs : List Nat) (L : List (List Stp)), Lsts h rs L → rs.filterMap (lenG h ∘ PV.ref) = iL (L.map List.length) := by
      intro rs
      induction rs with
      | nil =>
        intro L s
        have := s.len
        cases L with
        | nil => rfl
        | cons c L => simp at this
      | cons r rs ih =>
        intro L s
        cases L with
        | nil => have := s.len; simp at this
        | cons c L =>
          unfold Lsts at s
          simp only [List.map_cons, List.cons.injEq] at s
          rw [List.filterMap_cons]
          have := ih L s.2
          simp [lenG, lget_lst s.1, iL, encs] at this ⊢
          exact this
    exact this rs L s
theorem v_pop_0 {n : Nat} {xs : List PV} {y : PV} (e : h[n]? = some (.lst (y :: xs))) (hb : xs.length ≤ 100000) : (mthM .list .pop (.ref n) [.int 0] h).sat Q E = Q y (h.set n (.lst xs)) := by
  have := v_popI (Q := Q) (E := E) (k := 0) e rfl (by simp; omega)
  simpa using this
theorem v_sum {r : Nat} {l : List Nat} (e : lget h r = some (iL l)) : (bltM .sum [.ref r] h).sat Q E = Q (.int (l.sum : Nat)) h := by
  have h1 : ∀ l : List Nat, mapO asI (iL l) = some (l.map fun (k : Nat) => (k : Int)) := by
    intro l
    induction l with
    | nil => rfl
    | cons k l ih => exact mapO_cons rfl ih
  have h2 : ∀ l : List Nat, (l.map fun (k : Nat) => (k : Int)).sum = ((l.sum : Nat) : Int) := by
    intro l
    induction l with
    | nil => rfl
    | cons k l ih => simp only [List.map_cons, List.sum_cons, ih]; omega
  have : bltM .sum [.ref r] h = Res.ok (.int (l.sum : Nat)) h := by
    show (match lstOf h (.ref r) with
      | some xs => match mapO asI xs with
        | some ns => Res.ok (PV.int ns.sum) h
        | none => .bad
      | none => .bad) = _
    rw [show lstOf h (.ref r) = lget h r from rfl, e]; dsimp only
    rw [h1]; dsimp only
    rw [h2]
  rw [this, sat_ok]
end
end K48
namespace K48
open PySem FL PySem.W PyProof.Rows
theorem le_sum {a : Nat} : ∀ {l : List Nat}, a ∈ l → a ≤ l.sum
  | [], h => by simp at h
  | b :: l, h => by
    rw [List.sum_cons]
    rcases List.mem_cons.mp h with z | z
    · omega
    · have := le_sum z; omega
def opens (L : List (List Stp)) : List Nat := (List.range L.length).filter fun k => decide (0 < ((L[k]?).getD []).length)
theorem mem_opens {L : List (List Stp)} {k : Nat} : k ∈ opens L ↔ ∃ x c, L[k]? = some (x :: c) := by
  unfold opens
  rw [List.mem_filter, List.mem_range]
  constructor
  · rintro ⟨h1, h2⟩
    have e : L[k]? = some L[k] := List.getElem?_eq_getElem h1
    rw [e] at h2
    cases q : L[k] with
    | nil => rw [q] at h2; simp at h2
    | cons x c => exact ⟨x, c, by rw [e, q]⟩
  · rintro ⟨x, c, e⟩
    exact ⟨(List.getElem?_eq_some_iff.mp e).1, by rw [e]; simp⟩
theorem opens_ne {L : List (List Stp)} (h : total L ≠ 0) : opens L ≠ [] := by
  intro z
  apply h
  have : ∀ c ∈ L, c = [] := by
    intro c hc
    obtain ⟨k, hk⟩ := List.getElem?_of_mem hc
    cases c with
    | nil => rfl
    | cons x c =>
      have : k ∈ opens L := mem_opens.mpr ⟨x, c, hk⟩
      rw [z] at this; simp at this
  unfold total
  clear h z
  induction L with
  | nil => rfl
  | cons c L ih => rw [List.map_cons, List.sum_cons, ih fun d hd => this d (List.mem_cons_of_mem _ hd), this c (List.mem_cons_self ..)]; rfl
theorem head_at {L : List (List Stp)} {k : Nat} {x : Stp} {c : List Stp} (h : L[k]? = some (x :: c)) : x ∈ heads L := mem_heads.mpr ⟨c, List.mem_of_getElem? h⟩
/-- lists that are new and no two the same -/
structure Own (n c lo : Nat) (xs : List Nat) (rs : List Nat) : Prop where
  nd : rs.Nodup
  deck : n < lo ∧ c < lo
  fresh : ∀ r ∈ rs, lo ≤ r
  oth : ∀ r ∈ rs, r ∉ xs
def Wo (n c m lf fd : Nat) (rs : List Nat) (L : List (List Stp)) (h : MH) (i : Nat) (fr : Fr) (h4 : MH) : Prop := Dr n c h h4 ∧ h4[lf]? = some (.lst (rs.map PV.ref)) ∧
  ∃ (L' : List (List Stp)) (T : List Stp), Lsts h4 rs L' ∧ Ch L' ∧ total L' + i = total L ∧ (∀ T', Wv L' T' → Wv L (T ++ T')) ∧ T.length = i ∧ h4[fd]? = some (.lst (encs T)) ∧
  ∃ a b d e : Option PV, fr = [some (.ref n), some (.ref m), some (.ref lf), some (.ref fd), a, b, d, e]
section
variable {h : MH} {Q : PV → MH → Prop} {E : Exc → MH → Prop}
theorem encs_len (l : List Stp) : (encs l).length = l.length := by simp [encs]
theorem woven_sp {n c m : Nat} {rs0 : List Nat} {L : List (List Stp)} (d : Dk n c h) (e : lget h m = some (rs0.map PV.ref)) (s : Lsts h rs0 L) (hL : Ch L) (hb : total L ≤ 13) (hr : rs0.length ≤ 100) :
    (F__law_woven [.ref n, .ref m] h).sat (fun v h' => ∃ r T, v = .ref r ∧ h'[r]? = some (.lst (encs T)) ∧ h.length ≤ r ∧ Wv L T ∧ Dr n c h h') noE := by
  have hlt := d.lt
  refine sat__law_woven ?_
  unfold c__law_woven
  simp [w_lc, e]
  refine copies_sp e s (by omega) (fun r xs h1 hl => sat_lcStep rfl ?_) ?_
  · simp [wipeF]
    rw [v_list hl]
    exact ⟨rfl, rfl⟩
  intro h1 rs k1 g1 s1 nd fr
  have e1 := k1.lget e (by simp)
  have s01 := s.keep k1 (by simp)
  have hl1 := (List.getElem?_eq_some_iff.mp g1).1
  have r1 : Dr n c h h1 := ⟨k1.any, d.keep0 k1⟩
  have k2 := (FL.Kept.refl [] h1).app [MO.lst []]
  have r2 := r1.keep k2
  have g2 := k2.at g1 (by simp)
  have s2 := s1.keep k2 (by simp)
  have e2 := k2.lget e1 (by simp)
  have s02 := s01.keep k2 (by simp)
  have f2 : (h1 ++ [MO.lst []])[h1.length]? = some (.lst (encs [])) := get_new
  generalize h1 ++ [MO.lst []] = h2 at k2 r2 g2 s2 e2 s02 f2 ⊢
  have hn2 : h.length ≤ h1.length := k1.len
  have rsl : ∀ r ∈ rs, r < h1.length := fun r hr => s1.lt hr
  have rlen : rs.length = L.length := s1.len
  have r0len : rs0.length = L.length := s.len
  generalize h1.length = fd at f2 hn2 rsl hl1 ⊢
  have ow : Own n c h.length [h.length, fd] rs := ⟨nd, ⟨hlt.1, hlt.2.1⟩, fun r hr => by have := fr r hr; omega, fun r hr => by have := fr r hr; have := rsl r hr; simp; omega⟩
  have hn : n < h.length := hlt.1
  have hc : c < h.length := hlt.2.1
  simp only [ws_for, w_rng1, w_blt, w_es, w_es0, w_lc, w_val, w_loc, List.getElem?_cons_zero, List.getElem?_cons_succ, itK_ref, e2, Option.isSome_some, true_and]
  refine lens_sp e2 s02 (by omega) (fun r xs h1 hl => sat_lcStep rfl ?_) ?_
  · simp [wipeF]
    rw [v_len_l hl]
    exact ⟨rfl, rfl⟩
  intro h3 k3 g3
  have r3 := r2.keep k3
  have g3l := k3.at g2 (by simp)
  have s3 := s2.keep k3 (by simp)
  have f3 := k3.at f2 (by simp)
  rw [v_sum (lget_lst g3)]
  have hsum : (L.map List.length).sum = total L := rfl
  refine ⟨okR_nat (by omega), ?_⟩
  rw [hsum]
  refine sat_forS (Wo n c m h.length fd rs L h) ⟨r3, g3l, L, [], s3, hL, by simp, fun T' z => z, rfl, f3, _, _, _, _, rfl⟩ ?_ ?_
  · rintro i x fr h4 hx ⟨r4, g4, L', T, s4, hL', ht, hp, hT, f4, a, b, d', e', rfl⟩
    obtain ⟨rfl, hi⟩ := nats_at hx
    refine ⟨_, rfl, ?_⟩
    have hne : total L' ≠ 0 := by simp at hi; omega
    have l4 := s4.len
    simp [w_lc, v_len_l (lget_lst g4)]
    refine ⟨okR_nat (by omega), ?_⟩
    rw [show (nats 0 rs.length) = nats 0 L'.length by rw [l4]]
    refine lc_idx (p := fun k => decide (0 < ((L'[k]?).getD []).length)) (by omega) ?_ ?_
    · intro k hk h5 k5
      refine sat_lcStep rfl ?_
      have e5 : L'[k]? = some L'[k] := List.getElem?_eq_getElem hk
      have s5 := s4.keep k5 (by simp)
      obtain ⟨r, hr, hl⟩ := s5.ix e5
      simp [wipeF, v_ix_l (lget_lst (k5.at g4 (by simp))), atI_nat, hr, v_len_l (lget_lst hl), encs_len, e5]
    intro h5 k5 g5
    have g5' : h5[h4.length]? = some (.lst (iL (opens L'))) := g5
    have r5 := r4.keep k5
    have g45 := k5.at g4 (by simp)
    have f5 := k5.at f4 (by simp)
    have s5 := s4.keep k5 (by simp)
    have hl5 := r4.d.lt
    have hlf := (List.getElem?_eq_some_iff.mp g4).1
    have hfd := (List.getElem?_eq_some_iff.mp f4).1
    have ho := List.length_pos_iff.mpr (opens_ne hne)
    have ho2 : (opens L').length ≤ L'.length := by
      have := List.length_filter_le (fun k => decide (0 < ((L'[k]?).getD []).length)) (List.range L'.length)
      rw [List.length_range] at this
      exact this
    rw [v_len_l (lget_lst g5'), show (iL (opens L')).length = (opens L').length by simp [iL]]
    refine sat_to (draw_sp r5.d ⟨by omega, by omega⟩) ?_
    rintro _ h6 ⟨j, rfl, hj, r6⟩
    have hj' : j < (opens L').length := by omega
    have ek : (opens L')[j]? = some (opens L')[j] := List.getElem?_eq_getElem hj'
    have hk := List.mem_of_getElem? ek
    generalize (opens L')[j] = k at ek hk
    obtain ⟨x, cc, ex⟩ := mem_opens.mp hk
    have nrs : ∀ r ∈ rs, r ≠ n := fun r hr z => by have := ow.fresh r hr; omega
    have g6 := r6.k.at g5' (by simp; omega)
    have g46 := r6.k.at g45 (by simp; omega)
    have f6 := r6.k.at f5 (by simp; omega)
    have s6 := s5.keep r6.k (fun r hr => by simpa using nrs r hr)
    obtain ⟨r, er, hr⟩ := s6.ix ex
    have hrm := List.mem_of_getElem? er
    rw [v_ix_l (lget_lst g6), atI_nat, iL_get ek, atK_some]
    simp only [kind_l (lget_lst f6), ok_append, true_and]
    rw [v_ix_l (lget_lst g46), atI_nat, List.getElem?_map, er, Option.map_some, atK_some]
    simp only [kind_l (lget_lst hr), ok_pop, true_and]
    have htot := adv_total hL' (head_at ex)
    have hcc : cc.length ≤ 13 := by
      have : cc.length + 1 ≤ total L' := by
        have h1 : (x :: cc).length ∈ L'.map List.length := List.mem_map_of_mem (List.mem_of_getElem? ex)
        exact le_sum h1
      omega
    rw [v_pop_0 (y := enc x) (xs := encs cc) hr (by rw [encs_len]; omega)]
    have s7 := s6.set ow.nd er cc
    rw [← adv_set hL' ex] at s7
    have hrf := ow.oth r hrm
    simp at hrf
    have f7 : (h6.set r (.lst (encs cc)))[fd]? = some (.lst (encs T)) := by rw [List.getElem?_set_ne hrf.2]; exact f6
    have g7 : (h6.set r (.lst (encs cc)))[h.length]? = some (.lst (rs.map PV.ref)) := by rw [List.getElem?_set_ne hrf.1]; exact g46
    have r7 : Dr n c h (h6.set r (.lst (encs cc))) := ⟨(r5.trans r6).k.setNew (ow.fresh r hrm) _, (r5.trans r6).d.set _ (by have := ow.fresh r hrm; omega) (by have := ow.fresh r hrm; omega)⟩
    rw [v_append, wl_lst f7]
    refine ⟨by rw [encs_len]; unfold big; omega, ⟨r7.k.setNew (by omega) _, r7.d.set _ (by omega) (by omega)⟩, ?_, adv L' x, T ++ [x], ?_, hL'.adv x, by omega, ?_, by simp [hT], ?_, _, _, _, _, rfl⟩
    · rw [List.getElem?_set_ne (by omega)]; exact g7
    · refine s7.keep ((FL.Kept.refl [fd] _).setIn (by simp) _) fun q hq => ?_
      have := ow.oth q hq
      simp at this ⊢; omega
    · intro T' hT'
      rw [List.append_assoc]
      exact hp _ (.cons (head_at ex) hT')
    · rw [get_set f7]; simp [encs]
  · rintro fr h4 ⟨r4, g4, L', T, s4, hL', ht, hp, hT, f4, a, b, d', e', rfl⟩
    rw [nats_len] at ht
    have hz : total L' = 0 := by simp at ht; omega
    have := hp [] (.nil (total_0 hz))
    rw [List.append_nil] at this
    simp
    exact ⟨T, f4, hn2, this, r4⟩
end
end K48
namespace K48
open PySem FL PySem.W PyProof.Rows
theorem best_sp {bt : Nat → Nat → Bool} (irr : ∀ i, bt i i = false) (tr : ∀ i j k, bt i j = true → bt j k = true → bt i k = true) : ∀ k, argBest bt k ≤ k ∧ ∀ j, j ≤ k → bt j (argBest bt k) = false
  | 0 => ⟨Nat.le_refl _, fun j hj => by
    have : j = 0 := by omega
    subst this; exact irr 0⟩
  | k + 1 => by
    obtain ⟨h1, h2⟩ := best_sp irr tr k
    unfold argBest
    split
    · rename_i hb
      refine ⟨Nat.le_refl _, fun j hj => ?_⟩
      by_cases e : j = k + 1
      · subst e; exact irr _
      · cases q : bt j (k + 1) with
        | false => rfl
        | true => have := tr _ _ _ q hb; rw [h2 j (by omega)] at this; cases this
    · rename_i hb
      refine ⟨by omega, fun j hj => ?_⟩
      by_cases e : j = k + 1
      · subst e; simpa using hb
      · exact h2 j (by omega)
theorem enc_tup (s : Stp) : ∃ x xs, enc s = .tup (x :: xs) := by cases s <;> exact ⟨_, _, rfl⟩
section
variable {h : MH} {Q : PV → MH → Prop} {E : Exc → MH → Prop}
@[simp] theorem lt_e {s t : Stp} : (cmpM .Lt (enc s) (enc t) h).sat Q E = Q (.bl (slt s t)) h := by
  have h1 := snap_e (h := h) (s := s)
  have h2 := snap_e (h := h) (s := t)
  obtain ⟨x, xs, e1⟩ := enc_tup s
  obtain ⟨y, ys, e2⟩ := enc_tup t
  rw [e1] at h1 ⊢
  rw [e2] at h2 ⊢
  exact v_lt_t h1 h2 (soft_dat s t)
theorem snaps_e (l : List Stp) : snaps h (encs l) = some (l.map dat) := mapO_map fun s _ => snap_e
theorem min_e {r : Nat} {l : List Stp} (e : lget h r = some (encs l)) (hl : l ≠ []) (q : ∀ x ∈ l, (∀ y ∈ l, slt y x = false) → Q (enc x) h) : (bltM .min [.ref r] h).sat Q E := by
  obtain ⟨z, l', rfl⟩ : ∃ z l', l = z :: l' := by cases l with
    | nil => exact absurd rfl hl
    | cons z l' => exact ⟨z, l', rfl⟩
  have e1 : mapO asI (encs (z :: l')) = none := by
    rw [show encs (z :: l') = enc z :: l'.map enc from rfl, mapO_c]
    obtain ⟨x, xs, e1⟩ := enc_tup z
    rw [e1]; rfl
  have ok : okMin ((z :: l').map dat) = true := by
    unfold okMin
    simp only [Bool.and_eq_true, List.all_eq_true, List.mem_map]
    refine ⟨?_, ?_⟩
    · rintro _ ⟨p, _, rfl⟩ _ ⟨q, _, rfl⟩
      exact soft_dat p q
    · rintro _ ⟨p, _, rfl⟩
      cases p <;> rfl
  have hb := best_sp (bt := fun i j => dataLt (((z :: l').map dat).getD i .none) (((z :: l').map dat).getD j .none)) (fun i => lex_irrefl _) (fun i j k => lex_trans _ _ _) (((z :: l').map dat).length - 1)
  have hk : argMin ((z :: l').map dat) < (z :: l').length := by
    have := hb.1
    unfold argMin
    simp at this ⊢
    omega
  have ex : (encs (z :: l'))[argMin ((z :: l').map dat)]? = some (enc ((z :: l')[argMin ((z :: l').map dat)]'hk)) := by
    unfold encs
    rw [List.getElem?_map, List.getElem?_eq_getElem hk]; rfl
  have : bltM .min [.ref r] h = Res.ok (enc ((z :: l')[argMin ((z :: l').map dat)]'hk)) h := by
    show (match lstOf h (.ref r) with
      | some xs => match mapO asI xs with
        | some ns => if ns.isEmpty then Res.bad else Res.ok (PV.int (minL ns)) h
        | none => match snaps h xs with
          | some ds => if okMin ds && !ds.isEmpty then (match xs[argMin ds]? with
            | some p => .ok p h
            | none => Res.bad) else Res.bad
          | none => Res.bad
      | none => Res.bad) = _
    rw [show lstOf h (.ref r) = lget h r from rfl, e]; dsimp only
    rw [e1]; dsimp only
    rw [snaps_e]; dsimp only
    rw [ok, if_pos (by rfl), ex]
  rw [this, sat_ok]
  refine q _ (List.getElem_mem _) fun y hy => ?_
  obtain ⟨j, hj, rfl⟩ := List.getElem_of_mem hy
  have := hb.2 j (by simp at hj ⊢; omega)
  have g1 : ((z :: l').map dat).getD j .none = dat (z :: l')[j] := by
    rw [List.getD_eq_getElem?_getD, List.getElem?_map, List.getElem?_eq_getElem hj]; rfl
  have g2 : ((z :: l').map dat).getD (argMin ((z :: l').map dat)) .none = dat ((z :: l')[argMin ((z :: l').map dat)]'hk) := by
    rw [List.getD_eq_getElem?_getD, List.getElem?_map, List.getElem?_eq_getElem hk]; rfl
  have t : dataLt (((z :: l').map dat).getD j .none) (((z :: l').map dat).getD (argMin ((z :: l').map dat)) .none) = false := this
  rw [g1, g2] at t
  exact t
end
end K48
namespace K48
open PySem FL PySem.W PyProof.Rows
/-- the first items of all lists that have one -/
def hdG (h : MH) : PV → Option PV
  | .ref r => match lget h r with
    | some (y :: _) => some y
    | _ => none
  | _ => none
theorem hd_map {h : MH} : ∀ {rs : List Nat} {L : List (List Stp)}, Lsts h rs L → (rs.map PV.ref).filterMap (hdG h) = encs (heads L)
  | [], L, s => by
    have := s.len
    cases L with
    | nil => rfl
    | cons c L => simp at this
  | r :: rs, [], s => by have := s.len; simp at this
  | r :: rs, c :: L, s => by
    unfold Lsts at s
    simp only [List.map_cons, List.cons.injEq] at s
    have ih := hd_map (h := h) (rs := rs) (L := L) s.2
    rw [List.map_cons, List.filterMap_cons]
    cases c with
    | nil =>
      have e : hdG h (.ref r) = none := by
        unfold hdG; dsimp only; rw [lget_lst s.1]; rfl
      rw [e]
      exact ih
    | cons y c =>
      have e : hdG h (.ref r) = some (enc y) := by
        unfold hdG; dsimp only; rw [lget_lst s.1]; rfl
      rw [e]
      show enc y :: _ = _
      rw [ih]; rfl
theorem heads_ne {L : List (List Stp)} (h : total L ≠ 0) : heads L ≠ [] := by
  cases q : opens L with
  | nil => exact absurd q (opens_ne h)
  | cons k l =>
    obtain ⟨x, c, e⟩ := mem_opens.mp (show k ∈ opens L by rw [q]; exact List.mem_cons_self ..)
    intro z
    have := head_at e
    rw [z] at this; simp at this
/-- all chains with the head s go on, those before the place j have -/
def advT (s : Stp) (j : Nat) (L : List (List Stp)) : List (List Stp) := (L.take j).map (adv1 s) ++ L.drop j
theorem advT_get {s : Stp} {j i : Nat} {L : List (List Stp)} : (advT s j L)[i]? = if i < j then L[i]?.map (adv1 s) else L[i]? := by
  unfold advT
  by_cases h : i < j
  · rw [if_pos h]
    by_cases hi : i < L.length
    · rw [List.getElem?_append_left (by simp; omega), List.getElem?_map, List.getElem?_take, if_pos h]
    · rw [List.getElem?_eq_none (by simp; omega), List.getElem?_eq_none (by omega)]; rfl
  · rw [if_neg h]
    by_cases hj : j ≤ L.length
    · rw [List.getElem?_append_right (by simp; omega), List.getElem?_drop]
      congr 1; simp; omega
    · rw [List.getElem?_eq_none (by simp; omega), List.getElem?_eq_none (by omega)]
theorem advT_step {s : Stp} {j : Nat} {L : List (List Stp)} {c : List Stp} (h : L[j]? = some c) : (advT s j L).set j (adv1 s c) = advT s (j + 1) L := by
  refine List.ext_getElem? fun i => ?_
  rw [List.getElem?_set, advT_get, advT_get]
  have hj := (List.getElem?_eq_some_iff.mp h).1
  have hl : (advT s j L).length = L.length := by unfold advT; simp; omega
  by_cases e : j = i
  · subst e
    rw [if_pos rfl, hl, if_pos hj, if_pos (by omega), h]; rfl
  · rw [if_neg e]
    by_cases h1 : i < j
    · rw [if_pos h1, if_pos (by omega)]
    · rw [if_neg h1, if_neg (by omega)]
theorem set_same {α : Type} {l : List α} {j : Nat} {c : α} (h : l[j]? = some c) : l.set j c = l := by
  refine List.ext_getElem? fun i => ?_
  rw [List.getElem?_set]
  by_cases e : j = i
  · subst e; rw [if_pos rfl, if_pos (List.getElem?_eq_some_iff.mp h).1, h]
  · rw [if_neg e]
theorem advT_all {s : Stp} {L : List (List Stp)} : advT s L.length L = adv L s := by
  unfold advT; rw [List.take_length, List.drop_length, List.append_nil]; rfl
def Fo (m lf fd : Nat) (rs : List Nat) (L : List (List Stp)) (h : MH) (i : Nat) (fr : Fr) (h4 : MH) : Prop := FL.Kept [] h h4 ∧ h4[lf]? = some (.lst (rs.map PV.ref)) ∧
  ∃ (L' : List (List Stp)) (T : List Stp), Lsts h4 rs L' ∧ Ch L' ∧ total L' + i = total L ∧ (∀ T', Gr L' T' → Gr L (T ++ T')) ∧ T.length = i ∧ h4[fd]? = some (.lst (encs T)) ∧
  ∃ a b d : Option PV, fr = [some (.ref m), some (.ref lf), some (.ref fd), a, b, d]
def Fi (m lf fd : Nat) (rs : List Nat) (L' : List (List Stp)) (T : List Stp) (s : Stp) (i : Nat) (h : MH) (j : Nat) (fr : Fr) (h4 : MH) : Prop := FL.Kept [] h h4 ∧ h4[lf]? = some (.lst (rs.map PV.ref)) ∧
  Lsts h4 rs (advT s j L') ∧ h4[fd]? = some (.lst (encs T)) ∧ ∃ d : Option PV, fr = [some (.ref m), some (.ref lf), some (.ref fd), some (.int i), some (enc s), d]
section
variable {h : MH} {Q : PV → MH → Prop} {E : Exc → MH → Prop}
theorem first_sp {m : Nat} {rs0 : List Nat} {L : List (List Stp)} (e : lget h m = some (rs0.map PV.ref)) (s : Lsts h rs0 L) (hL : Ch L) (hb : total L ≤ 13) (hr : rs0.length ≤ 100) :
    (F__law_first [.ref m] h).sat (fun v h' => ∃ r T, v = .ref r ∧ h'[r]? = some (.lst (encs T)) ∧ Gr L T ∧ FL.Kept [] h h') noE := by
  refine sat__law_first ?_
  unfold c__law_first
  simp [w_lc, e]
  refine copies_sp e s (by omega) (fun r xs h1 hl => sat_lcStep rfl ?_) ?_
  · simp [wipeF]
    rw [v_list hl]
    exact ⟨rfl, rfl⟩
  intro h1 rs k1 g1 s1 nd fr
  have e1 := k1.lget e (by simp)
  have s01 := s.keep k1 (by simp)
  have hl1 := (List.getElem?_eq_some_iff.mp g1).1
  have k2 := (FL.Kept.refl [] h1).app [MO.lst []]
  have r2 := k1.trans k2
  have g2 := k2.at g1 (by simp)
  have s2 := s1.keep k2 (by simp)
  have e2 := k2.lget e1 (by simp)
  have s02 := s01.keep k2 (by simp)
  have f2 : (h1 ++ [MO.lst []])[h1.length]? = some (.lst (encs [])) := get_new
  generalize h1 ++ [MO.lst []] = h2 at k2 r2 g2 s2 e2 s02 f2 ⊢
  have hn2 : h.length ≤ h1.length := k1.len
  have rsl : ∀ r ∈ rs, r < h1.length := fun r hr => s1.lt hr
  have rlen : rs.length = L.length := s1.len
  have r0len : rs0.length = L.length := s.len
  generalize h1.length = fd at f2 hn2 rsl hl1 ⊢
  have ow : ∀ r ∈ rs, h.length ≤ r ∧ r ≠ h.length ∧ r ≠ fd := fun r hr => by
    have := fr r hr
    have := rsl r hr
    omega
  simp only [ws_for, w_rng1, w_blt, w_es, w_es0, w_lc, w_val, w_loc, List.getElem?_cons_zero, List.getElem?_cons_succ, itK_ref, e2, Option.isSome_some, true_and]
  refine lens_sp e2 s02 (by omega) (fun r xs h1 hl => sat_lcStep rfl ?_) ?_
  · simp [wipeF]
    rw [v_len_l hl]
    exact ⟨rfl, rfl⟩
  intro h3 k3 g3
  have r3 := r2.trans k3
  have g3l := k3.at g2 (by simp)
  have s3 := s2.keep k3 (by simp)
  have f3 := k3.at f2 (by simp)
  rw [v_sum (lget_lst g3)]
  have hsum : (L.map List.length).sum = total L := rfl
  refine ⟨okR_nat (by omega), ?_⟩
  rw [hsum]
  refine sat_forS (Fo m h.length fd rs L h) ⟨r3, g3l, L, [], s3, hL, by simp, fun T' z => z, rfl, f3, _, _, _, rfl⟩ ?_ ?_
  · rintro i x fr h4 hx ⟨r4, g4, L', T, s4, hL', ht, hp, hT, f4, a, b, d', rfl⟩
    obtain ⟨rfl, hi⟩ := nats_at hx
    refine ⟨_, rfl, ?_⟩
    have hne : total L' ≠ 0 := by simp at hi; omega
    have l4 := s4.len
    simp [w_lc, lget_lst g4]
    refine sat_lcP (S := []) (g := hdG h4) (fun n z => nomatch z) (at_lst (lget_lst g4) (by simp)) (fuel_lst (lget_lst g4)) (by simp; unfold big; omega) ?_ ?_
    · intro x hx h5 k5 _
      obtain ⟨r, hr, rfl⟩ := List.mem_map.mp hx
      obtain ⟨c, hc⟩ := s4.mem hr
      have hc5 := k5.at hc (by simp)
      refine sat_lcStep rfl ?_
      cases c with
      | nil => simp [wipeF, v_len_l (lget_lst hc5), encs, hdG, lget_lst hc, FL.Kept.refl]
      | cons y c => simp [wipeF, v_len_l (lget_lst hc5), encs, hdG, lget_lst hc, FL.Kept.refl, v_ix_l (lget_lst hc5)]
    intro h5 k5 g5
    rw [hd_map s4] at g5
    refine min_e (lget_lst g5) (heads_ne hne) fun x hx hmin => ?_
    have r5 := r4.trans k5
    have g45 := k5.at g4 (by simp)
    have f5 := k5.at f4 (by simp)
    have s5 := s4.keep k5 (by simp)
    have hfl := (List.getElem?_eq_some_iff.mp f5).1
    simp only [kind_l (lget_lst f5), ok_append, true_and]
    rw [v_append, wl_lst f5]
    refine ⟨by rw [encs_len]; unfold big; omega, ?_⟩
    have r6 : FL.Kept [] h (h5.set fd (.lst (encs T ++ [enc x]))) := r5.setNew (by omega) _
    have g6 : (h5.set fd (.lst (encs T ++ [enc x])))[h.length]? = some (.lst (rs.map PV.ref)) := by rw [List.getElem?_set_ne (by omega)]; exact g45
    have f6 : (h5.set fd (.lst (encs T ++ [enc x])))[fd]? = some (.lst (encs (T ++ [x]))) := by rw [get_set f5]; simp [encs]
    have s6 : Lsts (h5.set fd (.lst (encs T ++ [enc x]))) rs L' := s5.keep ((FL.Kept.refl [fd] _).setIn (by simp) _) fun q hq => by simpa using (ow q hq).2.2
    generalize h5.set fd (.lst (encs T ++ [enc x])) = h6 at r6 g6 f6 s6 ⊢
    rw [ws_for]
    simp only [w_val, w_loc, List.getElem?_cons_zero, List.getElem?_cons_succ, itK_ref, lget_lst g6, Option.isSome_some, true_and]
    refine sat_forL (lget_lst g6) (I := Fi m h.length fd rs L' (T ++ [x]) x i h) ⟨r6, g6, by simpa [advT] using s6, f6, _, rfl⟩ (fun j fr h7 q => lget_lst q.2.1) ?_ ?_
    · rintro j z fr h7 hz ⟨r7, g7, s7, f7, d, rfl⟩
      obtain ⟨r, er, rfl⟩ : ∃ r, rs[j]? = some r ∧ z = .ref r := by
        rw [List.getElem?_map] at hz
        cases q : rs[j]? with
        | none => rw [q] at hz; cases hz
        | some r => rw [q] at hz; cases hz; exact ⟨r, rfl, rfl⟩
      refine ⟨_, rfl, ?_⟩
      have hj := (List.getElem?_eq_some_iff.mp er).1
      have ec : L'[j]? = some (L'[j]'(by omega)) := List.getElem?_eq_getElem _
      generalize L'[j]'(by omega) = c at ec
      have ec2 : (advT x j L')[j]? = some c := by rw [advT_get, if_neg (by omega), ec]
      have hr7 := s7.get er ec2
      have hrm := List.mem_of_getElem? er
      have est := advT_step (s := x) ec
      have stay : adv1 x c = c → Lsts h7 rs (advT x (j + 1) L') := fun q => by rw [← est, q, set_same ec2]; exact s7
      cases c with
      | nil =>
        have := stay rfl
        simp [v_len_l (lget_lst hr7), encs]
        exact ⟨r7, g7, this, f7, _, rfl⟩
      | cons y c =>
        have hpos : (0 : Int) < (c.length : Int) + 1 := by omega
        by_cases hy : y = x
        · subst hy
          have hcc : c.length ≤ 13 := by
            have : c.length + 1 ≤ total L' := by
              have h1 : (y :: c).length ∈ L'.map List.length := List.mem_map_of_mem (List.mem_of_getElem? ec)
              exact le_sum h1
            omega
          have s8 := s7.set nd er c
          rw [show (advT y j L').set j c = advT y (j + 1) L' by rw [← est, adv1_hit]] at s8
          simp [v_len_l (lget_lst hr7), encs, v_ix_l (lget_lst hr7), hpos, kind_l (lget_lst hr7)]
          have hr7' : h7[r]? = some (.lst (enc y :: encs c)) := hr7
          rw [v_pop_0 hr7' (by rw [encs_len]; omega)]
          have hw := ow r hrm
          exact ⟨r7.setNew hw.1 _, by rw [List.getElem?_set_ne hw.2.1]; exact g7, s8, by rw [List.getElem?_set_ne hw.2.2]; exact f7, _, rfl⟩
        · have := stay (adv1_mis (by simpa using hy))
          simp [v_len_l (lget_lst hr7), encs, v_ix_l (lget_lst hr7), hpos, hy]
          exact ⟨r7, g7, this, f7, _, rfl⟩
    · rintro fr h7 ⟨r7, g7, s7, f7, d, rfl⟩
      rw [List.length_map, l4, advT_all] at s7
      have htot := adv_total hL' hx
      simp only [sqK_nx, ssat_nil, lpK_nx]
      refine ⟨r7, g7, adv L' x, T ++ [x], s7, hL'.adv x, by omega, ?_, by simp [hT], f7, _, _, _, rfl⟩
      intro T' hT'
      rw [List.append_assoc]
      exact hp _ (.cons hx hmin hT')
  · rintro fr h4 ⟨r4, g4, L', T, s4, hL', ht, hp, hT, f4, a, b, d', rfl⟩
    rw [nats_len] at ht
    have hz : total L' = 0 := by simp at ht; omega
    have := hp [] (.nil (total_0 hz))
    rw [List.append_nil] at this
    simp
    exact ⟨T, f4, this, r4⟩
end
end K48
namespace K48
open PySem FL PySem.W PyProof.Rows
/-- what a chain adds to the rank when s comes next -/
def hv (s : Stp) (g : Stp → Nat) : List Stp → Nat
  | y :: _ => if slt y s then g y else 0
  | [] => 0
theorem hv_sum {s : Stp} {g : Stp → Nat} : ∀ M : List (List Stp), (M.map (hv s g)).sum = (((heads M).filter fun y => slt y s).map g).sum
  | [] => rfl
  | c :: M => by
    have ih := hv_sum (s := s) (g := g) M
    rw [List.map_cons, List.sum_cons, ih]
    unfold heads
    cases c with
    | nil => rw [List.filterMap_cons]; simp [hv]
    | cons y c =>
      rw [List.filterMap_cons]
      simp only [hv, List.head?_cons, List.filter_cons]
      by_cases q : slt y s = true
      · simp [q]
      · simp [q]
/-- the places of the chains that begin with s -/
def seekP (s : Stp) (L : List (List Stp)) (k : Nat) : Bool := decide (((L[k]?).getD []).head? = some s)
theorem seekP_at {s : Stp} {L : List (List Stp)} {k : Nat} (h : seekP s L k = true) : ∃ c, L[k]? = some (s :: c) := by
  unfold seekP at h
  have h := of_decide_eq_true h
  cases q : L[k]? with
  | none => rw [q] at h; simp at h
  | some d =>
    rw [q] at h
    cases d with
    | nil => simp at h
    | cons y c => simp at h; subst h; exact ⟨c, rfl⟩
/-- the lengths when the chain at k goes on -/
theorem less_len {L : List (List Stp)} (hL : Ch L) {k : Nat} {y : Stp} {c : List Stp} (h : L[k]? = some (y :: c)) : (List.range L.length).map (fun j => ((L[j]?).getD []).length - if j = k then 1 else 0) = (adv L y).map List.length := by
  rw [adv_set hL h]
  refine List.ext_getElem? fun j => ?_
  have hk := (List.getElem?_eq_some_iff.mp h).1
  rw [List.getElem?_map, List.getElem?_map]
  by_cases hj : j < L.length
  · rw [List.getElem?_range hj, Option.map_some]
    by_cases e : j = k
    · subst e
      rw [List.getElem?_set_self hk, h]
      simp
    · rw [List.getElem?_set_ne (Ne.symm e), List.getElem?_eq_getElem hj]
      simp [e]
  · rw [List.getElem?_eq_none (by simp; omega), List.getElem?_eq_none (by simp; omega)]; rfl
def prt (L : List (List Stp)) (s : Stp) (j : Nat) : Nat := ((L.take j).map (hv s fun y => nW (adv L y))).sum
theorem prt_0 {L : List (List Stp)} {s : Stp} : prt L s 0 = 0 := by simp [prt]
theorem prt_succ {L : List (List Stp)} {s : Stp} {j : Nat} {c : List Stp} (h : L[j]? = some c) : prt L s (j + 1) = prt L s j + hv s (fun y => nW (adv L y)) c := by
  unfold prt
  rw [List.take_add_one, h, List.map_append, List.sum_append]; simp
theorem prt_all {L : List (List Stp)} {s : Stp} {T : List Stp} : rkL L (s :: T) = rkL (adv L s) T + prt L s L.length := by
  unfold prt
  rw [List.take_length, hv_sum]; rfl
def Ro (m mo lf : Nat) (rs : List Nat) (L : List (List Stp)) (T : List Stp) (h : MH) (i : Nat) (fr : Fr) (h4 : MH) : Prop := FL.Kept [] h h4 ∧ h4[lf]? = some (.lst (rs.map PV.ref)) ∧
  ∃ (L' : List (List Stp)) (acc : Nat), Lsts h4 rs L' ∧ Ch L' ∧ Wv L' (T.drop i) ∧ total L' ≤ 13 ∧ rkL L T = acc + rkL L' (T.drop i) ∧
  ∃ a b c d e : Option PV, fr = [some (.ref m), some (.ref mo), some (.ref lf), some (.int acc), a, b, c, d, e]
def Ri (m mo lf : Nat) (L' : List (List Stp)) (acc k : Nat) (s : Stp) (h : MH) (j : Nat) (fr : Fr) (h5 : MH) : Prop := FL.Kept [] h h5 ∧
  ∃ c d e : Option PV, fr = [some (.ref m), some (.ref mo), some (.ref lf), some (.int (acc + prt L' s j : Nat)), some (enc s), some (.int k), c, d, e]
section
variable {h : MH} {Q : PV → MH → Prop} {E : Exc → MH → Prop}
theorem rank_sp {m mo : Nat} {rs0 : List Nat} {L : List (List Stp)} {T : List Stp} (e : lget h m = some (rs0.map PV.ref)) (s : Lsts h rs0 L) (hL : Ch L) (hb : total L ≤ 13) (hr : rs0.length ≤ 100) (eo : lget h mo = some (encs T)) (hT : Wv L T) :
    (F__law_rank [.ref m, .ref mo] h).sat (fun v h' => v = .int (rkL L T : Nat) ∧ FL.Kept [] h h') noE := by
  refine sat__law_rank ?_
  unfold c__law_rank
  simp [w_lc, e]
  refine copies_sp e s (by omega) (fun r xs h1 hl => sat_lcStep rfl ?_) ?_
  · simp [wipeF]
    rw [v_list hl]
    exact ⟨rfl, rfl⟩
  intro h1 rs k1 g1 s1 nd fr
  have eo1 := k1.lget eo (by simp)
  have hl1 := (List.getElem?_eq_some_iff.mp g1).1
  have rlen : rs.length = L.length := s1.len
  have r0len : rs0.length = L.length := s.len
  have ow : ∀ r ∈ rs, h.length < r := fr
  have hmo := lget_lt eo
  simp only [ws_for, w_val, w_loc, List.getElem?_cons_zero, List.getElem?_cons_succ, itK_ref, eo1, Option.isSome_some, true_and]
  refine sat_forL eo1 (I := Ro m mo h.length rs L T h) ⟨k1, g1, L, 0, s1, hL, by simpa using hT, hb, by simp, _, _, _, _, _, rfl⟩ (fun i fr h4 q => q.1.lget eo (by simp)) ?_ ?_
  · rintro i x fr h4 hx ⟨r4, g4, L', acc, s4, hL', hW, ht, hrk, a, b, c, d, e', rfl⟩
    obtain ⟨st, est, rfl⟩ : ∃ st, T[i]? = some st ∧ x = enc st := by
      unfold encs at hx
      rw [List.getElem?_map] at hx
      cases q : T[i]? with
      | none => rw [q] at hx; cases hx
      | some r => rw [q] at hx; cases hx; exact ⟨r, rfl, rfl⟩
    have ed : T.drop i = st :: T.drop (i + 1) := by
      have hj := (List.getElem?_eq_some_iff.mp est).1
      rw [List.drop_eq_getElem_cons hj, (List.getElem?_eq_some_iff.mp est).2]
    rw [ed] at hW hrk
    have l4 := s4.len
    obtain ⟨hst, hW'⟩ : st ∈ heads L' ∧ Wv (adv L' st) (T.drop (i + 1)) := by
      cases hW with
      | cons h t => exact ⟨h, t⟩
    obtain ⟨cc, hcc⟩ := mem_heads.mp hst
    obtain ⟨k0, hk0⟩ := List.getElem?_of_mem hcc
    refine ⟨_, rfl, ?_⟩
    simp [w_lc, v_len_l (lget_lst g4)]
    refine ⟨okR_nat (by omega), ?_⟩
    rw [show (nats 0 rs.length) = nats 0 L'.length by rw [l4]]
    refine lc_idx (p := seekP st L') (by omega) ?_ ?_
    · intro k hk h5 k5
      refine sat_lcStep rfl ?_
      have e5 : L'[k]? = some L'[k] := List.getElem?_eq_getElem hk
      have s5 := s4.keep k5 (by simp)
      generalize L'[k] = ck at e5
      obtain ⟨r, hr, hl⟩ := s5.ix e5
      unfold seekP
      cases ck with
      | nil => simp [wipeF, v_ix_l (lget_lst (k5.at g4 (by simp))), atI_nat, hr, v_len_l (lget_lst hl), encs, e5]
      | cons y ck =>
        have hpos : (0 : Int) < (ck.length : Int) + 1 := by omega
        simp [wipeF, v_ix_l (lget_lst (k5.at g4 (by simp))), atI_nat, hr, v_len_l (lget_lst hl), encs, e5, hpos, v_ix_l (lget_lst hl)]
    intro h5 k5 g5
    have hk0m : k0 ∈ (List.range L'.length).filter (seekP st L') := List.mem_filter.mpr ⟨List.mem_range.mpr (List.getElem?_eq_some_iff.mp hk0).1, by unfold seekP; rw [hk0]; simp⟩
    obtain ⟨k, F, eF⟩ : ∃ k F, (List.range L'.length).filter (seekP st L') = k :: F := by
      cases q : (List.range L'.length).filter (seekP st L') with
      | nil => rw [q] at hk0m; simp at hk0m
      | cons k F => exact ⟨k, F, rfl⟩
    obtain ⟨ck, hck⟩ := seekP_at (List.mem_filter.mp (show k ∈ (List.range L'.length).filter (seekP st L') by rw [eF]; exact List.mem_cons_self ..)).2
    rw [eF] at g5
    rw [v_ix_l (lget_lst g5), atI_0, show (iL (k :: F))[0]? = some (.int (k : Nat)) from rfl, atK_some]
    have r5 := r4.trans k5
    have g45 := k5.at g4 (by simp)
    have s5 := s4.keep k5 (by simp)
    rw [ws_for]
    simp only [w_rng1, w_blt, w_es, w_es0, w_loc, List.getElem?_cons_zero, List.getElem?_cons_succ, v_len_l (lget_lst g45), List.length_map, l4]
    refine ⟨okR_nat (by omega), ?_⟩
    refine sat_forS (Ri m mo h.length L' acc k st h5) ⟨FL.Kept.refl _ _, c, d, e', by simp [prt_0]⟩ ?_ ?_
    · rintro j z fr h6 hz ⟨k6, c, d, e', rfl⟩
      obtain ⟨rfl, hj⟩ := nats_at hz
      refine ⟨_, rfl, ?_⟩
      have ej : L'[j]? = some (L'[j]'(by simpa using hj)) := List.getElem?_eq_getElem _
      generalize L'[j]'(by simpa using hj) = cj at ej
      have et : L'.take (j + 1) = L'.take j ++ [cj] := by rw [List.take_add_one, ej]; rfl
      have s6 := s5.keep k6 (by simp)
      obtain ⟨r, er, hr⟩ := s6.ix ej
      have g46 := k6.at g45 (by simp)
      have eps := prt_succ (s := st) ej
      cases cj with
      | nil =>
        simp [hv] at eps
        simp [v_ix_l (lget_lst g46), atI_nat, er, v_len_l (lget_lst hr), encs]
        exact ⟨k6, some (.int (j : Nat)), d, e', by rw [eps]; simp⟩
      | cons y cj =>
        have hpos : (0 : Int) < (cj.length : Int) + 1 := by omega
        simp [v_ix_l (lget_lst g46), atI_nat, er, v_len_l (lget_lst hr), encs, hpos, v_ix_l (lget_lst hr)]
        by_cases hy : slt y st = true
        · simp [hy, w_lc, v_len_l (lget_lst g46)]
          refine ⟨okR_nat (by omega), ?_⟩
          rw [show (nats 0 rs.length) = nats 0 L'.length by rw [l4]]
          refine lc_nat (f := fun q => ((L'[q]?).getD []).length - if q = j then 1 else 0) (by omega) ?_ ?_
          · intro q hq h7 k7
            refine sat_lcStep rfl ?_
            have eq : L'[q]? = some L'[q] := List.getElem?_eq_getElem hq
            generalize L'[q] = cq at eq
            have s7 := s6.keep k7 (by simp)
            obtain ⟨r', er', hr'⟩ := s7.ix eq
            simp [wipeF, v_ix_l (lget_lst (k7.at g46 (by simp))), atI_nat, er', v_len_l (lget_lst hr'), encs_len, eq]
            by_cases hqj : q = j
            · subst hqj
              rw [ej] at eq
              cases eq
              simp
            · have : ¬ ((q : Int) = (j : Int)) := by omega
              simp [hqj, this]
          · intro h7 k7 g7
            rw [less_len hL' ej] at g7
            have hty := adv_total hL' (head_at ej)
            have hsum : ((adv L' y).map List.length).sum = total (adv L' y) := rfl
            refine sat_to (ways_sp (lget_lst g7) (by omega)) ?_
            rintro _ _ ⟨rfl, rfl⟩
            simp
            refine ⟨k6.trans k7, some (.int (j : Nat)), d, e', ?_⟩
            simp [hv, hy, nW] at eps
            rw [eps]
            simp [Int.add_assoc]
        · simp [hv, hy] at eps
          simp [hy]
          exact ⟨k6, some (.int (j : Nat)), d, e', by rw [eps]; simp⟩
    · rintro fr h6 ⟨k6, c, d, e', rfl⟩
      rw [nats_len]
      have s6 := s5.keep k6 (by simp)
      have g46 := k6.at g45 (by simp)
      have r6 := r5.trans k6
      obtain ⟨r, er, hr⟩ := s6.ix hck
      have hrm := List.mem_of_getElem? er
      have hw := ow r hrm
      simp [v_ix_l (lget_lst g46), atI_nat, er, kind_l (lget_lst hr)]
      have hcc2 : ck.length ≤ 13 := by
        have : ck.length + 1 ≤ total L' := by
          have h1 : (st :: ck).length ∈ L'.map List.length := List.mem_map_of_mem (List.mem_of_getElem? hck)
          exact le_sum h1
        omega
      have hr' : h6[r]? = some (.lst (enc st :: encs ck)) := hr
      rw [v_pop_0 hr' (by rw [encs_len]; omega)]
      have s7 := s6.set nd er ck
      rw [← adv_set hL' hck] at s7
      have hty := adv_total hL' hst
      refine ⟨r6.setNew (by omega) _, by rw [List.getElem?_set_ne (by omega)]; exact g46, adv L' st, _, s7, hL'.adv st, hW', by omega, ?_, _, _, _, _, _, rfl⟩
      have e9 := prt_all (L := L') (s := st) (T := T.drop (i + 1))
      have e8 : prt L' st (Int.toNat (L'.length : Int)) = prt L' st L'.length := by rw [Int.toNat_natCast]
      omega
  · rintro fr h4 ⟨r4, g4, L', acc, s4, hL', hW, ht, hrk, a, b, c, d, e', rfl⟩
    rw [encs_len, List.drop_length] at hrk
    simp
    exact ⟨by rw [hrk]; simp [rkL], r4⟩
end
end K48
namespace K48
open PySem FL PySem.W PyProof.Rows
def ch3 (t g : Nm) : List Stp := [.addT t, .addC t t g, .addR t [t] [g]]
/-- the chains are the first one to three steps of a table's three -/
def Shp (us : List Nm) (g : Nm) (L : List (List Stp)) : Prop := ∀ (i : Nat) (c : List Stp), L[i]? = some c → ∃ t sz, us[i]? = some t ∧ c = (ch3 t g).take sz
theorem ch3_tight (t g : Nm) : tight (ch3 t g) := by
  unfold tight ch3
  simp [dep, tch, grp]
theorem ch3_apart {t s g : Nm} (h : t ≠ s) (h1 : g ≠ t) (h2 : g ≠ s) : apart (ch3 t g) (ch3 s g) := by
  intro x hx y hy
  simp [ch3] at hx hy
  rcases hx with rfl | rfl | rfl <;> rcases hy with rfl | rfl | rfl <;> simp [dep, tch, grp, h, h1, h2, Ne.symm h, Ne.symm h1, Ne.symm h2]
theorem Shp.chn {us : List Nm} {g : Nm} {L : List (List Stp)} (s : Shp us g L) (nd : us.Nodup) (hg : g ∉ us) : Ch L := by
  refine ⟨List.pairwise_iff_getElem.mpr fun i j hi hj hij => ?_, fun c hc => ?_⟩
  · obtain ⟨t1, s1, e1, f1⟩ := s i _ (List.getElem?_eq_getElem hi)
    obtain ⟨t2, s2, e2, f2⟩ := s j _ (List.getElem?_eq_getElem hj)
    rw [f1, f2]
    have ne : t1 ≠ t2 := fun z => by
      subst z
      have a1 := List.getElem?_eq_some_iff.mp e1
      have a2 := List.getElem?_eq_some_iff.mp e2
      have := (List.getElem_inj nd).mp (a1.2.trans a2.2.symm)
      omega
    have m1 : g ≠ t1 := fun z => hg (by rw [z]; exact List.mem_of_getElem? e1)
    have m2 : g ≠ t2 := fun z => hg (by rw [z]; exact List.mem_of_getElem? e2)
    exact fun x hx y hy => ch3_apart ne m1 m2 x (List.mem_of_mem_take hx) y (List.mem_of_mem_take hy)
  · obtain ⟨i, hi⟩ := List.getElem?_of_mem hc
    obtain ⟨t, sz, _, rfl⟩ := s i c hi
    exact (ch3_tight t g).sublist (List.take_sublist _ _)
theorem Shp.ok {us : List Nm} {g : Nm} {L : List (List Stp)} (s : Shp us g L) : ∀ c ∈ L, ∀ x ∈ c, okS x := fun c hc x hx => by
  obtain ⟨i, hi⟩ := List.getElem?_of_mem hc
  obtain ⟨t, sz, _, rfl⟩ := s i c hi
  have := List.mem_of_mem_take hx
  simp [ch3] at this
  rcases this with rfl | rfl | rfl <;> simp [okS]
theorem Shp.snoc {us : List Nm} {g : Nm} {L : List (List Stp)} (s : Shp us g L) {t : Nm} (e : us[L.length]? = some t) (sz : Nat) : Shp us g (L ++ [(ch3 t g).take sz]) := by
  intro i c hc
  by_cases hi : i < L.length
  · rw [List.getElem?_append_left hi] at hc
    exact s i c hc
  · have hl := (List.getElem?_eq_some_iff.mp hc).1
    have : i = L.length := by simp at hl; omega
    subst this
    rw [List.getElem?_append_right (Nat.le_refl _), Nat.sub_self] at hc
    simp at hc
    exact ⟨t, sz, e, hc.symm⟩
def Co (n c u cn : Nat) (us : List Nm) (g : Nm) (h : MH) (i : Nat) (fr : Fr) (h6 : MH) : Prop := Dr n c h h6 ∧ h6[u]? = some (.lst (us.map PV.str)) ∧
  ∃ (rs : List Nat) (L : List (List Stp)) (lf : Nat), h6[cn]? = some (.lst (rs.map PV.ref)) ∧ Lsts h6 rs L ∧ Shp us g L ∧ L.length ≤ 12 ∧ total L + lf ≤ 13 ∧ (∀ r ∈ rs, h.length ≤ r ∧ r ≠ u ∧ r ≠ cn) ∧
  ∃ x2 x6 x7 x8 x9 : Option PV, fr = [some (.ref n), some (.ref u), x2, some (.str g), some (.ref cn), some (.int lf), x6, x7, x8, x9]
section
variable {h : MH} {Q : PV → MH → Prop} {E : Exc → MH → Prop}
theorem chains_sp {n c : Nat} (d : Dk n c h) : (F__law_chains [.ref n] h).sat (fun v h' => ∃ r rs L, v = .ref r ∧ h'[r]? = some (.lst (rs.map PV.ref)) ∧ Lsts h' rs L ∧ Ch L ∧ total L ≤ 13 ∧ L.length ≤ 12 ∧ h.length ≤ r ∧ (∀ q ∈ rs, h.length ≤ q) ∧ (∀ c ∈ L, ∀ s ∈ c, okS s) ∧ Dr n c h h') noE := by
  have hlt := d.lt
  refine sat__law_chains ?_
  unfold c__law_chains
  simp [ws_for]
  refine ⟨okR_nat (n := 13) (by omega), ?_⟩
  refine sat_forS (fun i fr h4 => Ws n c h.length h i h4 ∧ ∃ b, fr = [some (.ref n), some (.ref h.length), b, none, none, none, none, none, none, none]) ⟨⟨(Dr.refl d).app _, [], rfl, by simp, get_new⟩, none, rfl⟩ ?_ ?_
  · rintro i x fr h4 hx ⟨W, b, rfl⟩
    obtain ⟨rfl, hi⟩ := nats_at hx
    refine ⟨_, rfl, ?_⟩
    obtain ⟨r, us, hl', hd, g⟩ := id W
    simp [kind_l (lget_lst g), -v_append]
    refine more_sp ⟨by omega, by omega, Nat.le_refl _⟩ (by omega) W fun h' W' => ?_
    exact W'
  · rintro fr h4 ⟨⟨r4, us0, lt, nd0, gt⟩, b, rfl⟩
    rw [nats_len] at lt
    rcases List.eq_nil_or_concat us0 with rfl | ⟨us, g, est⟩
    · simp at lt
    rw [List.concat_eq_append] at est; subst est
    have hus : us.length = 12 := by simpa using lt
    rw [List.nodup_append] at nd0
    have nd := nd0.1
    have hg : g ∉ us := fun z => nd0.2.2 g z g (by simp) rfl
    have hu := (List.getElem?_eq_some_iff.mp gt).1
    rw [List.map_append] at gt
    simp [kind_l (lget_lst gt)]
    rw [v_pop0 gt]
    have r5 : Dr n c h (h4.set h.length (.lst (us.map PV.str))) := ⟨r4.k.setNew (Nat.le_refl _) _, r4.d.set _ (by omega) (by omega)⟩
    have g5 : (h4.set h.length (.lst (us.map PV.str)))[h.length]? = some (.lst (us.map PV.str)) := get_set gt
    generalize h4.set h.length (.lst (us.map PV.str)) = h5 at r5 g5 ⊢
    have r6 := r5.app [MO.lst []]
    have k6 := (FL.Kept.refl [] h5).app [MO.lst []]
    have g6 := k6.at g5 (by simp)
    have c6 : (h5 ++ [MO.lst []])[h5.length]? = some (.lst (([] : List Nat).map PV.ref)) := get_new
    have hl5 := (List.getElem?_eq_some_iff.mp g5).1
    generalize h5 ++ [MO.lst []] = h6 at r6 k6 g6 c6 ⊢
    generalize h5.length = cr at c6 hl5 ⊢
    refine sat_to (draw_sp r6.d (by omega)) ?_
    rintro _ h7 ⟨d13, rfl, h13, r7⟩
    have g7 := r7.k.at g6 (by simp; omega)
    have c7 := r7.k.at c6 (by simp; omega)
    have k8 := (FL.Kept.refl [] h7).app [MO.lst [PV.int 12, .int 12, .int 13, .int d13]]
    have r8 := (r6.trans r7).keep k8
    have g8 := k8.at g7 (by simp)
    have c8 := k8.at c7 (by simp)
    have l8 : (h7 ++ [MO.lst [PV.int 12, .int 12, .int 13, .int d13]])[h7.length]? = some (.lst [PV.int 12, .int 12, .int 13, .int d13]) := get_new
    have hl7 := r7.d.lt
    generalize h7 ++ [MO.lst [PV.int 12, PV.int 12, PV.int 13, PV.int d13]] = h8 at k8 r8 g8 c8 l8 ⊢
    refine sat_to (draw_sp r8.d (by omega)) ?_
    rintro _ h9 ⟨d4, rfl, h4', r9⟩
    have g9 := r9.k.at g8 (by simp; omega)
    have c9 := r9.k.at c8 (by simp; omega)
    have l9 := r9.k.at l8 (by simp; omega)
    have ra := r8.trans r9
    obtain ⟨lf, el, hlf⟩ : ∃ lf : Nat, L2.atI [PV.int 12, .int 12, .int 13, .int d13] (d4 : Int) = some (.int (lf : Int)) ∧ lf ≤ 13 := by
      rw [atI_nat]
      match d4, (show d4 < 4 by omega) with
      | 0, _ => exact ⟨12, rfl, by omega⟩
      | 1, _ => exact ⟨12, rfl, by omega⟩
      | 2, _ => exact ⟨13, rfl, by omega⟩
      | 3, _ => exact ⟨d13, rfl, by omega⟩
    rw [v_ix_l (lget_lst l9), el, atK_some]
    refine ⟨okR_nat (n := 13) (by omega), ?_⟩
    refine sat_forS (Co n c h.length cr us g h) ⟨ra, g9, [], [], lf, c9, by simp [Lsts], fun i c z => by simp at z, by simp, by simp [total]; omega, (fun r z => by simp at z), _, _, _, _, _, rfl⟩ ?_ ?_
    · rintro i x fr h10 hx ⟨r10, g10, rs, L, lf, c10, s10, shp, hL, ht, hrs, x2, x6, x7, x8, x9, rfl⟩
      obtain ⟨rfl, hi⟩ := nats_at hx
      refine ⟨_, rfl, ?_⟩
      simp
      refine sat_to (draw_sp r10.d (by omega)) ?_
      rintro _ h11 ⟨d3, rfl, h3', r11⟩
      obtain ⟨sz, esz, hsz⟩ : ∃ sz : Nat, (if 1 + (d3 : Int) < (lf : Int) then 1 + (d3 : Int) else (lf : Int)) = (sz : Int) ∧ sz ≤ lf ∧ (0 < lf → 0 < sz) := by
        by_cases q : 1 + d3 < lf
        · exact ⟨1 + d3, by rw [if_pos (by omega)]; simp, by omega, by omega⟩
        · exact ⟨lf, by rw [if_neg (by omega)], by omega, by omega⟩
      simp [esz]
      have g11 := r11.k.at g10 (by simp; omega)
      have c11 := r11.k.at c10 (by simp; omega)
      have rb := r10.trans r11
      have s11 := s10.keep r11.k (fun r hr => by have := hrs r hr; simp; omega)
      have llen := s10.len
      have stay : Co n c h.length cr us g h (i + 1) [some (.ref n), some (.ref h.length), x2, some (.str g), some (.ref cr), some (.int lf), some (.int i), some (.int sz), x8, x9] h11 := ⟨rb, g11, rs, L, lf, c11, s11, shp, hL, ht, hrs, _, _, _, _, _, rfl⟩
      by_cases h0 : 0 < lf
      · by_cases h12 : L.length < 12
        · have e12 : (rs.length : Int) < 12 := by omega
          have et : us[L.length]? = some (us[L.length]'(by omega)) := List.getElem?_eq_getElem _
          generalize us[L.length]'(by omega) = t at et
          simp [h0, v_len_l (lget_lst c11), e12, v_ix_l (lget_lst g11), atI_nat, llen, et, kind_l (lget_lst c11)]
          rw [if_pos (by omega)]
          have r12 := (rb.app [MO.lst (encs (ch3 t g))]).app [MO.lst (encs ((ch3 t g).take sz))]
          have k12 := ((FL.Kept.refl [] h11).app [MO.lst (encs (ch3 t g))]).app [MO.lst (encs ((ch3 t g).take sz))]
          have g12 := k12.at g11 (by simp)
          have c12 := k12.at c11 (by simp)
          have s12 := s11.keep k12 (by simp)
          have n12 : (h11 ++ [MO.lst (encs (ch3 t g))] ++ [MO.lst (encs ((ch3 t g).take sz))])[(h11 ++ [MO.lst (encs (ch3 t g))]).length]? = some (.lst (encs ((ch3 t g).take sz))) := get_new
          have cut : cutP (encs (ch3 t g)) none (some (sz : Int)) = encs ((ch3 t g).take sz) := by
            unfold cutP
            rw [HT.sIx_none, HT.sIx_nat]
            unfold encs
            rw [List.drop_zero, Nat.sub_zero, ← List.take_eq_take_min, List.map_take]
          have ez : (slcM (.ref h11.length) none (some (sz : Int)) (h11 ++ [MO.lst (encs (ch3 t g))])).sat (fun x h1 => atK (fun xs => xs.length < big ∧ Co n c h.length cr us g h (i + 1) [some (.ref n), some (.ref h.length), x2, some (.str g), some (.ref cr), some (.int ((lf : Int) - sz)), some (.int i), some (.int sz), some (.str t), some (.tup [.str ['a', 'd', 'd', 'r', 'u', 'l', 'e'], .str t, .tup [.str t], .tup [.str g]])] (h1.set cr (.lst (xs ++ [x])))) (wl h1 cr)) noE := by
            rw [slc_l (lget_lst get_new), cut]
            have hcr := (List.getElem?_eq_some_iff.mp c11).1
            have lnew : h.length ≤ (h11 ++ [MO.lst (encs (ch3 t g))]).length ∧ (h11 ++ [MO.lst (encs (ch3 t g))]).length ≠ h.length ∧ (h11 ++ [MO.lst (encs (ch3 t g))]).length ≠ cr := by
              have := (List.getElem?_eq_some_iff.mp g11).1
              simp; omega
            generalize (h11 ++ [MO.lst (encs (ch3 t g))]).length = nw at n12 lnew ⊢
            generalize h11 ++ [MO.lst (encs (ch3 t g))] ++ [MO.lst (encs ((ch3 t g).take sz))] = h12 at r12 k12 g12 c12 s12 n12 ⊢
            rw [wl_lst c12, atK_some]
            have s13 := s12.snoc n12
            have hsub : sz ≤ lf := hsz.1
            have hts : ((ch3 t g).take sz).length ≤ sz := by rw [List.length_take]; omega
            have e7 : (lf : Int) - sz = ((lf - sz : Nat) : Int) := by omega
            rw [e7]
            refine ⟨by simp; unfold big; omega, ⟨r12.k.setNew (by omega) _, r12.d.set _ (by omega) (by omega)⟩, by rw [List.getElem?_set_ne (by omega)]; exact g12, rs ++ [nw], L ++ [(ch3 t g).take sz], lf - sz, ?_, ?_, shp.snoc et sz, by simp; omega, ?_, ?_, _, _, _, _, _, rfl⟩
            · rw [get_set c12]; simp
            · refine s13.keep ((FL.Kept.refl [cr] _).setIn (by simp) _) fun q hq => ?_
              rcases List.mem_append.mp hq with z | z
              · have := hrs q z; simp; omega
              · simp at z; subst z; simp; omega
            · unfold total at ht ⊢
              rw [List.map_append, List.sum_append]
              simp at hts ⊢
              omega
            · intro q hq
              rcases List.mem_append.mp hq with z | z
              · exact hrs q z
              · simp at z; subst z; exact lnew
          exact ez
        · have e12 : ¬ (rs.length : Int) < 12 := by omega
          simp [h0, v_len_l (lget_lst c11), e12]
          exact stay
      · simp [h0]
        exact stay
    · rintro fr h10 ⟨r10, g10, rs, L, lf, c10, s10, shp, hL, ht, hrs, x2, x6, x7, x8, x9, rfl⟩
      simp
      exact ⟨rs, c10, L, s10, shp.chn nd hg, by omega, hL, by omega, fun q hq => (hrs q hq).1, shp.ok, r10⟩
end
end K48
namespace K48
open PySem FL PySem.W PyProof.Rows
section
variable {h : MH} {Q : PV → MH → Prop} {E : Exc → MH → Prop}
theorem snaps_encs {m : Nat} (l : List Stp) : mapO (snap h (m + 2)) (encs l) = some (l.map dat) := mapO_map fun s _ => snap_enc
theorem snap_cnt {m k : Nat} : snap h (m + 1) (cntT k) = some (.tuple [.str (S ['c', 'o', 'u', 'n', 't']), .int k]) := by
  unfold cntT; rw [snap_tup]; simp [mapO_c]
theorem snap_num {m k : Nat} : snap h (m + 1) (numT k) = some (.tuple [.str (S ['n', 'u', 'm', 'b', 'e', 'r']), .int k]) := by
  unfold numT; rw [snap_tup]; simp [mapO_c]
theorem snap_not {m : Nat} : snap h (m + 1) notT = some (.tuple [.str (S ['N', 'o', 't', 'A', 'n', 'O', 'r', 'd', 'e', 'r'])]) := by
  unfold notT; rw [snap_tup]; simp [mapO_c]
theorem snap_lst {m r : Nat} {l : List Stp} (g : lget h r = some (encs l)) : snap h (m + 3) (.ref r) = some (.list (l.map dat)) := by
  show (match lget h r with | some xs => (mapO (snap h (m + 2)) xs).map PyData.list | none => none) = _
  rw [g]; dsimp only; rw [snaps_encs]; rfl
theorem snap_ord {m r : Nat} {l : List Stp} (g : lget h r = some (encs l)) : snap h (m + 4) (ordT r) = some (.tuple [.str (S ['o', 'r', 'd', 'e', 'r']), .list (l.map dat)]) := by
  unfold ordT; rw [snap_tup]; simp [mapO_c, snap_lst g]
theorem dsz_dps (p : List Nm) : dsz (dps p) = 1 + p.length := by
  unfold dps
  rw [dsz, dszs_eq]
  induction p with
  | nil => rfl
  | cons a p ih => simp only [List.map_cons, List.sum_cons, List.length_cons, dsz] at ih ⊢; omega
theorem dsz_dat {s : Stp} (o : okS s) : dsz (dat s) ≤ 300 := by
  cases s <;> simp [dat, dsz, dszs, dsz_dps]
  · simp [okS] at o; omega
  · simp [okS] at o; omega
theorem dszs_dat : ∀ {l : List Stp}, (∀ s ∈ l, okS s) → dszs (l.map dat) ≤ 300 * l.length
  | [], _ => by simp [dszs]
  | s :: l, o => by
    have h1 := dsz_dat (o s (List.mem_cons_self ..))
    have h2 := dszs_dat fun t ht => o t (List.mem_cons_of_mem _ ht)
    rw [List.map_cons, dszs, List.length_cons]; omega
theorem same_cnt {k : Nat} {x y : PV} (hx : x = cntT k) (hy : y = cntT k) (q : ∀ h', FL.Kept [] h h' → Q (.bl true) h') : (F__law_same [x, y] h).sat Q E := by
  subst hx; subst hy
  refine sat_to (same_sp ⟨⟨_, snap_cnt (m := 0)⟩, _, snap_cnt (m := 0)⟩ (by simp [dsz, dszs])) ?_
  rintro _ h1 ⟨rfl, k1⟩
  exact q h1 k1
theorem same_num {k : Nat} {x y : PV} (hx : x = numT k) (hy : y = numT k) (q : ∀ h', FL.Kept [] h h' → Q (.bl true) h') : (F__law_same [x, y] h).sat Q E := by
  subst hx; subst hy
  refine sat_to (same_sp ⟨⟨_, snap_num (m := 0)⟩, _, snap_num (m := 0)⟩ (by simp [dsz, dszs])) ?_
  rintro _ h1 ⟨rfl, k1⟩
  exact q h1 k1
theorem same_not {x y : PV} (hx : x = notT) (hy : y = notT) (q : ∀ h', FL.Kept [] h h' → Q (.bl true) h') : (F__law_same [x, y] h).sat Q E := by
  subst hx; subst hy
  refine sat_to (same_sp ⟨⟨_, snap_not (m := 0)⟩, _, snap_not (m := 0)⟩ (by simp [dsz, dszs])) ?_
  rintro _ h1 ⟨rfl, k1⟩
  exact q h1 k1
theorem same_ord {x y : PV} {r s : Nat} {l : List Stp} (hx : x = ordT r) (hy : y = ordT s) (g1 : lget h r = some (encs l)) (g2 : lget h s = some (encs l)) (ol : ∀ s ∈ l, okS s) (hl : l.length ≤ 100) (q : ∀ h', FL.Kept [] h h' → Q (.bl true) h') : (F__law_same [x, y] h).sat Q E := by
  subst hx; subst hy
  have := dszs_dat ol
  refine sat_to (same_sp ⟨⟨_, snap_ord (m := 0) g1⟩, _, snap_ord (m := 0) g2⟩ (by simp [dsz, dszs]; omega)) ?_
  rintro _ h1 ⟨rfl, k1⟩
  exact q h1 k1
/-- flat values -/
def flatP : PV → Prop
  | .int _ => True
  | .bl _ => True
  | .non => True
  | .str _ => True
  | _ => False
theorem same_bad {x y z : PV} (hz : flatP z) (hx : x = badT z) (hy : y = badT z) (q : ∀ h', FL.Kept [] h h' → Q (.bl true) h') : (F__law_same [x, y] h).sat Q E := by
  subst hx; subst hy
  have key : ∃ d, snap h 1 (badT z) = some d ∧ dsz d < 190000 := by
    unfold badT
    cases z with
    | int i => exact ⟨.tuple [.str (S ['B', 'a', 'd', 'N', 'u', 'm', 'b', 'e', 'r']), .int i], by rw [snap_tup]; simp [mapO_c], by simp [dsz, dszs]⟩
    | bl i => exact ⟨.tuple [.str (S ['B', 'a', 'd', 'N', 'u', 'm', 'b', 'e', 'r']), .bool i], by rw [snap_tup]; simp [mapO_c], by simp [dsz, dszs]⟩
    | non => exact ⟨.tuple [.str (S ['B', 'a', 'd', 'N', 'u', 'm', 'b', 'e', 'r']), .none], by rw [snap_tup]; simp [mapO_c], by simp [dsz, dszs]⟩
    | str i => exact ⟨.tuple [.str (S ['B', 'a', 'd', 'N', 'u', 'm', 'b', 'e', 'r']), .str (S i)], by rw [snap_tup]; simp [mapO_c], by simp [dsz, dszs]⟩
    | _ => exact hz.elim
  obtain ⟨d, e, hd⟩ := key
  refine sat_to (same_sp ⟨⟨_, e⟩, _, e⟩ hd) ?_
  rintro _ h1 ⟨rfl, k1⟩
  exact q h1 k1
theorem itl_encs (l : List Stp) : ItL (encs l) (l.map some) := ⟨by simp [encs], fun i x hx => by
  unfold encs at hx
  rw [List.getElem?_map] at hx ⊢
  cases q : l[i]? with
  | none => rw [q] at hx; cases hx
  | some s => rw [q] at hx; cases hx; exact ⟨some s, rfl, itm_e s⟩⟩
theorem wv_ok {L : List (List Stp)} {T : List Stp} (hw : Wv L T) (o : ∀ c ∈ L, ∀ s ∈ c, okS s) : ∀ s ∈ T, okS s := fun s hs => by
  obtain ⟨c, hc, hx⟩ := wv_mem hw hs
  exact o c hc s hx
theorem large_sp {n c : Nat} (d : Dk n c h) : (F__law_large [.ref n] h).sat (fun v h' => v = .bl true) noE := by
  have hlt := d.lt
  refine sat__law_large ?_
  unfold c__law_large
  simp
  refine sat_to (chains_sp d) ?_
  rintro _ h1 ⟨cr, rs, L, rfl, g1, s1, hL, ht, hL12, hcr, hrs, oL, r1⟩
  have llen := s1.len
  refine sat_to (woven_sp r1.d (lget_lst g1) s1 hL ht (by omega)) ?_
  rintro _ h2 ⟨sr, w, rfl, g2, hsr, hw, r2⟩
  have hcl := (List.getElem?_eq_some_iff.mp g1).1
  have ow := wv_ok hw oL
  have hn1 : ∀ q ∈ rs, q ≠ n := fun q hq z => by have := hrs q hq; omega
  have c2 := r2.k.at g1 (by simp; omega)
  have s2 := s1.keep r2.k (fun q hq => by simpa using hn1 q hq)
  have wlen := wv_total hL hw
  simp [v_len_l (lget_lst g2), encs_len]
  by_cases hbig : (12 : Int) < (w.length : Int)
  · rw [if_pos hbig]
    refine sat_to (refused_sp (lget_lst g2) (by rw [encs_len]; omega)) ?_
    rintro _ h3 ⟨rfl, _⟩
    rfl
  rw [if_neg hbig]
  have hw12 : w.length ≤ 12 := by omega
  simp [w_lc, lget_lst c2]
  refine lens_sp (lget_lst c2) s2 (by omega) (fun r xs h1 hl => sat_lcStep rfl ?_) ?_
  · simp [wipeF]
    rw [v_len_l hl]
    exact ⟨rfl, rfl⟩
  intro h3 k3 g3
  have hsum : (L.map List.length).sum = total L := rfl
  refine sat_to (ways_sp (lget_lst g3) (by omega)) ?_
  rintro _ _ ⟨rfl, rfl⟩
  rename_i h3
  have r3 := r2.keep k3
  have g3s := k3.at g2 (by simp)
  have c3 := k3.at c2 (by simp)
  have s3 := s2.keep k3 (by simp)
  have ecn : cn w 0 = mult 0 (L.map List.length) := by
    unfold cn; rw [U_0, wv_cnt hL hw]; rfl
  refine sat_to (counted_sp hw12 (lget_lst g3s)) ?_
  rintro _ h4 ⟨rfl, k4⟩
  rw [ecn]
  refine same_cnt rfl rfl fun h5 k5 => ?_
  refine ⟨rfl, ?_⟩
  have k45 := k4.trans k5
  have r5 := r3.keep k45
  have g5 := k45.at g3s (by simp)
  have c5 := k45.at c3 (by simp)
  have s5 := s3.keep k45 (by simp)
  have e0 : ∃ T0, (ords w (List.range w.length))[0]? = some T0 := by
    have h0 : 0 < (ords w (List.range w.length)).length := by
      have := wv_cnt hL hw
      have h2 := nW_fac L
      have h3 := fac_pos (total L)
      show 0 < cnt w _
      rw [this]
      rcases Nat.eq_zero_or_pos (nW L) with z | z
      · rw [z, Nat.zero_mul] at h2; omega
      · exact z
    exact ⟨_, List.getElem?_eq_getElem h0⟩
  obtain ⟨T0, eT0⟩ := e0
  refine sat_to (least_tp hw12 (lget_lst g5) eT0) ?_
  rintro _ h6 ⟨ro, rfl, k6, g6o⟩
  have r6 := r5.keep k6
  have g6 := k6.at g5 (by simp)
  have c6 := k6.at c5 (by simp)
  have s6 := s5.keep k6 (by simp)
  refine sat_to (first_sp (lget_lst c6) s6 hL ht (by omega)) ?_
  rintro _ h7 ⟨rf, G, rfl, g7f, hG, k7⟩
  have eG := wv_get hL hw hG.wv
  rw [hG.rk0, eT0] at eG
  cases eG
  have g7o := k7.at g6o (by simp)
  refine same_ord rfl rfl (lget_lst g7o) (lget_lst g7f) (wv_ok hG.wv oL) (by rw [wv_total hL hG.wv]; omega) fun h8 k8 => ?_
  refine ⟨rfl, ?_⟩
  have k78 := k7.trans k8
  have r8 := r6.keep k78
  have g8 := k78.at g6 (by simp)
  have c8 := k78.at c6 (by simp)
  have s8 := s6.keep k78 (by simp)
  refine sat_to (woven_sp r8.d (lget_lst c8) s8 hL ht (by omega)) ?_
  rintro _ h9 ⟨r9o, V, rfl, g9o, hr9, hV, r9⟩
  have hcl8 := (List.getElem?_eq_some_iff.mp c8).1
  have hsl8 := (List.getElem?_eq_some_iff.mp g8).1
  have g9 := r9.k.at g8 (by simp; omega)
  have c9 := r9.k.at c8 (by simp; omega)
  have s9 := s8.keep r9.k (fun q hq => by simpa using hn1 q hq)
  refine sat_to (rank_sp (lget_lst c9) s9 hL ht (by omega) (lget_lst g9o) hV) ?_
  rintro _ h10 ⟨rfl, k10⟩
  have g10 := k10.at g9 (by simp)
  have g10o := k10.at g9o (by simp)
  have Vlen := wv_total hL hV
  refine sat_to (number_tp hw12 (lget_lst g10) (lget_lst g10o) (itl_encs V)) ?_
  rintro _ h11 ⟨rfl, k11⟩
  have ern : rnk w (V.map some) = some (rkL L V) := by
    unfold rnk
    rw [if_pos (by rw [List.length_map]; omega), wv_rnk hL hw hV]
  rw [ern]
  refine same_num rfl rfl fun h12 k12 => ?_
  refine ⟨rfl, ?_⟩
  have k12' := k11.trans k12
  have g12 := k12'.at g10 (by simp)
  have g12o := k12'.at g10o (by simp)
  refine sat_to (at_tp hw12 (lget_lst g12) (wv_get hL hw hV)) ?_
  rintro _ h13 ⟨rq, rfl, k13, g13q⟩
  have g13 := k13.at g12 (by simp)
  have g13o := k13.at g12o (by simp)
  refine same_ord rfl rfl (lget_lst g13q) (lget_lst g13o) (wv_ok hV oL) (by omega) fun h14 k14 => ?_
  refine ⟨rfl, ?_⟩
  have g14 := k14.at g13 (by simp)
  refine sat_to (at_tn hw12 (lget_lst g14) (x := .int (mult 0 (L.map List.length) : Nat)) ?_) ?_
  · show ¬ _
    rw [ecn]; omega
  rintro _ h15 ⟨rfl, k15⟩
  exact same_bad (z := .int (mult 0 (L.map List.length) : Nat)) trivial rfl rfl fun _ _ => rfl
end
end K48
namespace K48
open PySem FL PySem.W PyProof.Rows
theorem erase_map {α β : Type} (f : α → β) : ∀ (l : List α) (k : Nat), (l.map f).eraseIdx k = (l.eraseIdx k).map f
  | [], k => by simp
  | a :: l, 0 => by simp
  | a :: l, k + 1 => by simp [erase_map f l k]
theorem cut_take {α : Type} (l : List α) (k : Nat) : cutP l none (some (k : Int)) = l.take k := by
  unfold cutP
  rw [HT.sIx_none, HT.sIx_nat, List.drop_zero, Nat.sub_zero, ← List.take_eq_take_min]
theorem cut_drop {α : Type} (l : List α) (k : Nat) : cutP l (some (k : Int)) none = l.drop k := by
  unfold cutP
  rw [HT.sIx_none, HT.sIx_nat]
  by_cases hk : k ≤ l.length
  · rw [Nat.min_eq_left hk, List.take_of_length_le (by rw [List.length_drop]; omega)]
  · rw [Nat.min_eq_right (by omega), List.drop_of_length_le (by omega), List.drop_of_length_le (by omega)]; simp
theorem encs_app (a b : List Stp) : encs (a ++ b) = encs a ++ encs b := by simp [encs]
def Mx (n c s fd : Nat) (w : List Stp) (h : MH) (i : Nat) (fr : Fr) (h4 : MH) : Prop := Dr n c h h4 ∧ ∃ (w1 w2 : List Stp), h4[s]? = some (.lst (encs w1)) ∧ h4[fd]? = some (.lst (encs w2)) ∧ w1.length + i = w.length ∧ w2.length = i ∧ (∀ x ∈ w1, x ∈ w) ∧ (∀ x ∈ w2, x ∈ w) ∧
  ∃ b : Option PV, fr = [some (.ref n), some (.ref s), some (.ref fd), b]
section
variable {h : MH} {Q : PV → MH → Prop} {E : Exc → MH → Prop}
theorem mixed_sp {n c m : Nat} {w : List Stp} (d : Dk n c h) (e : lget h m = some (encs w)) (hw : w.length ≤ 100) :
    (F__law_mixed [.ref n, .ref m] h).sat (fun v h' => ∃ r w', v = .ref r ∧ h'[r]? = some (.lst (encs w')) ∧ h.length ≤ r ∧ w'.length = w.length ∧ (∀ x ∈ w', x ∈ w) ∧ Dr n c h h') noE := by
  have hlt := d.lt
  refine sat__law_mixed ?_
  unfold c__law_mixed
  simp [ws_for]
  rw [v_list e]
  have k1 := ((FL.Kept.refl [] h).app [MO.lst (encs w)]).app [MO.lst []]
  have r1 := ((Dr.refl d).app [MO.lst (encs w)]).app [MO.lst []]
  have g1 : (h ++ [MO.lst (encs w)] ++ [MO.lst []])[h.length]? = some (.lst (encs w)) := ((FL.Kept.refl [] _).app _).at get_new (by simp)
  have f1 : (h ++ [MO.lst (encs w)] ++ [MO.lst []])[(h ++ [MO.lst (encs w)]).length]? = some (.lst (encs [])) := get_new
  have hfd : (h ++ [MO.lst (encs w)]).length = h.length + 1 := by simp
  rw [hfd] at f1
  simp
  rw [show h ++ [MO.lst (encs w), MO.lst []] = h ++ [MO.lst (encs w)] ++ [MO.lst []] by simp]
  generalize h ++ [MO.lst (encs w)] ++ [MO.lst []] = h1 at k1 r1 g1 f1 ⊢
  rw [v_len_l (lget_lst g1), encs_len]
  refine ⟨okR_nat (by omega), ?_⟩
  refine sat_forS (Mx n c h.length (h.length + 1) w h) ⟨r1, w, [], g1, f1, by simp, rfl, fun _ z => z, (fun _ z => by simp at z), _, rfl⟩ ?_ ?_
  · rintro i x fr h4 hx ⟨r4, w1, w2, g4, f4, l1, l2, m1, m2, b, rfl⟩
    obtain ⟨rfl, hi⟩ := nats_at hx
    refine ⟨_, rfl, ?_⟩
    have hi' : i < w.length := by simpa using hi
    simp [kind_l (lget_lst g4), kind_l (lget_lst f4), v_len_l (lget_lst g4), encs_len, -v_append]
    refine sat_to (draw_sp r4.d (by omega)) ?_
    rintro _ h5 ⟨k, rfl, hk, r5⟩
    have g5 := r5.k.at g4 (by simp; omega)
    have f5 := r5.k.at f4 (by simp; omega)
    have ek : w1[k]? = some (w1[k]'(by omega)) := List.getElem?_eq_getElem _
    generalize w1[k]'(by omega) = y at ek
    have ek2 : (encs w1)[k]? = some (enc y) := by unfold encs; rw [List.getElem?_map, ek]; rfl
    rw [v_popI g5 ek2 (by rw [encs_len]; omega)]
    have e6 : (encs w1).eraseIdx k = encs (w1.eraseIdx k) := erase_map _ _ _
    rw [e6]
    have hl5 := (List.getElem?_eq_some_iff.mp g5).1
    have r6 : Dr n c h (h5.set h.length (.lst (encs (w1.eraseIdx k)))) := ⟨(r4.trans r5).k.setNew (Nat.le_refl _) _, (r4.trans r5).d.set _ (by omega) (by omega)⟩
    have g6 : (h5.set h.length (.lst (encs (w1.eraseIdx k))))[h.length]? = some (.lst (encs (w1.eraseIdx k))) := get_set g5
    have f6 : (h5.set h.length (.lst (encs (w1.eraseIdx k))))[h.length + 1]? = some (.lst (encs w2)) := by rw [List.getElem?_set_ne (by omega)]; exact f5
    generalize h5.set h.length (.lst (encs (w1.eraseIdx k))) = h6 at r6 g6 f6 ⊢
    rw [v_append, wl_lst f6]
    have hkl := (List.getElem?_eq_some_iff.mp ek).1
    refine ⟨by rw [encs_len]; unfold big; omega, ⟨r6.k.setNew (by omega) _, r6.d.set _ (by omega) (by omega)⟩, w1.eraseIdx k, w2 ++ [y], ?_, ?_, ?_, by simp [l2], ?_, ?_, _, rfl⟩
    · rw [List.getElem?_set_ne (by omega)]; exact g6
    · rw [get_set f6]; simp [encs]
    · rw [List.length_eraseIdx, if_pos hkl]; omega
    · exact fun x hx => m1 x (List.mem_of_mem_eraseIdx hx)
    · intro x hx
      rcases List.mem_append.mp hx with z | z
      · exact m2 x z
      · simp at z; subst z; exact m1 x (List.mem_of_getElem? ek)
  · rintro fr h4 ⟨r4, w1, w2, g4, f4, l1, l2, m1, m2, b, rfl⟩
    rw [nats_len] at l2
    simp
    exact ⟨w2, f4, by simpa using l2, m2, r4⟩
/-! ### all orders, found by swaps -/
theorem swapped_sp {m k : Nat} {w u v : List Stp} {x y : Stp} (e : lget h m = some (encs w)) (ew : w = u ++ x :: y :: v) (hk : u.length = k) (hw : w.length ≤ 100) :
    (F__law_swapped [.ref m, .int k] h).sat (fun r h' => ∃ q, r = .ref q ∧ h'[q]? = some (.lst (encs (u ++ y :: x :: v))) ∧ h.length ≤ q ∧ FL.Kept [] h h') noE := by
  subst ew; subst hk
  refine sat__law_swapped ?_
  unfold c__law_swapped
  simp
  rw [slc_l e, cut_take]
  have e1 : (encs (u ++ x :: y :: v)).take u.length = encs u := by rw [encs_app, List.take_append_of_le_length (by rw [encs_len]; omega), List.take_of_length_le (by rw [encs_len]; omega)]
  rw [e1]
  have k1 := (FL.Kept.refl [] h).app [MO.lst (encs u)]
  have g1 : (h ++ [MO.lst (encs u)])[h.length]? = some (.lst (encs u)) := get_new
  generalize h ++ [MO.lst (encs u)] = h1 at k1 g1 ⊢
  have x1 : (encs (u ++ x :: y :: v))[u.length]? = some (enc x) := by rw [encs_app, List.getElem?_append_right (by rw [encs_len]; omega), encs_len, Nat.sub_self]; rfl
  have x2 : (encs (u ++ x :: y :: v))[u.length + 1]? = some (enc y) := by rw [encs_app, List.getElem?_append_right (by rw [encs_len]; omega), encs_len, Nat.add_sub_cancel_left]; rfl
  have ei : (u.length : Int) + 1 = ((u.length + 1 : Nat) : Int) := by omega
  have ei2 : (u.length : Int) + 2 = ((u.length + 2 : Nat) : Int) := by omega
  rw [ei, v_ix_l (k1.lget e (by simp)), atI_nat, x2, atK_some, v_ix_l (k1.lget e (by simp)), atI_nat, x1, atK_some]
  have k2 := k1.app [MO.lst [enc y, enc x]]
  have g2 := ((FL.Kept.refl [] h1).app [MO.lst [enc y, enc x]]).at g1 (by simp)
  simp at hw
  rw [v_add_l (wl_lst g2) (wl_lst get_new) (by rw [encs_len]; simp; unfold big; omega)]
  have k3 := k2.app [MO.lst (encs u ++ [enc y, enc x])]
  have g3 : (h1 ++ [MO.lst [enc y, enc x]] ++ [MO.lst (encs u ++ [enc y, enc x])])[(h1 ++ [MO.lst [enc y, enc x]]).length]? = some (.lst (encs u ++ [enc y, enc x])) := get_new
  have l3 : h.length ≤ (h1 ++ [MO.lst [enc y, enc x]]).length := k2.len
  generalize (h1 ++ [MO.lst [enc y, enc x]]).length = r3 at g3 l3 ⊢
  generalize h1 ++ [MO.lst [enc y, enc x]] ++ [MO.lst (encs u ++ [enc y, enc x])] = h3 at k3 g3 ⊢
  rw [ei2, slc_l (k3.lget e (by simp)), cut_drop]
  have e4 : (encs (u ++ x :: y :: v)).drop (u.length + 2) = encs v := by
    rw [encs_app, List.drop_append, encs_len, List.drop_of_length_le (by rw [encs_len]; omega), Nat.add_sub_cancel_left]; rfl
  rw [e4]
  have k4 := k3.app [MO.lst (encs v)]
  have g4 := ((FL.Kept.refl [] h3).app [MO.lst (encs v)]).at g3 (by simp)
  rw [v_add_l (wl_lst g4) (wl_lst get_new) (by simp [encs_len]; unfold big; omega)]
  refine ⟨_, rfl, ?_, k4.len, k4.app _⟩
  rw [get_new]
  simp [encs]
end
end K48
namespace K48
open PySem FL PySem.W PyProof.Rows
/-! ### orders as keys -/
def pkey (p : List Nm) : NestedKey := .tup (p.map fun a => .text (S a))
def skey : Stp → NestedKey
  | .addT t => .tup [.text (S ['a', 'd', 'd', 't', 'a', 'b', 'l', 'e']), .text (S t)]
  | .addC t c g => .tup [.text (S ['a', 'd', 'd', 'c', 'o', 'l', 'u', 'm', 'n']), .text (S t), .text (S c), .text (S g)]
  | .addR t p q => .tup [.text (S ['a', 'd', 'd', 'r', 'u', 'l', 'e']), .text (S t), pkey p, pkey q]
  | .drpT t => .tup [.text (S ['d', 'r', 'o', 'p', 't', 'a', 'b', 'l', 'e']), .text (S t)]
  | .drpC t c => .tup [.text (S ['d', 'r', 'o', 'p', 'c', 'o', 'l', 'u', 'm', 'n']), .text (S t), .text (S c)]
  | .drpR t p q => .tup [.text (S ['d', 'r', 'o', 'p', 'r', 'u', 'l', 'e']), .text (S t), pkey p, pkey q]
  | .namT t u => .tup [.text (S ['n', 'a', 'm', 'e', 't', 'a', 'b', 'l', 'e']), .text (S t), .text (S u)]
  | .namC t c d => .tup [.text (S ['n', 'a', 'm', 'e', 'c', 'o', 'l', 'u', 'm', 'n']), .text (S t), .text (S c), .text (S d)]
def okey (t : List Stp) : NestedKey := .tup (t.map skey)
theorem nks_cons {x : PV} {xs : List PV} {k : NestedKey} {ks : List NestedKey} (h1 : nk x = some k) (h2 : nks xs = some ks) : nks (x :: xs) = some (k :: ks) := by
  rw [nks, h1, h2]
theorem nks_map {α : Type} {f : α → PV} {g : α → NestedKey} (h : ∀ a, nk (f a) = some (g a)) : ∀ l : List α, nks (l.map f) = some (l.map g)
  | [] => by simp [nks]
  | a :: l => nks_cons (h a) (nks_map h l)
theorem nk_pth (p : List Nm) : nk (pth p) = some (pkey p) := by
  unfold pth pkey
  rw [nk, nks_map (g := fun a => NestedKey.text (S a)) (fun a => by rw [nk])]; rfl
theorem nk_enc (s : Stp) : nk (enc s) = some (skey s) := by
  cases s <;> simp [enc, skey, nk, nks, nk_pth]
theorem nk_encs (t : List Stp) : nk (.tup (encs t)) = some (okey t) := by
  rw [nk]; unfold encs okey
  rw [nks_map nk_enc]; rfl
theorem map_inj {α β : Type} {f : α → β} (h : ∀ a b, f a = f b → a = b) : ∀ {l m : List α}, l.map f = m.map f → l = m
  | [], [], _ => rfl
  | [], _ :: _, e => by simp at e
  | _ :: _, [], e => by simp at e
  | a :: l, b :: m, e => by
    simp only [List.map_cons, List.cons.injEq] at e
    rw [h a b e.1, map_inj h e.2]
theorem pkey_inj {p q : List Nm} (h : pkey p = pkey q) : p = q := by
  unfold pkey at h
  exact map_inj (fun a b e => by simpa [S_eq] using e) (NestedKey.tup.inj h)
theorem pkey_eq {p q : List Nm} : pkey p = pkey q ↔ p = q := ⟨pkey_inj, fun h => by rw [h]⟩
theorem skey_inj {s t : Stp} (h : skey s = skey t) : s = t := by
  cases s <;> cases t <;> simp [skey, S_eq, pkey_eq] at h ⊢ <;> exact h
theorem okey_inj {s t : List Stp} (h : okey s = okey t) : s = t := map_inj (fun a b => skey_inj) (NestedKey.tup.inj h)
theorem pkey_depth (p : List Nm) : (pkey p).depth ≤ 1 := by
  unfold pkey
  rw [NestedKey.depth]
  have : ∀ p : List Nm, NestedKey.depthAll (p.map fun a => .text (S a)) = 0 := by
    intro p
    induction p with
    | nil => rfl
    | cons a p ih => rw [List.map_cons, NestedKey.depthAll, ih]; rfl
  rw [this]
  omega
theorem skey_depth (s : Stp) : (skey s).depth ≤ 2 := by
  cases s <;> simp [skey, NestedKey.depth, NestedKey.depthAll]
  · exact Nat.le_trans (Nat.max_le.mpr ⟨pkey_depth _, pkey_depth _⟩) (by omega)
  · exact Nat.le_trans (Nat.max_le.mpr ⟨pkey_depth _, pkey_depth _⟩) (by omega)
theorem okey_depth (t : List Stp) : (okey t).depth ≤ 3 := by
  unfold okey
  rw [NestedKey.depth]
  have : ∀ t : List Stp, NestedKey.depthAll (t.map skey) ≤ 2 := by
    intro t
    induction t with
    | nil => exact Nat.zero_le _
    | cons a p ih =>
      rw [List.map_cons, NestedKey.depthAll]
      have := skey_depth a
      omega
  have := this t
  omega
theorem nkd_encs (t : List Stp) : nkd (.tup (encs t)) = true := by
  unfold nkd
  rw [nk_encs]
  exact decide_eq_true (Nat.le_trans (okey_depth t) (by omega))
/-- the dict of what was seen -/
def sn (D : List (List Stp)) : List (PV × PV) := D.map fun t => (.tup (encs t), .bl true)
theorem sn_at (D : List (List Stp)) (t : List Stp) : (kvAt (sn D) (.tup (encs t))).isSome = decide (t ∈ D) := by
  unfold kvAt sn
  induction D with
  | nil => rfl
  | cons u D ih =>
    rw [List.map_cons, List.find?_cons]
    simp only [nk_encs]
    by_cases e : u = t
    · subst e; simp
    · have : okey u ≠ okey t := fun z => e (okey_inj z)
      have e2 : ¬ t = u := fun z => e z.symm
      simp [this, e2, nk_encs] at ih ⊢
      exact ih
section
variable {h : MH} {Q : PV → MH → Prop} {E : Exc → MH → Prop}
theorem notin_sn {r : Nat} {D : List (List Stp)} {t : List Stp} (g : h[r]? = some (.dtp (sn D))) : (cmpM .NotIn (.tup (encs t)) (.ref r) h).sat Q E = Q (.bl (!decide (t ∈ D))) h := by
  refine ninM_sat ?_
  have h4 : inB (.tup (encs t)) (.ref r) h = hasM (.tup (encs t)) r h := rfl
  rw [h4]
  unfold hasM
  rw [g]
  dsimp only
  rw [if_pos (by rw [nkd_encs]; rfl), sn_at]
theorem set_sn {r : Nat} {D : List (List Stp)} {t : List Stp} {K : Unit → MH → Prop} (g : h[r]? = some (.dtp (sn D))) (ht : t ∉ D) (hD : D.length ≤ 100000) : (setM (.ref r) (.tup (encs t)) (.bl true) h).sat K E = K () (h.set r (.dtp (sn (D ++ [t])))) := by
  have e : kvPut (sn D) (.tup (encs t)) (.bl true) = sn (D ++ [t]) := by
    unfold kvPut
    rw [sn_at, if_neg (by simpa using ht)]
    simp [sn]
  have : setM (.ref r) (.tup (encs t)) (.bl true) h = Res.ok () (h.set r (.dtp (sn (D ++ [t])))) := by
    unfold setM
    dsimp only
    rw [g]
    dsimp only
    rw [if_pos (by rw [nkd_encs]; simp [FL.tupK, sn]; unfold big; omega), e]
  rw [this, sat_ok]
theorem dset_sn {r : Nat} {t : List Stp} {K : Unit → MH → Prop} (g : h[r]? = some (.dtp [])) : (dsetM r (.tup (encs t)) (.bl true) h).sat K E = K () (h.set r (.dtp (sn [t]))) := by
  have : dsetM r (.tup (encs t)) (.bl true) h = setM (.ref r) (.tup (encs t)) (.bl true) h := by
    unfold dsetM; rw [g]
  rw [this]
  exact set_sn (D := []) g (by simp) (by simp)
end
end K48
namespace K48
open PySem FL PySem.W PyProof.Rows
theorem rch_mem {a b : List Stp} (h : Rch a b) : ∀ s, s ∈ b → s ∈ a := by
  induction h with
  | refl => exact fun s hs => hs
  | step _ s ih =>
    obtain ⟨x, y, u, v, rfl, rfl, _⟩ := s
    intro s hs
    refine ih s ?_
    simp at hs ⊢
    rcases hs with z | z | z | z <;> simp [z]
theorem rch_len {a b : List Stp} (h : Rch a b) : b.length = a.length := by
  induction h with
  | refl => rfl
  | step _ s ih =>
    obtain ⟨x, y, u, v, rfl, rfl, _⟩ := s
    rw [← ih]; simp
theorem fac6 {n : Nat} (h : n ≤ 6) : fac n ≤ 720 := by
  match n, h with
  | 0, _ => decide
  | 1, _ => decide
  | 2, _ => decide
  | 3, _ => decide
  | 4, _ => decide
  | 5, _ => decide
  | 6, _ => decide
theorem found_len {w : List Stp} {D : List (List Stp)} (hw : w.length ≤ 6) (nd : D.Nodup) (hr : ∀ t ∈ D, Rch w t) : D.length ≤ 720 := by
  have h1 := sub_len nd (us := ords w (List.range w.length)) fun t ht => rch_ord List.pairwise_lt_range (by rw [stp_map]; exact hr t ht)
  have h2 := ord_len (w := w) (R := List.range w.length) rfl
  have h3 := fac6 hw
  unfold ords at h1
  rw [List.length_range] at h1 h2
  omega
/-- what is kept of the found orders -/
structure Fd (w : List Stp) (fd sd : Nat) (h : MH) (h4 : MH) (rs : List Nat) (D : List (List Stp)) : Prop where
  k : FL.Kept [] h h4
  f : h4[fd]? = some (.lst (rs.map PV.ref))
  s : h4[sd]? = some (.dtp (sn D))
  l : Lsts h4 rs D
  nd : D.Nodup
  r : ∀ t ∈ D, Rch w t
  w0 : w ∈ D
  ow : ∀ q ∈ rs, h.length ≤ q ∧ q ≠ fd ∧ q ≠ sd
  fs : h.length ≤ fd ∧ h.length ≤ sd ∧ fd ≠ sd
theorem Fd.keep {w : List Stp} {fd sd : Nat} {h h4 h5 : MH} {rs : List Nat} {D : List (List Stp)} (a : Fd w fd sd h h4 rs D) (k : FL.Kept [] h4 h5) : Fd w fd sd h h5 rs D :=
  ⟨a.k.trans k, k.at a.f (by simp), k.at a.s (by simp), a.l.keep k (by simp), a.nd, a.r, a.w0, a.ow, a.fs⟩
def Og (n : Nat) (w : List Stp) (fd sd : Nat) (h : MH) (i : Nat) (fr : Fr) (h4 : MH) : Prop := ∃ (rs : List Nat) (D : List (List Stp)), Fd w fd sd h h4 rs D ∧
  (∀ (k : Nat) (t b : List Stp), k < i → D[k]? = some t → Sw t b → b ∈ D) ∧ ∃ a b c : Option PV, fr = [some (.ref n), some (.ref fd), some (.ref sd), a, b, c]
def Oi (n : Nat) (w : List Stp) (fd sd : Nat) (h : MH) (i : Nat) (t : List Stp) (j : Nat) (fr : Fr) (h4 : MH) : Prop := ∃ (rs : List Nat) (D : List (List Stp)), Fd w fd sd h h4 rs D ∧
  (∀ (k : Nat) (t b : List Stp), k < i → D[k]? = some t → Sw t b → b ∈ D) ∧ D[i]? = some t ∧
  (∀ (x y : Stp) (u v : List Stp), t = u ++ x :: y :: v → u.length < j → dep x y = false → u ++ y :: x :: v ∈ D) ∧
  ∃ b c : Option PV, fr = [some (.ref n), some (.ref fd), some (.ref sd), some (.int i), b, c]
theorem eqv_lst {xs ys : List PyData} : PyData.eqv (.list xs) (.list ys) = PyData.eqvAll xs ys := by rw [PyData.eqv]
theorem eqv_dats : ∀ {p q : List Stp}, PyData.eqvAll (p.map dat) (q.map dat) = decide (p = q)
  | [], [] => by simp [PyData.eqvAll]
  | [], _ :: _ => by simp [PyData.eqvAll]
  | _ :: _, [] => by simp [PyData.eqvAll]
  | a :: p, b :: q => by
    simp only [List.map_cons, eqv_all, eqv_e, eqv_dats (p := p) (q := q)]
    by_cases h1 : a = b <;> by_cases h2 : p = q <;> simp [h1, h2]
theorem eqv_l {p q : List Stp} : PyData.eqv (ldat p) (ldat q) = decide (p = q) := by
  unfold ldat; rw [eqv_lst, eqv_dats]
theorem llt_tot {a b : List Stp} (h1 : llt a b = false) (h2 : llt b a = false) : a = b := by
  have k := lex_total (O := itemOrd) _ _ h1 h2
  have := toks_inj (soft_ldat a b) k
  rw [eqv_l] at this
  simpa using this
def lle (a b : Nat × List Stp) : Bool := !llt b.2 a.2
theorem lle_trans (a b c : Nat × List Stp) (h1 : lle a b = true) (h2 : lle b c = true) : lle a c = true := by
  unfold lle at *
  simp only [Bool.not_eq_true'] at *
  cases q : llt c.2 a.2 with
  | false => rfl
  | true =>
    rcases (listOrd itemOrd).negTrans (keyToks (ldat c.2)) (keyToks (ldat b.2)) (keyToks (ldat a.2)) q with z | z
    · rw [show llt c.2 b.2 = true from z] at h2; cases h2
    · rw [show llt b.2 a.2 = true from z] at h1; cases h1
theorem lle_total (a b : Nat × List Stp) : (lle a b || lle b a) = true := by
  unfold lle
  cases q : llt b.2 a.2 with
  | false => rfl
  | true => rw [llt_asym q]; rfl
theorem atI_s {α : Type} {xs : List α} {k : Nat} : L2.atI xs ((k : Int) + 1) = xs[k + 1]? := by
  rw [show (k : Int) + 1 = ((k + 1 : Nat) : Int) by omega, atI_nat]
section
variable {h : MH} {Q : PV → MH → Prop} {E : Exc → MH → Prop}
/-- the refs of the found orders, sorted by the orders -/
theorem sort_orders {fd : Nat} {rs : List Nat} {D : List (List Stp)} {w : List Stp} (g : lget h fd = some (rs.map PV.ref)) (l : Lsts h rs D) (nd : D.Nodup) (hD : D.length ≤ 1000) (hm : ∀ x, x ∈ D ↔ x ∈ ords w (List.range w.length))
    (q : ∀ rs', Lsts h rs' (ords w (List.range w.length)) → (∀ r ∈ rs', r ∈ rs) → Q (.ref h.length) (h ++ [.lst (rs'.map PV.ref)])) : (bltM .sorted [.ref fd] h).sat Q E := by
  have llen := l.len
  have e1 : rs = (rs.zip D).map Prod.fst := by rw [List.map_fst_zip (by omega)]
  have e2 : D = (rs.zip D).map Prod.snd := by rw [List.map_snd_zip (by omega)]
  have hz : ∀ z ∈ rs.zip D, h[z.1]? = some (.lst (encs z.2)) := by
    intro z hz
    obtain ⟨k, hk⟩ := List.getElem?_of_mem hz
    rw [show z = (z.1, z.2) from rfl, List.getElem?_zip_eq_some] at hk
    exact l.get hk.1 hk.2
  generalize hZ : rs.zip D = Z at e1 e2 hz
  have es : snaps h (rs.map PV.ref) = some (Z.map fun z => ldat z.2) := by
    rw [e1, List.map_map]
    exact mapO_map fun z hz' => snap_lst (m := 57) (lget_lst (hz z hz'))
  have ok : okSort (Z.map fun z => ldat z.2) = true := by
    unfold okSort
    simp only [Bool.and_eq_true, Bool.or_eq_true, List.all_eq_true, List.mem_map]
    refine ⟨?_, .inr ?_⟩
    · rintro _ ⟨p, _, rfl⟩ _ ⟨q, _, rfl⟩
      exact soft_ldat _ _
    · rintro _ ⟨p, _, rfl⟩
      rfl
  have ez : (rs.map PV.ref).zip (Z.map fun z => ldat z.2) = Z.map fun z => (PV.ref z.1, ldat z.2) := by
    rw [e1, List.map_map, List.zip_map']; rfl
  have hsort : sortP ((rs.map PV.ref).zip (Z.map fun z => ldat z.2)) = ((Z.mergeSort lle).map Prod.fst).map PV.ref := by
    rw [ez]
    unfold sortP
    rw [← List.map_mergeSort (f := fun z : Nat × List Stp => (PV.ref z.1, ldat z.2)) (r := lle) (s := dataLe false Prod.snd) (fun a _ b _ => rfl), List.map_map, List.map_map]
    rfl
  have hb : bltM .sorted [.ref fd] h = Res.ok (.ref h.length) (h ++ [.lst (((Z.mergeSort lle).map Prod.fst).map PV.ref)]) := by
    show (match lstOf h (.ref fd) with
      | some xs => match snaps h xs with
        | some ds => if okSort ds && decide (xs.length ≤ big) then newL (sortP (xs.zip ds)) h else Res.bad
        | none => Res.bad
      | none => Res.bad) = _
    rw [show lstOf h (.ref fd) = lget h fd from rfl, g]
    dsimp only
    rw [es]
    dsimp only
    rw [if_pos (by rw [ok]; simp; unfold big; omega), hsort]; rfl
  rw [hb, sat_ok]
  have hperm := List.mergeSort_perm Z lle
  refine q _ ?_ ?_
  · have hD' : (Z.mergeSort lle).map Prod.snd = ords w (List.range w.length) := by
      have p2 : ((Z.mergeSort lle).map Prod.snd).Perm D := by rw [e2]; exact hperm.map _
      refine sorted_eq ?_ (ord_sorted List.nodup_range) fun x => by rw [p2.mem_iff]; exact hm x
      have h1 : (Z.mergeSort lle).Pairwise fun a b => lle a b = true := List.pairwise_mergeSort lle_trans lle_total _
      have h2 : ((Z.mergeSort lle).map Prod.snd).Pairwise fun a b => (!llt b a) = true := by rw [List.pairwise_map]; exact h1
      have h3 : ((Z.mergeSort lle).map Prod.snd).Nodup := p2.nodup_iff.mpr nd
      refine (h2.and h3).imp fun {a b} ⟨x, y⟩ => ?_
      cases q1 : llt a b with
      | true => rfl
      | false => exact absurd (llt_tot q1 (by simpa using x)) y
    unfold Lsts
    rw [← hD', List.map_map, List.map_map]
    refine List.map_congr_left fun z hz' => ?_
    exact hz z (hperm.mem_iff.mp hz')
  · intro r hr
    obtain ⟨z, hz', rfl⟩ := List.mem_map.mp hr
    rw [e1]
    exact List.mem_map_of_mem (hperm.mem_iff.mp hz')
theorem orders_sp {n : Nat} {w : List Stp} (e : lget h n = some (encs w)) (hw : w.length ≤ 6) (ow : ∀ s ∈ w, okS s) : (F__law_orders [.ref n] h).sat (fun v h' => ∃ r rs, v = .ref r ∧ h'[r]? = some (.lst (rs.map PV.ref)) ∧ Lsts h' rs (ords w (List.range w.length)) ∧ h.length ≤ r ∧ (∀ q ∈ rs, h.length ≤ q) ∧ FL.Kept [] h h') noE := by
  refine sat__law_orders ?_
  unfold c__law_orders
  simp only [ssat_cons, ws_asg, w_lst, w_blt, w_es, w_es0, w_loc, List.getElem?_cons_zero, List.getElem?_cons_succ, List.set_cons_zero, List.set_cons_succ, sqK_nx]
  rw [v_list e]
  refine ⟨by simp, ?_⟩
  have k1 := ((FL.Kept.refl [] h).app [MO.lst (encs w)]).app [MO.lst [.ref h.length]]
  have g1 : (h ++ [MO.lst (encs w)] ++ [MO.lst [.ref h.length]])[h.length]? = some (.lst (encs w)) := ((FL.Kept.refl [] _).app _).at get_new (by simp)
  have f1 : (h ++ [MO.lst (encs w)] ++ [MO.lst [.ref h.length]])[h.length + 1]? = some (.lst ([h.length].map PV.ref)) := by
    have := get_new (h := h ++ [MO.lst (encs w)]) (o := MO.lst [.ref h.length])
    simpa using this
  have l1 : (h ++ [MO.lst (encs w)] ++ [MO.lst [.ref h.length]]).length = h.length + 2 := by simp
  rw [show (h ++ [MO.lst (encs w)]).length = h.length + 1 by simp]
  generalize h ++ [MO.lst (encs w)] ++ [MO.lst [PV.ref h.length]] = h1 at k1 g1 f1 l1 ⊢
  simp only [w_dd1, w_blt, w_es, w_es0, w_loc, w_cst, List.getElem?_cons_zero, List.getElem?_cons_succ, List.set_cons_zero, List.set_cons_succ]
  have k2 := k1.app [MO.dtp []]
  have kk := (FL.Kept.refl [] h1).app [MO.dtp []]
  rw [v_tuple (k2.lget e (by simp)), dset_sn get_new]
  have hset : (h1 ++ [MO.dtp []]).set h1.length (.dtp (sn [w])) = h1 ++ [MO.dtp (sn [w])] := by
    rw [List.set_append_right _ _ (Nat.le_refl _), Nat.sub_self]; rfl
  rw [hset]
  have F : Fd w (h.length + 1) (h.length + 2) h (h1 ++ [MO.dtp (sn [w])]) [h.length] [w] := by
    have k3 := (FL.Kept.refl [] h1).app [MO.dtp (sn [w])]
    refine ⟨k1.trans k3, k3.at f1 (by simp), ?_, ?_, by simp, ?_, by simp, ?_, by omega⟩
    · rw [← l1]; exact get_new
    · unfold Lsts; simp [k3.at g1 (by simp)]
    · intro t ht; simp at ht; subst ht; exact .refl _
    · intro q hq; simp at hq; subst hq; omega
  rw [l1]
  generalize h1 ++ [MO.dtp (sn [w])] = h3 at F ⊢
  simp only [ws_for, w_rng1, w_cst]
  refine ⟨okR_nat (n := 800) (by omega), ?_⟩
  refine sat_forS (Og n w (h.length + 1) (h.length + 2) h) ⟨[h.length], [w], F, fun k t b hk => absurd hk (by omega), _, _, _, rfl⟩ ?_ ?_
  · rintro i x fr h4 hx ⟨rs, D, F, cl, a, b, c, rfl⟩
    obtain ⟨rfl, hi⟩ := nats_at hx
    refine ⟨_, rfl, ?_⟩
    have llen := F.l.len
    simp [v_len_l (lget_lst F.f)]
    by_cases hiD : i < D.length
    · have hiD' : (i : Int) < rs.length := by omega
      rw [if_pos (by omega)]
      obtain ⟨t, et⟩ : ∃ t, D[i]? = some t := ⟨_, List.getElem?_eq_getElem hiD⟩
      have htD := List.mem_of_getElem? et
      have rt := F.r t htD
      have lt := rch_len rt
      rw [ws_for]
      simp only [w_rng1, w_bin, w_blt, w_es, w_es0, w_loc, w_cst, List.getElem?_cons_zero, List.getElem?_cons_succ, v_len_l (F.k.lget e (by simp)), encs_len, v_sub_i]
      refine ⟨by unfold okR; simp; omega, ?_⟩
      refine sat_forS (Oi n w (h.length + 1) (h.length + 2) h i t) ⟨rs, D, F, cl, et, fun x y u v _ z => absurd z (by omega), _, _, rfl⟩ ?_ ?_
      · rintro j z fr h5 hz ⟨rs, D, F, cl, et, ci, b, c, rfl⟩
        obtain ⟨rfl, hj⟩ := nats_at hz
        refine ⟨_, rfl, ?_⟩
        obtain ⟨r, er, hr⟩ := F.l.ix et
        have ex : t[j]? = some (t[j]'(by omega)) := List.getElem?_eq_getElem _
        have ey : t[j + 1]? = some (t[j + 1]'(by omega)) := List.getElem?_eq_getElem _
        generalize t[j]'(by omega) = x at ex
        generalize t[j + 1]'(by omega) = y at ey
        have esp : t = t.take j ++ x :: y :: t.drop (j + 2) := by
          have h1 := List.drop_eq_getElem_cons (List.getElem?_eq_some_iff.mp ex).1
          have h2 := List.drop_eq_getElem_cons (List.getElem?_eq_some_iff.mp ey).1
          rw [(List.getElem?_eq_some_iff.mp ex).2] at h1
          rw [(List.getElem?_eq_some_iff.mp ey).2] at h2
          rw [← h2, ← h1, List.take_append_drop]
        have ltk : (t.take j).length = j := by rw [List.length_take]; omega
        have ox := ow x (rch_mem rt x (List.mem_of_getElem? ex))
        have oy := ow y (rch_mem rt y (List.mem_of_getElem? ey))
        have ex2 : (encs t)[j]? = some (enc x) := by unfold encs; rw [List.getElem?_map, ex]; rfl
        have ey2 : (encs t)[j + 1]? = some (enc y) := by unfold encs; rw [List.getElem?_map, ey]; rfl
        simp [v_ix_l (lget_lst F.f), atI_nat, atI_s, er, v_ix_l (lget_lst hr), ex2, ey2]
        refine sat_to (leans_sp ox oy) ?_
        rintro _ h6 ⟨rfl, k6⟩
        have F6 := F.keep k6
        rw [blK_bl]
        have other : ∀ (D' : List (List Stp)), (∀ s ∈ D, s ∈ D') → (dep x y = false → t.take j ++ y :: x :: t.drop (j + 2) ∈ D') → ∀ (x y : Stp) (u v : List Stp), t = u ++ x :: y :: v → u.length < j + 1 → dep x y = false → u ++ y :: x :: v ∈ D' := by
          intro D' hsub hnew x' y' u v e1 hu hd
          by_cases hlt : u.length < j
          · exact hsub _ (ci x' y' u v e1 hlt hd)
          · have : u.length = j := by omega
            have e2 := esp
            rw [e1] at e2
            rw [← e1] at e2
            have e3 : u ++ x' :: y' :: v = t.take j ++ x :: y :: t.drop (j + 2) := by rw [← e1]; exact esp
            obtain ⟨a1, a2⟩ := List.append_inj e3 (by omega)
            simp only [List.cons.injEq] at a2
            obtain ⟨a3, a4, a5⟩ := a2
            rw [a1, a3, a4, a5]
            exact hnew (by rw [← a3, ← a4]; exact hd)
        cases hd : dep x y with
        | true =>
          simp
          exact ⟨rs, D, F6, cl, et, other D (fun _ z => z) (fun z => by rw [hd] at z; cases z), _, _, rfl⟩
        | false =>
          simp
          have hr6 := k6.at hr (by simp)
          rw [v_ix_l (lget_lst F6.f), atI_nat, List.getElem?_map, er, Option.map_some, atK_some]
          refine sat_to (swapped_sp (lget_lst hr6) esp ltk (by omega)) ?_
          rintro _ h7 ⟨q, rfl, g7, hq, k7⟩
          have F7 := F6.keep k7
          simp [v_tuple (lget_lst g7)]
          rw [notin_sn F7.s, blK_bl]
          have hb := FL.Kept.len k7
          have hfd := (List.getElem?_eq_some_iff.mp F6.f).1
          have hsd := (List.getElem?_eq_some_iff.mp F6.s).1
          have hfs := F6.fs
          generalize hbb : t.take j ++ y :: x :: t.drop (j + 2) = b at g7 other ⊢
          by_cases hin : b ∈ D
          · simp [hin]
            exact ⟨rs, D, F7, cl, et, other D (fun _ z => z) (fun _ => hin), _, _, rfl⟩
          · simp [hin, v_tuple (lget_lst g7)]
            have hDl := found_len hw F.nd F.r
            rw [set_sn F7.s hin (by omega)]
            have f8 : (h7.set (h.length + 2) (.dtp (sn (D ++ [b]))))[h.length + 1]? = some (.lst (rs.map PV.ref)) := by rw [List.getElem?_set_ne (by omega)]; exact F7.f
            simp only [kind_l (lget_lst f8), ok_append, true_and]
            rw [v_append, wl_lst f8]
            have llen := F.l.len
            refine ⟨by simp; unfold big; omega, rs ++ [q], D ++ [b], ?_, ?_, ?_, other (D ++ [b]) (fun s z => List.mem_append_left _ z) (fun _ => by simp), _, _, rfl⟩
            · have s8 := (F7.l.snoc g7).keep (S := [h.length + 1, h.length + 2]) (h' := (h7.set (h.length + 2) (.dtp (sn (D ++ [b])))).set (h.length + 1) (.lst (rs.map PV.ref ++ [.ref q]))) ((((FL.Kept.refl [h.length + 1, h.length + 2] h7).setIn (by simp) _).setIn (by simp) _)) (fun p hp => by
                rcases List.mem_append.mp hp with z | z
                · have := F.ow p z; simp; omega
                · simp at z; subst z; simp; omega)
              refine ⟨(F7.k.setNew (by omega) _).setNew (by omega) _, ?_, ?_, s8, ?_, ?_, by simp [F.w0], ?_, F.fs⟩
              · rw [get_set f8]; simp
              · rw [List.getElem?_set_ne (by omega)]; exact get_set F7.s
              · rw [List.nodup_append]
                exact ⟨F.nd, by simp, fun a ha c hc z => by simp at hc; subst hc; subst z; exact hin ha⟩
              · intro s hs
                rcases List.mem_append.mp hs with z | z
                · exact F.r s z
                · simp at z; subst z
                  exact .step rt ⟨x, y, _, _, esp, hbb.symm, hd⟩
              · intro p hp
                rcases List.mem_append.mp hp with z | z
                · exact F.ow p z
                · simp at z; subst z
                  have := F6.k.len
                  omega
            · intro k t' b' hk hD hs
              have hkl : k < D.length := by
                have := (List.getElem?_eq_some_iff.mp et).1
                omega
              rw [List.getElem?_append_left hkl] at hD
              exact List.mem_append_left _ (cl k t' b' hk hD hs)
            · rw [List.getElem?_append_left (List.getElem?_eq_some_iff.mp et).1]; exact et
      · rintro fr h5 ⟨rs, D, F, cl, et, ci, b, c, rfl⟩
        rw [nats_len] at ci
        simp only [sqK_nx, ssat_nil, lpK_nx]
        refine ⟨rs, D, F, ?_, _, _, _, rfl⟩
        intro k t' b' hk hD hs
        by_cases hki : k = i
        · subst hki
          rw [et] at hD
          cases hD
          obtain ⟨x, y, u, v, e1, rfl, hd⟩ := hs
          refine ci x y u v e1 ?_ hd
          rw [e1] at lt
          simp at lt
          omega
        · exact cl k t' b' (by omega) hD hs
    · rw [if_neg (by omega)]
      refine ⟨rs, D, F, ?_, _, _, _, rfl⟩
      intro k t b hk hD hs
      by_cases hki : k = i
      · subst hki
        have := (List.getElem?_eq_some_iff.mp hD).1
        omega
      · exact cl k t b (by omega) hD hs
  · rintro fr h4 ⟨rs, D, F, cl, a, b, c, rfl⟩
    rw [nats_len] at cl
    have hD := found_len hw F.nd F.r
    simp
    refine sort_orders (w := w) (lget_lst F.f) F.l F.nd (by omega) ?_ ?_
    · have := closed_eq (w := w) (R := List.range w.length) (l := D) List.pairwise_lt_range (by rw [stp_map]; exact F.w0) (fun a ha b hs => ?_) (by rw [stp_map]; exact F.r)
      · exact this
      · obtain ⟨k, hk⟩ := List.getElem?_of_mem ha
        have := (List.getElem?_eq_some_iff.mp hk).1
        exact cl k a b (by simp; omega) hk hs
    · intro rs' hl hsub
      have k5 := (FL.Kept.refl [] h4).app [MO.lst (rs'.map PV.ref)]
      exact ⟨_, rfl, rs', get_new, hl.keep k5 (by simp), F.k.len, fun q hq => (F.ow q (hsub q hq)).1, F.k.trans k5⟩
end
end K48
namespace K48
open PySem FL PySem.W PyProof.Rows
/-! ### lists that may be orders -/
inductive It | st (s : Stp) | no | tx (l : Nm) | em
def itv : It → PV
  | .st s => enc s
  | .no => .non
  | .tx l => .str l
  | .em => .tup []
def itd : It → PyData
  | .st s => dat s
  | .no => .none
  | .tx l => .str (S l)
  | .em => .tuple []
def ito : It → Option Stp
  | .st s => some s
  | _ => none
theorem snap_it {h : MH} {m : Nat} (i : It) : snap h (m + 2) (itv i) = some (itd i) := by
  cases i with
  | st s => exact snap_enc
  | no => exact snap_non
  | tx l => exact snap_str
  | em => rfl
theorem eqv_it (s : Stp) (i : It) : PyData.eqv (dat s) (itd i) = decide (some s = ito i) := by
  cases i with
  | st t => show PyData.eqv (dat s) (dat t) = decide (some s = some t); rw [eqv_e]; by_cases h : s = t <;> simp [h]
  | no => cases s <;> rfl
  | tx l => cases s <;> rfl
  | em => cases s <;> simp [dat, itd, ito, eqv_tup, PyData.eqvAll]
def itvs (l : List It) : List PV := l.map itv
theorem itl_its (l : List It) : ItL (itvs l) (l.map ito) := ⟨by simp [itvs], fun i x hx => by
  unfold itvs at hx
  rw [List.getElem?_map] at hx ⊢
  cases q : l[i]? with
  | none => rw [q] at hx; cases hx
  | some s => rw [q] at hx; cases hx; exact ⟨ito s, rfl, itd s, fun h => snap_it (m := 58) s, fun t => eqv_it t s⟩⟩
theorem eqv_its : ∀ (t : List Stp) (l : List It), PyData.eqvAll (t.map dat) (l.map itd) = decide (t.map some = l.map ito)
  | [], [] => by simp [PyData.eqvAll]
  | [], _ :: _ => by simp [PyData.eqvAll]
  | _ :: _, [] => by simp [PyData.eqvAll]
  | a :: p, b :: q => by
    simp only [List.map_cons, eqv_all, eqv_it, eqv_its p q]
    by_cases h1 : some a = ito b <;> by_cases h2 : p.map some = q.map ito <;> simp [h1, h2]
theorem eqv_ord (t : List Stp) (l : List It) : PyData.eqv (ldat t) (.list (l.map itd)) = decide (t.map some = l.map ito) := by
  unfold ldat; rw [eqv_lst, eqv_its]
theorem first_in {D : List (List Stp)} {l : List It} : (∃ j t, firstEq (.list (l.map itd)) (D.map ldat) = some j ∧ D[j]? = some t ∧ t.map some = l.map ito) ∨ ((∀ t ∈ D, t.map some ≠ l.map ito)) := by
  induction D with
  | nil => exact .inr fun _ z => nomatch z
  | cons u D ih =>
    by_cases e : u.map some = l.map ito
    · refine .inl ⟨0, u, ?_, rfl, e⟩
      rw [List.map_cons]
      unfold firstEq
      rw [eqv_ord, if_pos (decide_eq_true e)]
    · rcases ih with ⟨j, t, h1, h2, h3⟩ | h
      · refine .inl ⟨j + 1, t, ?_, by simpa using h2, h3⟩
        rw [List.map_cons]
        unfold firstEq
        rw [eqv_ord, if_neg (by simpa using e), h1]; rfl
      · refine .inr fun t ht => ?_
        rcases List.mem_cons.mp ht with z | z
        · subst z; exact e
        · exact h t z
theorem any_in {D : List (List Stp)} {l : List It} : ((D.map ldat).any fun z => PyData.eqv z (.list (l.map itd))) = decide (∃ t ∈ D, t.map some = l.map ito) := by
  induction D with
  | nil => simp
  | cons u D ih =>
    rw [List.map_cons, List.any_cons, ih, eqv_ord]
    by_cases e : u.map some = l.map ito <;> simp [e]
theorem rnk_in {w t : List Stp} {l : List It} {j : Nat} (h : (ords w (List.range w.length))[j]? = some t) (e : t.map some = l.map ito) : rnk w (l.map ito) = some j := by
  have hl : t.length = w.length := by have := ord_item (List.mem_of_getElem? h); simpa using this
  unfold rnk
  rw [← e, if_pos (by rw [List.length_map]; exact hl), rk_nth List.nodup_range h]
theorem rnk_out {w : List Stp} {l : List It} (h : ∀ t ∈ ords w (List.range w.length), t.map some ≠ l.map ito) : rnk w (l.map ito) = none := by
  unfold rnk
  split
  · rename_i hl
    cases q : rk w (List.range w.length) (l.map ito) with
    | none => rfl
    | some k =>
      obtain ⟨t, e, hk⟩ := rk_get List.nodup_range (by rw [hl]; simp) q
      exact absurd e.symm (h t (List.mem_of_getElem? hk))
  · rfl
section
variable {h : MH} {Q : PV → MH → Prop} {E : Exc → MH → Prop}
theorem snap_its {m r : Nat} {l : List It} (g : lget h r = some (itvs l)) : snap h (m + 3) (.ref r) = some (.list (l.map itd)) := by
  show (match lget h r with | some xs => (mapO (snap h (m + 2)) xs).map PyData.list | none => none) = _
  rw [g]; dsimp only
  rw [show mapO (snap h (m + 2)) (itvs l) = some (l.map itd) from mapO_map fun i _ => snap_it i]; rfl
theorem snap_due {m d : Nat} {rs : List Nat} {D : List (List Stp)} (g : lget h d = some (rs.map PV.ref)) (s : Lsts h rs D) : snap h (m + 4) (.ref d) = some (.list (D.map ldat)) := by
  show (match lget h d with | some xs => (mapO (snap h (m + 3)) xs).map PyData.list | none => none) = _
  rw [g]; dsimp only
  have : ∀ (rs : List Nat) (D : List (List Stp)), Lsts h rs D → mapO (snap h (m + 3)) (rs.map PV.ref) = some (D.map ldat) := by
    intro rs
    induction rs with
    | nil =>
      intro D s
      have := s.len
      cases D with
      | nil => rfl
      | cons c D => simp at this
    | cons r rs ih =>
      intro D s
      cases D with
      | nil => have := s.len; simp at this
      | cons c D =>
        unfold Lsts at s
        simp only [List.map_cons, List.cons.injEq] at s
        exact mapO_cons (snap_lst (lget_lst s.1)) (ih D s.2)
  rw [this rs D s]; rfl
theorem in_due {r d : Nat} {rs : List Nat} {D : List (List Stp)} {l : List It} (g : h[d]? = some (.lst (rs.map PV.ref))) (s : Lsts h rs D) (e : lget h r = some (itvs l)) : (cmpM .In (.ref r) (.ref d) h).sat Q E = Q (.bl (decide (∃ t ∈ D, t.map some = l.map ito))) h := by
  refine (inM_sat ?_).trans rfl
  have h4 : inB (.ref r) (.ref d) h = hasM (.ref r) d h := rfl
  rw [h4]
  unfold hasM
  rw [g]
  dsimp only
  rw [snap_its (m := 57) e, snap_due (m := 56) (lget_lst g) s]
  dsimp only
  rw [any_in]
theorem ix_due {r d : Nat} {rs : List Nat} {D : List (List Stp)} {l : List It} {j : Nat} (g : h[d]? = some (.lst (rs.map PV.ref))) (s : Lsts h rs D) (e : lget h r = some (itvs l)) (ej : firstEq (.list (l.map itd)) (D.map ldat) = some j) : (mthM .list .index (.ref d) [.ref r] h).sat Q E = Q (.int (j : Nat)) h := by
  have : mthM .list .index (.ref d) [.ref r] h = Res.ok (.int (j : Nat)) h := by
    unfold mthM
    dsimp only
    rw [snap_its (m := 57) e, snap_due (m := 56) (lget_lst g) s]
    dsimp only
    rw [ej]
  rw [this, sat_ok]
end
end K48
namespace K48
open PySem FL PySem.W PyProof.Rows
/-- what stands all along -/
structure Sx (n c sr du hr : Nat) (w : List Stp) (rs : List Nat) (h : MH) : Prop where
  g : h[sr]? = some (.lst (encs w))
  gd : h[du]? = some (.lst (rs.map PV.ref))
  sd : Lsts h rs (ords w (List.range w.length))
  gh : h[hr]? = some (.lst (encs w))
  d : Dk n c h
theorem Sx.keep {n c sr du hr : Nat} {w : List Stp} {rs : List Nat} {h h' : MH} (s : Sx n c sr du hr w rs h) (k : FL.Kept [] h h') : Sx n c sr du hr w rs h' :=
  ⟨k.at s.g (by simp), k.at s.gd (by simp), s.sd.keep k (by simp), k.at s.gh (by simp), s.d.keep0 k⟩
/-- what is known of the orders -/
structure Kn (w : List Stp) : Prop where
  w6 : w.length ≤ 6
  d1 : (ords w (List.range w.length)).length ≤ 720
  ok : ∀ t ∈ ords w (List.range w.length), (∀ s ∈ t, okS s) ∧ t.length = w.length
  ecn : cn w 0 = (ords w (List.range w.length)).length
  key : ∀ (j : Nat) (t : List Stp), (ords w (List.range w.length))[j]? = some t → rnk w (t.map some) = some j
section
variable {h : MH} {n c sr du hr p : Nat} {w : List Stp} {rs : List Nat} {a5 a6 a7 a8 a9 a10 a11 : Option PV} {Qs : Fl → Fr → MH → Prop} {Es : Exc → Fr → MH → Prop}
theorem loop1_sp {pl : List PV} (K : Kn w) (S : Sx n c sr du hr w rs h) (gp : h[p]? = some (.lst pl)) (pp : ∀ v ∈ pl, ∃ k : Nat, v = .int k ∧ k < (ords w (List.range w.length)).length)
    (q : ∀ a5 h', Sx n c sr du hr w rs h' → FL.Kept [] h h' → Qs .nx [some (.ref n), some (.ref sr), some (.ref du), some (.ref hr), some (.ref p), a5, a6, a7, a8, a9, a10, a11] h') :
    (evS G__law_mixed (.fors (.one 5) (.val (.loc 4)) (.cons (.ite (.nt (.call "_law_same" (.cons (.call "_law_at" (.cons (.loc 3) (.cons (.loc 5) .nil))) (.cons (.tup (.cons (.cst (.str ['o', 'r', 'd', 'e', 'r'])) (.cons (.sub (.loc 2) (.loc 5)) .nil))) .nil)))) (.cons (.ret (.cst (.bl false))) .nil) .nil) (.cons (.ite (.nt (.call "_law_same" (.cons (.call "_law_number" (.cons (.loc 3) (.cons (.blt .list (.cons (.sub (.loc 2) (.loc 5)) .nil)) .nil))) (.cons (.tup (.cons (.cst (.str ['n', 'u', 'm', 'b', 'e', 'r'])) (.cons (.loc 5) .nil))) .nil)))) (.cons (.ret (.cst (.bl false))) .nil) .nil) .nil))) [some (.ref n), some (.ref sr), some (.ref du), some (.ref hr), some (.ref p), a5, a6, a7, a8, a9, a10, a11] h).sat Qs Es := by
  rw [ws_for]
  simp only [w_val, w_loc, List.getElem?_cons_zero, List.getElem?_cons_succ, itK_ref, lget_lst gp, Option.isSome_some, true_and]
  refine sat_forL (lget_lst gp) (I := fun i fr h1 => Sx n c sr du hr w rs h1 ∧ FL.Kept [] h h1 ∧ ∃ a5, fr = [some (.ref n), some (.ref sr), some (.ref du), some (.ref hr), some (.ref p), a5, a6, a7, a8, a9, a10, a11]) ⟨S, FL.Kept.refl _ _, _, rfl⟩ (fun i fr h1 z => lget_lst (z.2.1.at gp (by simp))) ?_ ?_
  · rintro i x fr h1 hx ⟨S1, k1, a5, rfl⟩
    obtain ⟨k, rfl, hk⟩ := pp x (List.mem_of_getElem? hx)
    refine ⟨_, rfl, ?_⟩
    obtain ⟨t, et⟩ : ∃ t, (ords w (List.range w.length))[k]? = some t := ⟨_, List.getElem?_eq_getElem hk⟩
    have ot := K.ok t (List.mem_of_getElem? et)
    have hw12 : w.length ≤ 12 := by have := K.w6; omega
    simp
    refine sat_to (at_tp hw12 (lget_lst S1.gh) et) ?_
    rintro _ h2 ⟨ro, rfl, k2, g2⟩
    have S2 := S1.keep k2
    obtain ⟨r, er, hr'⟩ := S2.sd.ix et
    rw [v_ix_l (lget_lst S2.gd), atI_nat, List.getElem?_map, er, Option.map_some, atK_some]
    refine same_ord rfl rfl (lget_lst g2) (lget_lst hr') ot.1 (by have := K.w6; omega) fun h3 k3 => ?_
    rw [blK_bl, if_pos rfl]
    have S3 := S2.keep k3
    have hr3 := k3.at hr' (by simp)
    rw [v_ix_l (lget_lst S3.gd), atI_nat, List.getElem?_map, er, Option.map_some, atK_some]
    rw [v_list (lget_lst hr3)]
    have k4 := (FL.Kept.refl [] h3).app [MO.lst (encs t)]
    have S4 := S3.keep k4
    refine sat_to (number_tp hw12 (lget_lst S4.gh) (lget_lst get_new) (itl_encs t)) ?_
    rintro _ h5 ⟨rfl, k5⟩
    rw [K.key k t et]
    refine same_num rfl rfl fun h6 k6 => ?_
    exact ⟨S4.keep (k5.trans k6), ((((k1.trans k2).trans k3).trans k4).trans k5).trans k6⟩
  · rintro fr h1 ⟨S1, k1, a5, rfl⟩
    exact q _ _ S1 k1
theorem loop2_sp (K : Kn w) (S : Sx n c sr du hr w rs h)
    (q : ∀ a6 h', Sx n c sr du hr w rs h' → FL.Kept [] h h' → Qs .nx [some (.ref n), some (.ref sr), some (.ref du), some (.ref hr), some (.ref p), a5, a6, a7, a8, a9, a10, a11] h') :
    (evS G__law_mixed (.fors (.one 6) (.val (.lst (.cons (.neg (.cst (.int 1))) (.cons (.blt .len (.cons (.loc 2) .nil)) (.cons (.bin .Add (.blt .len (.cons (.loc 2) .nil)) (.cst (.int 5))) (.cons (.cst (.bl true)) (.cons (.cst .non) (.cons (.cst (.str ['0'])) .nil)))))))) (.cons (.ite (.nt (.call "_law_same" (.cons (.call "_law_at" (.cons (.loc 3) (.cons (.loc 6) .nil))) (.cons (.tup (.cons (.cst (.str ['B', 'a', 'd', 'N', 'u', 'm', 'b', 'e', 'r'])) (.cons (.loc 6) .nil))) .nil)))) (.cons (.ret (.cst (.bl false))) .nil) .nil) .nil)) [some (.ref n), some (.ref sr), some (.ref du), some (.ref hr), some (.ref p), a5, a6, a7, a8, a9, a10, a11] h).sat Qs Es := by
  have dlen := S.sd.len
  rw [ws_for]
  simp [v_len_l (lget_lst S.gd), dlen]
  have k0 := (FL.Kept.refl [] h).app [MO.lst [.int (-1), .int (ords w (List.range w.length)).length, .int ((ords w (List.range w.length)).length + 5), .bl true, .non, .str ['0']]]
  have g0 : (h ++ [MO.lst [PV.int (-1), .int (ords w (List.range w.length)).length, .int ((ords w (List.range w.length)).length + 5), .bl true, .non, .str ['0']]])[h.length]? = some (.lst [PV.int (-1), .int (ords w (List.range w.length)).length, .int ((ords w (List.range w.length)).length + 5), .bl true, .non, .str ['0']]) := get_new
  have S0 := S.keep k0
  generalize h ++ [MO.lst [PV.int (-1), .int (ords w (List.range w.length)).length, .int ((ords w (List.range w.length)).length + 5), .bl true, .non, .str ['0']]] = h0 at k0 g0 S0 ⊢
  have hl : (lget h0 h.length).isSome = true := by rw [lget_lst g0]; rfl
  refine ⟨hl, ?_⟩
  refine sat_forL (lget_lst g0) (I := fun i fr h1 => Sx n c sr du hr w rs h1 ∧ FL.Kept [] h0 h1 ∧ ∃ a6, fr = [some (.ref n), some (.ref sr), some (.ref du), some (.ref hr), some (.ref p), a5, a6, a7, a8, a9, a10, a11]) ⟨S0, FL.Kept.refl _ _, _, rfl⟩ (fun i fr h1 z => lget_lst (z.2.1.at g0 (by simp))) ?_ ?_
  · rintro i x fr h1 hx ⟨S1, k1, a6, rfl⟩
    have hb : badNo w x ∧ flatP x := by
      have hm := List.mem_of_getElem? hx
      have ecn := K.ecn
      simp at hm
      rcases hm with rfl | rfl | rfl | rfl | rfl | rfl
      · exact ⟨by show ¬ _; omega, trivial⟩
      · exact ⟨by show ¬ _; omega, trivial⟩
      · exact ⟨by show ¬ _; omega, trivial⟩
      · exact ⟨trivial, trivial⟩
      · exact ⟨trivial, trivial⟩
      · exact ⟨trivial, trivial⟩
    refine ⟨_, rfl, ?_⟩
    have hw12 : w.length ≤ 12 := by have := K.w6; omega
    simp
    refine sat_to (at_tn hw12 (lget_lst S1.gh) hb.1) ?_
    rintro _ h2 ⟨rfl, k2⟩
    refine same_bad (z := x) hb.2 rfl rfl fun h3 k3 => ?_
    exact ⟨S1.keep (k2.trans k3), (k1.trans k2).trans k3⟩
  · rintro fr h1 ⟨S1, k1, a6, rfl⟩
    exact q _ _ S1 (k0.trans k1)
end
/-- a list of lists that may be orders -/
def Stg (n : Nat) (h : MH) (ss : List Nat) : Prop := ∀ r ∈ ss, r ≠ n ∧ ∃ l : List It, h[r]? = some (.lst (itvs l))
theorem Stg.keep {n : Nat} {h h' : MH} {ss : List Nat} (s : Stg n h ss) (k : FL.Kept [n] h h') : Stg n h' ss := fun r hr => by
  obtain ⟨h1, l, h2⟩ := s r hr
  exact ⟨h1, l, k.at h2 (by simpa using h1)⟩
theorem Sx.dr {n c sr du hr : Nat} {w : List Stp} {rs : List Nat} {h h' : MH} (s : Sx n c sr du hr w rs h) (r : Dr n c h h') (h1 : sr ≠ n) (h2 : du ≠ n) (h3 : hr ≠ n) (h4 : ∀ q ∈ rs, q ≠ n) : Sx n c sr du hr w rs h' :=
  ⟨r.k.at s.g (by simpa using h1), r.k.at s.gd (by simpa using h2), s.sd.keep r.k (fun q hq => by simpa using h4 q hq), r.k.at s.gh (by simpa using h3), r.d⟩
theorem encs_its (l : List Stp) : encs l = itvs (l.map It.st) := by
  unfold encs itvs; rw [List.map_map]; rfl
section
variable {h : MH} {n c sr du hr p st : Nat} {w : List Stp} {rs : List Nat} {a5 a6 a8 a9 a10 a11 : Option PV} {Qs : Fl → Fr → MH → Prop} {Es : Exc → Fr → MH → Prop}
theorem loop3_sp {ss : List Nat} (K : Kn w) (S : Sx n c sr du hr w rs h) (hn : sr ≠ n ∧ du ≠ n ∧ hr ≠ n ∧ ∀ q ∈ rs, q ≠ n) (gs : h[st]? = some (.lst (ss.map PV.ref))) (hst : st ≠ n ∧ st ≠ c ∧ st ≠ sr ∧ st ≠ du ∧ st ≠ hr ∧ st ∉ rs ∧ st ∉ ss) (hss : ss.length ≤ 100) (os : Stg n h ss)
    (q : ∀ a8 ss' h', Sx n c sr du hr w rs h' → h'[st]? = some (.lst (ss'.map PV.ref)) → Stg n h' ss' → ss'.length ≤ 104 → Qs .nx [some (.ref n), some (.ref sr), some (.ref du), some (.ref hr), some (.ref p), a5, a6, some (.ref st), a8, a9, a10, a11] h') :
    (evS G__law_mixed (.fors (.one 8) (.rng1 (.cst (.int 4))) (.cons (.expr (.mth .append (.loc 7) (.cons (.call "_law_mixed" (.cons (.loc 0) (.cons (.loc 1) .nil))) .nil))) .nil)) [some (.ref n), some (.ref sr), some (.ref du), some (.ref hr), some (.ref p), a5, a6, some (.ref st), a8, a9, a10, a11] h).sat Qs Es := by
  rw [ws_for]
  simp only [w_rng1, w_cst]
  refine ⟨okR_nat (n := 4) (by omega), ?_⟩
  refine sat_forS (fun i fr h1 => Sx n c sr du hr w rs h1 ∧ h.length ≤ h1.length ∧ (∃ ss' : List Nat, h1[st]? = some (.lst (ss'.map PV.ref)) ∧ Stg n h1 ss' ∧ ss'.length ≤ 100 + i ∧ st ∉ ss') ∧ ∃ a8, fr = [some (.ref n), some (.ref sr), some (.ref du), some (.ref hr), some (.ref p), a5, a6, some (.ref st), a8, a9, a10, a11]) ⟨S, Nat.le_refl _, ⟨ss, gs, os, by omega, hst.2.2.2.2.2.2⟩, _, rfl⟩ ?_ ?_
  · rintro i x fr h1 hx ⟨S1, hl1, ⟨ss', gs1, os1, hs1, ns1⟩, a8, rfl⟩
    obtain ⟨rfl, hi⟩ := nats_at hx
    have hi4 : i < 4 := hi
    refine ⟨_, rfl, ?_⟩
    simp [kind_l (lget_lst gs1), -v_append]
    refine sat_to (mixed_sp S1.d (lget_lst S1.g) (by have := K.w6; omega)) ?_
    rintro _ h2 ⟨r, w', rfl, g2, hr2, lw, mw, r2⟩
    have S2 := S1.dr r2 hn.1 hn.2.1 hn.2.2.1 hn.2.2.2
    have gs2 := r2.k.at gs1 (by simpa using hst.1)
    have hsl := (List.getElem?_eq_some_iff.mp gs1).1
    have hnl := S1.d.lt.1
    rw [v_append, wl_lst gs2]
    have kk : FL.Kept [st] h2 (h2.set st (.lst (ss'.map PV.ref ++ [.ref r]))) := (FL.Kept.refl [st] h2).setIn (by simp) _
    have hlen2 : h1.length ≤ h2.length := r2.k.len
    refine ⟨by simp; unfold big; omega, ⟨kk.at S2.g (by simpa using fun z => hst.2.2.1 z.symm), kk.at S2.gd (by simpa using fun z => hst.2.2.2.1 z.symm), S2.sd.keep kk (fun q hq => by simp; exact fun z => hst.2.2.2.2.2.1 (z ▸ hq)), kk.at S2.gh (by simpa using fun z => hst.2.2.2.2.1 z.symm), S2.d.set _ hst.1 hst.2.1⟩, by simp; omega, ss' ++ [r], ?_, ?_, by simp; omega, ?_⟩
    · rw [get_set gs2]; simp
    · intro q hq
      rcases List.mem_append.mp hq with z | z
      · obtain ⟨a1, l, a2⟩ := (os1.keep r2.k) q z
        exact ⟨a1, l, kk.at a2 (by simp; exact fun y => ns1 (y ▸ z))⟩
      · simp at z; subst z
        exact ⟨by omega, w'.map It.st, by rw [← encs_its]; exact kk.at g2 (by simp; omega)⟩
    · intro z
      rcases List.mem_append.mp z with y | y
      · exact ns1 y
      · simp at y; omega
  · rintro fr h1 ⟨S1, hl1, ⟨ss', gs1, os1, hs1, ns1⟩, a8, rfl⟩
    exact q _ ss' _ S1 gs1 os1 (by have : (nats 0 (Int.toNat 4)).length = 4 := by rw [nats_len]; rfl
                                   omega)
theorem loop4_sp {ss : List Nat} (K : Kn w) (S : Sx n c sr du hr w rs h) (gs : h[st]? = some (.lst (ss.map PV.ref))) (os : Stg n h ss)
    (q : ∀ a9 a10 h', Sx n c sr du hr w rs h' → Qs .nx [some (.ref n), some (.ref sr), some (.ref du), some (.ref hr), some (.ref p), a5, a6, some (.ref st), a8, a9, a10, a11] h') :
    (evS G__law_mixed (.fors (.one 9) (.val (.loc 7)) (.cons (.asg 10 (.tup (.cons (.cst (.str ['N', 'o', 't', 'A', 'n', 'O', 'r', 'd', 'e', 'r'])) .nil))) (.cons (.ite (.cmp .In (.loc 9) (.loc 2)) (.cons (.asg 10 (.tup (.cons (.cst (.str ['n', 'u', 'm', 'b', 'e', 'r'])) (.cons (.mth .index (.loc 2) (.cons (.loc 9) .nil)) .nil)))) .nil) .nil) (.cons (.ite (.nt (.call "_law_same" (.cons (.call "_law_number" (.cons (.loc 3) (.cons (.loc 9) .nil))) (.cons (.loc 10) .nil)))) (.cons (.ret (.cst (.bl false))) .nil) .nil) .nil)))) [some (.ref n), some (.ref sr), some (.ref du), some (.ref hr), some (.ref p), a5, a6, some (.ref st), a8, a9, a10, a11] h).sat Qs Es := by
  rw [ws_for]
  simp only [w_val, w_loc, List.getElem?_cons_zero, List.getElem?_cons_succ, itK_ref, lget_lst gs, Option.isSome_some, true_and]
  refine sat_forL (lget_lst gs) (I := fun i fr h1 => Sx n c sr du hr w rs h1 ∧ FL.Kept [] h h1 ∧ ∃ a9 a10, fr = [some (.ref n), some (.ref sr), some (.ref du), some (.ref hr), some (.ref p), a5, a6, some (.ref st), a8, a9, a10, a11]) ⟨S, FL.Kept.refl _ _, _, _, rfl⟩ (fun i fr h1 z => lget_lst (z.2.1.at gs (by simp))) ?_ ?_
  · rintro i x fr h1 hx ⟨S1, k1, a9, a10, rfl⟩
    obtain ⟨r, hr', rfl⟩ : ∃ r, r ∈ ss ∧ x = .ref r := by
      have := List.mem_of_getElem? hx
      obtain ⟨r, h1, h2⟩ := List.mem_map.mp this
      exact ⟨r, h1, h2.symm⟩
    obtain ⟨hrn, l, hl⟩ := os r hr'
    have hl1 := k1.at hl (by simp)
    refine ⟨_, rfl, ?_⟩
    have hw12 : w.length ≤ 12 := by have := K.w6; omega
    simp [in_due S1.gd S1.sd (lget_lst hl1)]
    rcases first_in (D := ords w (List.range w.length)) (l := l) with ⟨j, t, ej, et, e⟩ | hno
    · have hex : ∃ t, t ∈ ords w (List.range w.length) ∧ t.map some = l.map ito := ⟨t, List.mem_of_getElem? et, e⟩
      rw [if_pos hex]
      simp only [kind_l (lget_lst S1.gd)]
      refine ⟨rfl, ?_⟩
      rw [ix_due S1.gd S1.sd (lget_lst hl1) ej]
      refine sat_to (number_tp hw12 (lget_lst S1.gh) (lget_lst hl1) (itl_its l)) ?_
      rintro _ h2 ⟨rfl, k2⟩
      rw [rnk_in et e]
      refine same_num rfl rfl fun h3 k3 => ?_
      exact ⟨S1.keep (k2.trans k3), (k1.trans k2).trans k3⟩
    · have hex : ¬ ∃ t, t ∈ ords w (List.range w.length) ∧ t.map some = l.map ito := fun ⟨t, a, b⟩ => hno t a b
      rw [if_neg hex]
      refine sat_to (number_tp hw12 (lget_lst S1.gh) (lget_lst hl1) (itl_its l)) ?_
      rintro _ h2 ⟨rfl, k2⟩
      rw [rnk_out hno]
      refine same_not rfl rfl fun h3 k3 => ?_
      exact ⟨S1.keep (k2.trans k3), (k1.trans k2).trans k3⟩
  · rintro fr h1 ⟨S1, k1, a9, a10, rfl⟩
    exact q _ _ _ S1
end
theorem atI_lastE {w : List Stp} (h : 0 < w.length) : ∃ z, L2.atI (encs w) (-1) = some (enc z) := by
  have e : w[w.length - 1]? = some (w[w.length - 1]'(by omega)) := List.getElem?_eq_getElem _
  have e2 : L2.ixN (encs w).length (-1) = some (w.length - 1) := by
    unfold L2.ixN
    rw [encs_len, if_neg (by omega), if_pos (by omega)]
    congr 1
    omega
  refine ⟨w[w.length - 1]'(by omega), ?_⟩
  unfold L2.atI
  rw [e2]
  show (encs w)[w.length - 1]? = _
  unfold encs
  rw [List.getElem?_map, e]; rfl
def restS : CSs := match c__law_small with
  | .cons _ (.cons _ r) => r
  | r => r
section
variable {h : MH} {Q : PV → MH → Prop} {E : Exc → MH → Prop}
theorem rest_sp {n c sr : Nat} {w : List Stp} (d : Dk n c h) (g : h[sr]? = some (.lst (encs w))) (hsr : sr ≠ n) (hw : w.length ≤ 6) (ow : ∀ s ∈ w, okS s) :
    (evSs G__law_mixed restS [some (.ref n), some (.ref sr), none, none, none, none, none, none, none, none, none, none] h).sat (outK fun v _ => v = .bl true) (fun c _ h => noE c h) := by
  have hlt := d.lt
  unfold restS c__law_small
  dsimp only
  simp only [ssat_cons, ws_asg, w_call, q__law_small__law_orders, w_blt, w_es, w_es0, w_loc, List.getElem?_cons_zero, List.getElem?_cons_succ, List.set_cons_zero, List.set_cons_succ, sqK_nx]
  refine sat_to (orders_sp (lget_lst g) hw ow) ?_
  rintro _ h1 ⟨du, rs, rfl, gd, sd, hdu, hrs, k1⟩
  have hD0 : ∃ T0, (ords w (List.range w.length))[0]? = some T0 := by
    have : w ∈ ords w (List.range w.length) := by
      have := ord_self (w := w) (R := List.range w.length) (n := (List.range w.length).length) rfl List.pairwise_lt_range
      rw [stp_map] at this; exact this
    exact ⟨_, List.getElem?_eq_getElem (List.length_pos_of_mem this)⟩
  have hD1 : (ords w (List.range w.length)).length ≤ 720 := by
    have h2 := ord_len (w := w) (R := List.range w.length) rfl
    rw [List.length_range] at h2
    have h3 := fac6 hw
    unfold ords
    rw [List.length_range]
    omega
  have oD : ∀ t ∈ ords w (List.range w.length), (∀ s ∈ t, okS s) ∧ t.length = w.length := fun t ht => by
    have hr := ord_reach rfl List.pairwise_lt_range ht
    rw [stp_map] at hr
    exact ⟨fun s hs => ow s (rch_mem hr s hs), rch_len hr⟩
  have ecn : cn w 0 = (ords w (List.range w.length)).length := by unfold cn; rw [U_0]; rfl
  have hw12 : w.length ≤ 12 := by omega
  obtain ⟨T0, eT0⟩ := hD0
  have hbad : ∀ x : PV, (match x with | .int i => ¬(0 ≤ i ∧ i < ((ords w (List.range w.length)).length : Nat)) | .bl _ => True | .non => True | .str _ => True | _ => False) → badNo w x := fun x hx => by
    cases x <;> first | exact hx | skip
    show ¬ _
    rw [ecn]; exact hx
  have dlen := sd.len
  have key : ∀ (j : Nat) (t : List Stp), (ords w (List.range w.length))[j]? = some t → rnk w (t.map some) = some j := fun j t hj => by
    unfold rnk
    rw [if_pos (by rw [List.length_map]; exact (oD t (List.mem_of_getElem? hj)).2), rk_nth List.nodup_range hj]
  have g1 := k1.at g (by simp)
  have d1 := d.keep0 k1
  have hnd : du ≠ n := by omega
  have hnr : ∀ q ∈ rs, q ≠ n := fun q hq z => by have := hrs q hq; omega
  rw [v_list (lget_lst g1)]
  have k2 := (FL.Kept.refl [] h1).app [MO.lst (encs w)]
  have g2 := k2.at g1 (by simp)
  have gd2 := k2.at gd (by simp)
  have sd2 := sd.keep k2 (by simp)
  have d2 := d1.keep0 k2
  have gh2 : (h1 ++ [MO.lst (encs w)])[h1.length]? = some (.lst (encs w)) := get_new
  have hh1 := k1.len
  have hnh : h1.length ≠ n := by omega
  generalize h1 ++ [MO.lst (encs w)] = h2 at k2 g2 gd2 sd2 d2 gh2 ⊢
  generalize h1.length = hr at gh2 hnh ⊢
  clear gd sd d1 g1 k1 k2 hh1
  simp only [ws_ite, w_nt, w_call, q__law_small__law_same, q__law_small__law_counted, w_es, w_es0, w_tup, w_cst, w_blt, w_loc, List.getElem?_cons_zero, List.getElem?_cons_succ]
  refine sat_to (counted_sp hw12 (lget_lst gh2)) ?_
  rintro _ h3 ⟨rfl, k3⟩
  rw [v_len_l (lget_lst (k3.at gd2 (by simp))), List.length_map, dlen, ecn]
  refine ⟨by simp, ?_⟩
  refine same_cnt rfl rfl fun h4 k4 => ?_
  have k4' := k3.trans k4
  have g4 := k4'.at g2 (by simp)
  have gd4 := k4'.at gd2 (by simp)
  have sd4 := sd2.keep k4' (by simp)
  have d4 := d2.keep0 k4'
  have gh4 := k4'.at gh2 (by simp)
  clear g2 gd2 sd2 d2 gh2 k3 k4 k4'
  simp only [blK_bl, Bool.not_true, Bool.false_eq_true, if_false, ssat_nil, sqK_nx]
  simp only [ws_ite, w_nt, w_call, q__law_small__law_same, q__law_small__law_least, w_es, w_es0, w_tup, w_cst, FL.w_sub, w_loc, List.getElem?_cons_zero, List.getElem?_cons_succ]
  refine sat_to (least_tp hw12 (lget_lst gh4) eT0) ?_
  rintro _ h5 ⟨ro, rfl, k5, g5o⟩
  have gd5 := k5.at gd4 (by simp)
  have sd5 := sd4.keep k5 (by simp)
  obtain ⟨r0, er0, hr0⟩ := sd5.ix eT0
  rw [v_ix_l (lget_lst gd5), atI_0, List.getElem?_map, er0, Option.map_some, atK_some]
  refine ⟨by simp, ?_⟩
  have oT0 := oD T0 (List.mem_of_getElem? eT0)
  refine same_ord rfl rfl (lget_lst g5o) (lget_lst hr0) oT0.1 (by omega) fun h6 k6 => ?_
  have k6' := k5.trans k6
  have g6 := k6'.at g4 (by simp)
  have gd6 := k6'.at gd4 (by simp)
  have sd6 := sd4.keep k6' (by simp)
  have d6 := d4.keep0 k6'
  have gh6 := k6'.at gh4 (by simp)
  clear g4 gd4 sd4 d4 gh4 k5 k6 k6' g5o gd5 sd5 hr0
  simp only [blK_bl, Bool.not_true, Bool.false_eq_true, if_false, ssat_nil, sqK_nx]
  simp only [ws_asg, w_bin, w_lc, w_rng1, w_cst]
  refine ⟨okR_nat (n := 6) (by omega), ?_⟩
  refine sat_lcD (P := fun v => ∃ k : Nat, v = .int k ∧ k < (ords w (List.range w.length)).length) d6 (by rw [nats_len]; unfold big; omega) ?_ ?_
  · intro x hx h7 r7
    refine sat_lcStep rfl ?_
    have gd7 := r7.k.at gd6 (by simpa using hnd)
    have hpos := (List.getElem?_eq_some_iff.mp eT0).1
    simp [wipeF, v_len_l (lget_lst gd7), dlen]
    refine sat_to (draw_sp r7.d (by omega)) ?_
    rintro _ h8 ⟨k, rfl, hk, r8⟩
    exact ⟨⟨k, by simp, by omega⟩, r8⟩
  intro h7 pl r7 gp lp pp
  have g7 := r7.k.at g6 (by simpa using hsr)
  have gd7 := r7.k.at gd6 (by simpa using hnd)
  have sd7 := sd6.keep r7.k (fun q hq => by simpa using hnr q hq)
  have gh7 := r7.k.at gh6 (by simpa using hnh)
  have d7 := r7.d
  rw [nats_len] at lp
  clear g6 gd6 sd6 gh6
  simp only [w_lst, w_es, w_es0, w_cst, w_bin, w_blt, w_loc, List.getElem?_cons_zero, List.getElem?_cons_succ, v_len_l (lget_lst gd7), List.length_map, dlen, v_sub_i]
  have hpos := (List.getElem?_eq_some_iff.mp eT0).1
  have em : ((ords w (List.range w.length)).length : Int) - 1 = (((ords w (List.range w.length)).length - 1 : Nat) : Int) := by omega
  refine ⟨by simp, ?_⟩
  have k8 := (FL.Kept.refl [] h7).app [MO.lst [PV.int 0, .int ((ords w (List.range w.length)).length - 1)]]
  have l6 : pl.length = 6 := lp
  rw [v_add_l (wl_lst (k8.at gp (by simp))) (wl_lst get_new) (by simp; unfold big; omega)]
  have k8' := k8.app [MO.lst (pl ++ [PV.int 0, .int ((ords w (List.range w.length)).length - 1)])]
  have gp8 : (h7 ++ [MO.lst [PV.int 0, .int ((ords w (List.range w.length)).length - 1)]] ++ [MO.lst (pl ++ [PV.int 0, .int ((ords w (List.range w.length)).length - 1)])])[(h7 ++ [MO.lst [PV.int 0, .int ((ords w (List.range w.length)).length - 1)]]).length]? = some (.lst (pl ++ [PV.int 0, .int ((ords w (List.range w.length)).length - 1)])) := get_new
  have S7 : Sx n c sr du hr w rs h7 := ⟨g7, gd7, sd7, gh7, d7⟩
  have S8 := S7.keep k8'
  have K : Kn w := ⟨hw, hD1, oD, ecn, key⟩
  have hnl := d7.lt.1
  generalize h7 ++ [MO.lst [PV.int 0, .int ((ords w (List.range w.length)).length - 1)]] ++ [MO.lst (pl ++ [PV.int 0, .int ((ords w (List.range w.length)).length - 1)])] = h8 at gp8 k8' S8 ⊢
  generalize (h7 ++ [MO.lst [PV.int 0, .int ((ords w (List.range w.length)).length - 1)]]).length = p at gp8 ⊢
  have pp' : ∀ v ∈ pl ++ [PV.int 0, .int ((ords w (List.range w.length)).length - 1)], ∃ k : Nat, v = .int k ∧ k < (ords w (List.range w.length)).length := by
    intro v hv
    rcases List.mem_append.mp hv with z | z
    · exact pp v z
    · simp at z
      rcases z with rfl | rfl
      · exact ⟨0, rfl, hpos⟩
      · exact ⟨(ords w (List.range w.length)).length - 1, by rw [em], by omega⟩
  simp only [List.set_cons_zero, List.set_cons_succ]
  refine loop1_sp K S8 gp8 pp' fun a5 h9 S9 k9 => ?_
  simp only [sqK_nx]
  refine loop2_sp K S9 fun a6 h10 S10 k10 => ?_
  have hnl10 := S10.d.lt
  have hl78 := k8'.len
  clear gp8 k9 k10 k8' k8 gp pp pp' r7 d7 g7 gd7 gh7 sd7 S7 S8 S9
  simp
  rw [v_list (lget_lst S10.g)]
  have kA := (FL.Kept.refl [] h10).app [MO.lst (encs w)]
  have gA : (h10 ++ [MO.lst (encs w)])[h10.length]? = some (.lst (encs w)) := get_new
  generalize h10 ++ [MO.lst (encs w)] = hA at kA gA ⊢
  have kA1 := (FL.Kept.refl [] hA).app [MO.lst [PV.tup [.str ['a', 'd', 'd', 't', 'a', 'b', 'l', 'e'], .str ['z']]]]
  rw [v_add_l (wl_lst (kA1.at gA (by simp))) (wl_lst get_new) (by rw [encs_len]; simp; unfold big; omega)]
  have kB := ((kA.trans kA1).app [MO.lst (encs w ++ [PV.tup [.str ['a', 'd', 'd', 't', 'a', 'b', 'l', 'e'], .str ['z']]])])
  have gB : (hA ++ [MO.lst [PV.tup [.str ['a', 'd', 'd', 't', 'a', 'b', 'l', 'e'], .str ['z']]]] ++ [MO.lst (encs w ++ [PV.tup [.str ['a', 'd', 'd', 't', 'a', 'b', 'l', 'e'], .str ['z']]])])[(hA ++ [MO.lst [PV.tup [.str ['a', 'd', 'd', 't', 'a', 'b', 'l', 'e'], .str ['z']]]]).length]? = some (.lst (itvs (w.map It.st ++ [.st (.addT ['z'])]))) := by
    rw [get_new]
    simp [itvs, encs, itv, enc]
  have lrA : h10.length ≤ (hA ++ [MO.lst [PV.tup [.str ['a', 'd', 'd', 't', 'a', 'b', 'l', 'e'], .str ['z']]]]).length := (kA.trans kA1).len
  generalize hA ++ [MO.lst [PV.tup [.str ['a', 'd', 'd', 't', 'a', 'b', 'l', 'e'], .str ['z']]]] ++ [MO.lst (encs w ++ [PV.tup [.str ['a', 'd', 'd', 't', 'a', 'b', 'l', 'e'], .str ['z']]])] = hB at kB gB ⊢
  generalize (hA ++ [MO.lst [PV.tup [.str ['a', 'd', 'd', 't', 'a', 'b', 'l', 'e'], .str ['z']]]]).length = rA at gB lrA ⊢
  have SB := S10.keep kB
  rw [v_list (lget_lst SB.g), slc_l (lget_lst get_new), show (some (1 : Int)) = some ((1 : Nat) : Int) from rfl, cut_drop]
  have kC := ((FL.Kept.refl [] hB).app [MO.lst (encs w)]).app [MO.lst ((encs w).drop 1)]
  have gC : (hB ++ [MO.lst (encs w)] ++ [MO.lst ((encs w).drop 1)])[(hB ++ [MO.lst (encs w)]).length]? = some (.lst ((encs w).drop 1)) := get_new
  have gBC := kC.at gB (by simp)
  have SC := SB.keep kC
  have lC := (kB.trans kC).len
  generalize hB ++ [MO.lst (encs w)] ++ [MO.lst ((encs w).drop 1)] = hC at kC gC gBC SC lC ⊢
  generalize (hB ++ [MO.lst (encs w)]).length = rC at gC ⊢
  have kD := (FL.Kept.refl [] hC).app [MO.lst [PV.tup [.str ['n', 'a', 'm', 'e', 't', 'a', 'b', 'l', 'e'], .str ['y'], .str ['z']]]]
  rw [v_add_l (wl_lst (kD.at gC (by simp))) (wl_lst get_new) (by rw [List.length_drop, encs_len]; simp; unfold big; omega)]
  have kE := kD.app [MO.lst ((encs w).drop 1 ++ [PV.tup [.str ['n', 'a', 'm', 'e', 't', 'a', 'b', 'l', 'e'], .str ['y'], .str ['z']]])]
  have gE : (hC ++ [MO.lst [PV.tup [.str ['n', 'a', 'm', 'e', 't', 'a', 'b', 'l', 'e'], .str ['y'], .str ['z']]]] ++ [MO.lst ((encs w).drop 1 ++ [PV.tup [.str ['n', 'a', 'm', 'e', 't', 'a', 'b', 'l', 'e'], .str ['y'], .str ['z']]])])[(hC ++ [MO.lst [PV.tup [.str ['n', 'a', 'm', 'e', 't', 'a', 'b', 'l', 'e'], .str ['y'], .str ['z']]]]).length]? = some (.lst (itvs ((w.drop 1).map It.st ++ [.st (.namT ['y'] ['z'])]))) := by
    rw [get_new, show (encs w).drop 1 = encs (w.drop 1) by unfold encs; rw [List.map_drop], encs_its]
    simp [itvs, itv, enc]
  have lE : h10.length ≤ (hC ++ [MO.lst [PV.tup [.str ['n', 'a', 'm', 'e', 't', 'a', 'b', 'l', 'e'], .str ['y'], .str ['z']]]]).length := Nat.le_trans lC kD.len
  have gBE := kE.at gBC (by simp)
  have SE := SC.keep kE
  generalize hC ++ [MO.lst [PV.tup [.str ['n', 'a', 'm', 'e', 't', 'a', 'b', 'l', 'e'], .str ['y'], .str ['z']]]] ++ [MO.lst ((encs w).drop 1 ++ [PV.tup [.str ['n', 'a', 'm', 'e', 't', 'a', 'b', 'l', 'e'], .str ['y'], .str ['z']]])] = hE at kE gE gBE SE ⊢
  generalize (hC ++ [MO.lst [PV.tup [.str ['n', 'a', 'm', 'e', 't', 'a', 'b', 'l', 'e'], .str ['y'], .str ['z']]]]).length = rB at gE lE ⊢
  have lhE : h10.length ≤ hE.length := Nat.le_trans lC kE.len
  have kF := (FL.Kept.refl [] hE).app [MO.lst [PV.non], MO.lst [PV.str ['a'], PV.tup []], MO.lst [PV.ref rA, PV.ref rB, PV.ref hE.length, PV.ref (hE.length + 1)]]
  have f0 : (hE ++ [MO.lst [PV.non], MO.lst [PV.str ['a'], PV.tup []], MO.lst [PV.ref rA, PV.ref rB, PV.ref hE.length, PV.ref (hE.length + 1)]])[hE.length]? = some (.lst (itvs [.no])) := by
    rw [List.getElem?_append_right (Nat.le_refl _), Nat.sub_self]; rfl
  have f1 : (hE ++ [MO.lst [PV.non], MO.lst [PV.str ['a'], PV.tup []], MO.lst [PV.ref rA, PV.ref rB, PV.ref hE.length, PV.ref (hE.length + 1)]])[hE.length + 1]? = some (.lst (itvs [.tx ['a'], .em])) := by
    rw [List.getElem?_append_right (by omega), Nat.add_sub_cancel_left]; rfl
  have f2 : (hE ++ [MO.lst [PV.non], MO.lst [PV.str ['a'], PV.tup []], MO.lst [PV.ref rA, PV.ref rB, PV.ref hE.length, PV.ref (hE.length + 1)]])[hE.length + 1 + 1]? = some (.lst ([rA, rB, hE.length, hE.length + 1].map PV.ref)) := by
    rw [List.getElem?_append_right (by omega), show hE.length + 1 + 1 - hE.length = 2 by omega]; rfl
  have SF := SE.keep kF
  have gAF := kF.at gBE (by simp)
  have gEF := kF.at gE (by simp)
  have ltr : ∀ q ∈ rs, q < h10.length := fun q hq => S10.sd.lt hq
  have lsr := (List.getElem?_eq_some_iff.mp S10.g).1
  have ldu := (List.getElem?_eq_some_iff.mp S10.gd).1
  have lhr := (List.getElem?_eq_some_iff.mp S10.gh).1
  have hrA := (List.getElem?_eq_some_iff.mp gBE).1
  have hrB := (List.getElem?_eq_some_iff.mp gE).1
  generalize hE ++ [MO.lst [PV.non], MO.lst [PV.str ['a'], PV.tup []], MO.lst [PV.ref rA, PV.ref rB, PV.ref hE.length, PV.ref (hE.length + 1)]] = hF at kF f0 f1 f2 SF gAF gEF ⊢
  have strF : Stg n hF [rA, rB, hE.length, hE.length + 1] := by
    intro r hr
    simp at hr
    rcases hr with rfl | rfl | rfl | rfl
    · exact ⟨by omega, _, gAF⟩
    · exact ⟨by omega, _, gEF⟩
    · exact ⟨by omega, _, f0⟩
    · exact ⟨by omega, _, f1⟩
  refine loop3_sp K SF ⟨hsr, hnd, hnh, hnr⟩ f2 ⟨by omega, by omega, by omega, by omega, by omega, fun z => by have := ltr _ z; omega, by simp; omega⟩ (by simp) strF fun a8 ss hG SG gG oG lG => ?_
  simp only [sqK_nx, List.getElem?_cons_zero, List.getElem?_cons_succ]
  have fin : ∀ hZ, Sx n c sr du hr w rs hZ → (F__law_same [.ref hr, .ref sr] hZ).sat (fun v _ => v = .bl true) noE := fun hZ SZ => by
    have := dszs_dat ow
    refine sat_to (same_sp ⟨⟨_, snap_lst (m := 0) (lget_lst SZ.gh)⟩, _, snap_lst (m := 0) (lget_lst SZ.g)⟩ (by simp [dsz]; omega)) ?_
    rintro _ h1 ⟨rfl, _⟩
    rfl
  rw [v_len_l (lget_lst SG.g), encs_len]
  simp only [v_gt_i, blK_bl]
  by_cases hw0 : (0 : Int) < (w.length : Int)
  · simp only [hw0, decide_true, if_true]
    obtain ⟨z, ez⟩ : ∃ z, L2.atI (encs w) (-1) = some (enc z) := atI_lastE (by omega)
    obtain ⟨a, ea⟩ : ∃ a, (encs w)[0]? = some (enc a) := by
      cases w with
      | nil => simp at hw0
      | cons a w => exact ⟨a, rfl⟩
    have lst : (hE.length + 1 + 1) < hG.length := (List.getElem?_eq_some_iff.mp gG).1
    rw [slc_l (lget_lst SG.g), cut_drop]
    have kH := (FL.Kept.refl [] hG).app [MO.lst ((encs w).drop 1)]
    have gH : (hG ++ [MO.lst ((encs w).drop 1)])[hG.length]? = some (.lst (itvs ((w.drop 1).map It.st))) := by
      rw [get_new, show (encs w).drop 1 = encs (w.drop 1) by unfold encs; rw [List.map_drop], encs_its]
    have SH := SG.keep kH
    have lG' := Nat.lt_of_lt_of_le SG.d.lt.1 (Nat.le_refl _)
    generalize hG ++ [MO.lst ((encs w).drop 1)] = hH at kH gH SH ⊢
    rw [slc_l (lget_lst SH.g), cut_drop]
    have kI := (FL.Kept.refl [] hH).app [MO.lst ((encs w).drop 1)]
    have gI : (hH ++ [MO.lst ((encs w).drop 1)])[hH.length]? = some (.lst ((encs w).drop 1)) := get_new
    have SI := SH.keep kI
    generalize hH ++ [MO.lst ((encs w).drop 1)] = hI at kI gI SI ⊢
    rw [v_ix_l (lget_lst SI.g), ez, atK_some]
    have kJ := (FL.Kept.refl [] hI).app [MO.lst [enc z]]
    rw [v_add_l (wl_lst (kJ.at gI (by simp))) (wl_lst get_new) (by rw [List.length_drop, encs_len]; simp; unfold big; omega)]
    have kK := kJ.app [MO.lst ((encs w).drop 1 ++ [enc z])]
    have gK : (hI ++ [MO.lst [enc z]] ++ [MO.lst ((encs w).drop 1 ++ [enc z])])[(hI ++ [MO.lst [enc z]]).length]? = some (.lst (itvs ((w.drop 1).map It.st ++ [.st z]))) := by
      rw [get_new, show (encs w).drop 1 = encs (w.drop 1) by unfold encs; rw [List.map_drop], encs_its]
      simp [itvs, itv]
    have SK := SI.keep kK
    have lI := kJ.len
    generalize hI ++ [MO.lst [enc z]] ++ [MO.lst ((encs w).drop 1 ++ [enc z])] = hK at kK gK SK ⊢
    generalize (hI ++ [MO.lst [enc z]]).length = rK at gK lI ⊢
    rw [v_ix_l (lget_lst SK.g), atI_0, ea, atK_some]
    have kL := (FL.Kept.refl [] hK).app [MO.lst [enc a]]
    rw [v_add_l (wl_lst (kL.at SK.g (by simp))) (wl_lst get_new) (by rw [encs_len]; simp; unfold big; omega)]
    have kM := kL.app [MO.lst (encs w ++ [enc a])]
    have gM : (hK ++ [MO.lst [enc a]] ++ [MO.lst (encs w ++ [enc a])])[(hK ++ [MO.lst [enc a]]).length]? = some (.lst (itvs (w.map It.st ++ [.st a]))) := by
      rw [get_new, encs_its]
      simp [itvs, itv]
    have SM := SK.keep kM
    have lK := kL.len
    generalize hK ++ [MO.lst [enc a]] ++ [MO.lst (encs w ++ [enc a])] = hM at kM gM SM ⊢
    generalize (hK ++ [MO.lst [enc a]]).length = rM at gM lK ⊢
    have kGM := ((kH.trans kI).trans kK).trans kM
    have kN := (FL.Kept.refl [] hM).app [MO.lst [PV.ref hG.length, PV.ref rK, PV.ref rM]]
    have oM := oG.keep (kGM.trans kN).any
    have gGM := (kGM.trans kN).at gG (by simp)
    rw [v_add_l (wl_lst gGM) (wl_lst get_new) (by simp; unfold big; omega)]
    have kO := kN.app [MO.lst (ss.map PV.ref ++ [PV.ref hG.length, PV.ref rK, PV.ref rM])]
    have gO : (hM ++ [MO.lst [PV.ref hG.length, PV.ref rK, PV.ref rM]] ++ [MO.lst (ss.map PV.ref ++ [PV.ref hG.length, PV.ref rK, PV.ref rM])])[(hM ++ [MO.lst [PV.ref hG.length, PV.ref rK, PV.ref rM]]).length]? = some (.lst ((ss ++ [hG.length, rK, rM]).map PV.ref)) := by
      rw [get_new]; simp
    have SO := SM.keep kO
    have oO : Stg n (hM ++ [MO.lst [PV.ref hG.length, PV.ref rK, PV.ref rM]] ++ [MO.lst (ss.map PV.ref ++ [PV.ref hG.length, PV.ref rK, PV.ref rM])]) (ss ++ [hG.length, rK, rM]) := by
      intro r hr
      have l1 := (kH.trans kI).len
      have l2 := ((kH.trans kI).trans kK).len
      rcases List.mem_append.mp hr with y | y
      · exact (oG.keep (kGM.trans kO).any) r y
      · simp at y
        rcases y with rfl | rfl | rfl
        · exact ⟨by omega, _, (((kI.trans kK).trans kM).trans kO).at gH (by simp)⟩
        · exact ⟨by omega, _, (kM.trans kO).at gK (by simp)⟩
        · exact ⟨by omega, _, kO.at gM (by simp)⟩
    simp only [List.set_cons_zero, List.set_cons_succ]
    refine loop4_sp K SO gO oO fun a9 a10 hP SP => ?_
    simp only [sqK_nx, List.getElem?_cons_zero, List.getElem?_cons_succ]
    exact fin hP SP
  · simp only [hw0, decide_false, Bool.false_eq_true, if_false]
    refine loop4_sp K SG gG oG fun a9 a10 hH SH => ?_
    simp only [sqK_nx, List.getElem?_cons_zero, List.getElem?_cons_succ]
    exact fin hH SH
end
end K48
namespace K48
open PySem FL PySem.W PyProof.Rows
theorem small_eq : c__law_small = .cons (.asg 1 (.slc (.call "_law_loose" (.cons (.loc 0) .nil)) .none (.some (.cst (.int 6))))) (.cons (.ite (.cmp .Eq (.call "_law_draw" (.cons (.loc 0) (.cons (.cst (.int 2)) .nil))) (.cst (.int 1))) (.cons (.asg 1 (.lc (.tup (.cons (.cst (.str ['a', 'd', 'd', 't', 'a', 'b', 'l', 'e'])) (.cons (.sub (.cst (.str ['a', 'b', 'c', 'd', 'e', 'f', 'g', 'h'])) (.loc 11)) .nil))) [("k", 11)] (.one 11) (.rng1 (.call "_law_draw" (.cons (.loc 0) (.cons (.cst (.int 7)) .nil)))) .nil)) (.cons (.asg 1 (.call "_law_mixed" (.cons (.loc 0) (.cons (.loc 1) .nil)))) .nil)) .nil) restS) := rfl
def tabV : PV → Option PV
  | .int k => some (enc (.addT [(['a', 'b', 'c', 'd', 'e', 'f', 'g', 'h'] : Nm).getD k.toNat 'a']))
  | _ => none
section
variable {h : MH} {Q : PV → MH → Prop} {E : Exc → MH → Prop}
theorem small_sp {n c : Nat} (d : Dk n c h) : (F__law_small [.ref n] h).sat (fun v h' => v = .bl true) noE := by
  have hlt := d.lt
  refine sat__law_small ?_
  rw [small_eq]
  simp only [ssat_cons, ws_asg, w_slc, w_call, q__law_small__law_loose, w_es, w_es0, w_loc, w_on, w_os, w_cst, List.getElem?_cons_zero, List.getElem?_cons_succ, List.set_cons_zero, List.set_cons_succ, sqK_nx]
  refine sat_to (loose_sp d) ?_
  rintro _ h1 ⟨r, w, rfl, lw, ow, hr, g1, r1⟩
  rw [slc_l (lget_lst g1), show (some (6 : Int)) = some ((6 : Nat) : Int) from rfl, cut_take]
  have k2 := (FL.Kept.refl [] h1).app [MO.lst ((w.map enc).take 6)]
  have g2 : (h1 ++ [MO.lst ((w.map enc).take 6)])[h1.length]? = some (.lst (encs (w.take 6))) := by
    rw [get_new]; unfold encs; rw [List.map_take]
  have d2 := r1.d.keep0 k2
  have hl1 := r1.d.lt
  generalize h1 ++ [MO.lst ((w.map enc).take 6)] = h2 at k2 g2 d2 ⊢
  have ow2 : ∀ s ∈ w.take 6, okS s := fun s hs => ow s (List.mem_of_mem_take hs)
  have lw2 : (w.take 6).length ≤ 6 := by rw [List.length_take]; omega
  generalize w.take 6 = w2 at g2 ow2 lw2 ⊢
  have hsr : h1.length ≠ n := by omega
  generalize h1.length = sr at g2 hsr ⊢
  simp only [ws_ite, w_cmp, w_call, q__law_small__law_draw, w_es, w_es0, w_loc, w_cst, List.getElem?_cons_zero, List.getElem?_cons_succ]
  refine sat_to (draw_sp d2 (by omega)) ?_
  rintro _ h3 ⟨b, rfl, hb, r3⟩
  have g3 := r3.k.at g2 (by simpa using hsr)
  simp only [v_eq_i, blK_bl]
  by_cases h1' : (b : Int) = 1
  · simp only [h1', decide_true, if_true, ssat_cons, ws_asg, w_lc, w_rng1, w_call, q__law_small__law_draw, w_es, w_es0, w_loc, w_cst, List.getElem?_cons_zero, List.getElem?_cons_succ, List.set_cons_zero, List.set_cons_succ]
    refine sat_to (draw_sp r3.d (by omega)) ?_
    rintro _ h4 ⟨m, rfl, hm, r4⟩
    refine ⟨okR_nat (by omega), ?_⟩
    simp only [Int.toNat_natCast]
    refine sat_lcP (S := []) (g := tabV) (fun n z => nomatch z) at_seq fuel_seq (by rw [nats_len]; unfold big; omega) ?_ ?_
    · intro x hx h5 k5 _
      obtain ⟨k, rfl, hk⟩ := nats_mem hx
      refine sat_lcStep rfl ?_
      have hk8 : k < 8 := by omega
      simp [wipeF]
      rw [v_ix_s (by simp; unfold big; omega), atI_nat]
      have e8 : (['a', 'b', 'c', 'd', 'e', 'f', 'g', 'h'] : Nm)[k]? = some ((['a', 'b', 'c', 'd', 'e', 'f', 'g', 'h'] : Nm)[k]'(by simpa using hk8)) := List.getElem?_eq_getElem _
      rw [e8, atK_some]
      refine ⟨?_, FL.Kept.refl _ _⟩
      simp only [tabV, Int.toNat_natCast, enc, List.getD_eq_getElem?_getD, e8, Option.getD_some]
    · intro h5 k5 g5
      have eT : ∃ w3 : List Stp, (nats 0 m).filterMap tabV = encs w3 ∧ w3.length = m ∧ ∀ s ∈ w3, okS s := by
        refine ⟨(List.range m).map fun k => .addT [(['a', 'b', 'c', 'd', 'e', 'f', 'g', 'h'] : Nm).getD k 'a'], ?_, by simp, ?_⟩
        · rw [nats_map, List.filterMap_map]
          unfold encs
          rw [List.map_map]
          generalize List.range m = l
          induction l with
          | nil => rfl
          | cons k l ih =>
            rw [List.filterMap_cons, List.map_cons, ← ih]
            simp [tabV]
        · intro s hs
          obtain ⟨k, _, rfl⟩ := List.mem_map.mp hs
          trivial
      obtain ⟨w3, e3, l3, o3⟩ := eT
      rw [e3] at g5
      have r5 := (r3.trans r4).keep k5
      refine sat_to (mixed_sp r5.d (lget_lst g5) (by omega)) ?_
      rintro _ h6 ⟨r', w4, rfl, g6, hr', l4, m4, r6⟩
      have hl5 := r5.d.lt
      simp only [ssat_nil, sqK_nx, List.set_cons_zero, List.set_cons_succ]
      exact rest_sp r6.d g6 (by omega) (by omega) (fun s hs => o3 s (m4 s hs))
  · simp only [h1', decide_false, Bool.false_eq_true, if_false, ssat_nil, sqK_nx]
    exact rest_sp r3.d g3 hsr lw2 ow2
theorem law_plain (ns : List Int) (hl : ns.length ≤ 63) : (F_law [.ref 0] [.rls (ns.map PV.int)]).sat (fun v h' => v = .bl true) noE := by
  refine sat_law ?_
  unfold c_law
  simp
  refine sat_to (deck_sp hl rfl) ?_
  rintro _ h1 ⟨n, c, rfl, d⟩
  refine sat_to (draw_sp d (by omega)) ?_
  rintro _ h2 ⟨b, rfl, hb, r2⟩
  simp only [v_eq_i, blK_bl]
  by_cases h0 : b = 0
  · simp [h0]
    exact sat_to (small_sp r2.d) fun _ _ z => z
  · simp [h0]
    exact sat_to (large_sp r2.d) fun _ _ z => z
end
theorem plain (ns : List Int) (h : ns.length ≤ 63) : ∃ h', F_law [.ref 0] [.rls (ns.map PV.int)] = .ok (.bl true) h' := by
  obtain ⟨a, h', e, rfl⟩ := sat_ex (law_plain ns h)
  exact ⟨h', e⟩
end K48
set_option maxHeartbeats 0
namespace K48
open PySem PySem.Spec PyProof.Rows L2 FL
abbrev R : PySem.W.OpenRow := PySem.W.OpenLaw.row PySem.Challenge.rw_rowferry_k48_numbered_orders
def names : List Str := (["MOST_COUNTED", "ADDING", "DROPPING", "FerryError", "TooMany", "BadNumber", "NotAnOrder", "is_whole", "noun", "touches", "lean", "befores", "free_places", "completions", "count_orders", "order_at", "least_order", "order_number", "_law_deck", "_law_draw", "_law_word", "_law_same", "_law_kinds", "_law_touches", "_law_leans", "_law_swapped", "_law_path", "_law_step", "_law_loose", "_law_orders"] : List Str) ++ (["_law_at", "_law_number", "_law_counted", "_law_least", "_law_refused", "_law_small", "_law_mixed", "_law_chains", "_law_woven", "_law_ways", "_law_rank", "_law_first", "_law_large"] : List Str)
abbrev hk : PySem.W.Hook := hookX 5 chk fn
def ob (s : PySem.W.SharedT) : He.AlD := obsXG 5 chk fn (HandSHeadRun.getT s)
theorem ob_eq (s : PySem.W.SharedT) : ob s = hk.obs s.abs := obsXG_eq (HandSHeadRun.getT_eq s)
theorem run (w : World) : HandSHeadRun.RunEq R (PySem.W.view R.prog [48]) hk ob 8000 names w := by
  intro os
  kernel_rfl
theorem give {K : PySem.W.Frag} {w : World} {mg : Str → Option Value} {h : Heap} {fa : Addr} (X : K.In h) (G : h.Ns mainGlobals mg) (hfa : mg ("law" : Str) = some (.ref fa)) (c : SaysX chk fn K) :
    ∃ (fd : FuncData) (sp : Sp), (∀ (s : Shared) (u : Value), BindsTo s fd ⟨[u], []⟩ [("script", u)]) ∧ (∀ (H : Hp) (a : Addr) (ns : List Int), ns.length ≤ 63 → Only H → SqL K H a (ns.map V.int) → sp [.ref a] H (fun v _ => v = .bl true) fun _ _ _ => False) ∧
      ∀ base : Heap, K.In base → base.Ns mainGlobals mg → FnOk R.prog w K mg base (CX R.prog w) 39 fa fd ["script"] sp := by
  obtain ⟨fd, F⟩ := c.def_ 38 rfl
  have e := hfa.symm.trans (glo_at X G (He.ba c.holds).2 36 rfl)
  cases e
  have b := FunD.bindsA (ps := ["script"]) F fun _ _ _ _ _ _ us hl => match us, hl with | [_], _ => rfl
  refine ⟨fd, spF G__law_large (cx0 R.prog w K mg h) F_law 1, fun s v => b s [v] rfl, fun H a ns hl hO hS => law_sp hO hS (plain ns hl), fun base hK hG => ?_⟩
  exact def_ok (m__law_large (P := R.prog) (w := w) (base := base) hK hG c) F sc_law (by decide) ok_law
end K48
open PySem PySem.W PySem.Calls PyProof.Rows
theorem PySem.Challenge.cw_rowferry_k48_numbered_orders_holds : PySem.Challenge.rw_rowferry_k48_numbered_orders.Holds := by
  w_on; o_law
  refine HandSHeadRun.head_any (r := OpenLaw.row PySem.Challenge.rw_rowferry_k48_numbered_orders) (q := view (OpenLaw.row PySem.Challenge.rw_rowferry_k48_numbered_orders).prog [48]) (H := K48.hk) (ob := K48.ob) (M := 8000) (loose := K48.names) (d := HandSHeadRun.topDef (OpenLaw.row PySem.Challenge.rw_rowferry_k48_numbered_orders).prog 48) (kwd := []) K48.ob_eq
    (by kernel_rfl) (fun s => by kernel_rfl) K48.run (by kernel_rfl) (by kernel_rfl) (by kernel_rfl) (by rfl) (by first | assumption | decide +kernel) (by decide +kernel) ⟨rfl, rfl, rfl, rfl, rfl, by decide +kernel⟩ ?hw ?hc
  case hw => w_witness2
  case hc =>
    refine FL.walk_w (l := PySem.Challenge.rw_rowferry_k48_numbered_orders) (n := 63) (k := 39) (x := "script") rfl (by decide) (by kernel_rfl) ⟨rfl, by decide, by decide⟩ ?F
    intro w mg fa h Y G hmg0
    obtain ⟨K, KX, c⟩ := Y
    have hmg : mg ("law" : PySem.Str) = some (.ref fa) := by
      rw [show ("law" : PySem.Str) = (HandSHeadRun.topDef (OpenLaw.row PySem.Challenge.rw_rowferry_k48_numbered_orders).prog 48).name by kernel_rfl]
      exact hmg0
    obtain ⟨fd, sp, hb, hsp, hF⟩ := K48.give (w := w) KX G hmg c
    exact ⟨K, fd, sp, KX, hb, hsp, hF⟩
