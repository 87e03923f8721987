import PyProof.Rows.All
import Wide.All
import OpenK.AllK
import Wide.FinOn
import HandS.ForMost
import HandS.Exc
import HandS.ExcOwn
import HandS.TryOnly
import HandS.WordsExc
import HandS.IsInst
import HandS.Walk
import HandS.Style
import HandS.Conv
import HandS.TupAny
import HandS.TupMul
import HandS.More
import HandS.SortInts
import KE.DatumIndex
import KE.DatumOrd
import PyProof.Rows.SortShellAny
import KE.GoesMore
import KE.GoesEnum
import KE.KTupSum
import HandS.Iter
import HandS.Dict
import KE.SortData
import HandS.Zip
import HandS.SetFor
import HandS.Strs
import HandS.Deep
import HandS.Call
import HandS.TupLe
import HandS.DictTup
import HandS.ListItems
import HandS.Hot
import HandS.HotCalls
import HandS.ExcIs
import HandS.ExcCtx
import HandS.StrSplit
import PySem.Challenge.RW_blockedcars_k33_whole_orders_by_totals
set_option Elab.async false
set_option linter.all false
set_option maxRecDepth 100000
set_option maxHeartbeats 4000000
namespace Sy
open PySem PySem.Spec PyProof.Rows L2

/-! ### data, what stands in a slot -/
inductive D where
  | v (x : V)
  | tup (ds : List D)
  | lst (ds : List D)
  | dct (kvs : List (Key × D))
  /-- a tuple of which it isn't known that it has no dict (a pair that an iterator made) -/
  | wt (ds : List D)
  /-- a dict whose keys are tuples of ints -/
  | dti (kvs : List (List Int × D))
abbrev I (i : Int) : D := .v (.int i)
abbrev Bl (b : Bool) : D := .v (.bl b)
abbrev Nn : D := .v .non
abbrev S_ (x : Str) : D := .v (.str x)

/-- a plain tuple at a, its items xs: the object is told whole, its dict is none -/
def PlT (K : PySem.W.Frag) (B : Hp) (a : Addr) (xs : List V) : Prop :=
  (∃ o : Obj, B a = some (.frz o (.tup xs)) ∧ o.cls = .type "tuple" ∧ o.dict = none) ∨
    ∃ (o : Obj) (its : Array Value) (n : Nat), K.lookup a = some o ∧ o.cls = .type "tuple" ∧ o.dict = none ∧ o.data = .seq its n ∧ its.size ≤ sizeLine ∧ Vals xs its.toList
/-- the dict at a whose keys are tuples of ints: the keys, where they stand, the values -/
def hashT (ks : List Int) : Int := reduceHash (Builtin.Tuple.tupleHashOf (ks.map hashInt))
def entT (x : List Int × Addr × Value) : DictEntry := ⟨hashT x.1, .ref x.2.1, x.2.2⟩
abbrev KTs : List (List Int × Addr × V) → List (List Int × Addr × Value) → Prop := Paired fun p q => p.1 = q.1 ∧ p.2.1 = q.2.1 ∧ RelV p.2.2 q.2.2
def TdP (a : Addr) (ks : List (List Int × Addr × V)) (h : Heap) : Prop := (a == sysModules) = false ∧ ks.length ≤ sizeLine ∧ ∃ xs, KTs ks xs ∧ ∃ o es ep, h.get? a = some o ∧ o.ExactDict ∧ o.data = .dict es ep ∧ es.toList = xs.map entT ∧ (xs.map (·.1)).Nodup
def TdO (a : Addr) (ks : List (List Int × Addr × V)) : HO := .ext (TdP a ks)
theorem PlT.sq {K : PySem.W.Frag} {B : Hp} {a : Addr} {xs : List V} (h : PlT K B a xs) : SqT K B a xs := by
  rcases h with ⟨o, h, _, _⟩ | ⟨o, its, n, h1, h2, _, h3, h4, h5⟩
  · exact .inl (.inr ⟨o, h⟩)
  · exact .inr ⟨o, its, n, h1, h2, h3, h4, h5⟩
theorem PlT.mono {K : PySem.W.Frag} {B B' : Hp} {a : Addr} {xs : List V} (e : Same B B') (h : PlT K B a xs) : PlT K B' a xs := by
  rcases h with ⟨o, h, q⟩ | h
  · exact .inl ⟨o, e _ _ h, q⟩
  · exact .inr h
mutual
def Rp (K : PySem.W.Frag) (B : Hp) : D → V → Prop
  | .v x, u => u = x
  | .tup ds, u => ∃ a xs, u = .ref a ∧ PlT K B a xs ∧ RpA K B ds xs
  | .wt ds, u => ∃ a xs, u = .ref a ∧ SqT K B a xs ∧ RpA K B ds xs
  | .lst ds, u => ∃ a xs, u = .ref a ∧ SqL K B a xs ∧ RpA K B ds xs
  | .dct kvs, u => ∃ a ks o, u = .ref a ∧ B a = some (.frz o (.dK ks)) ∧ RpK K B kvs ks
  | .dti kvs, u => ∃ a ks o, u = .ref a ∧ B a = some (.frz o (TdO a ks)) ∧ RpT K B kvs ks
def RpA (K : PySem.W.Frag) (B : Hp) : List D → List V → Prop
  | [], xs => xs = []
  | d :: ds, xs => ∃ x r, xs = x :: r ∧ Rp K B d x ∧ RpA K B ds r
def RpK (K : PySem.W.Frag) (B : Hp) : List (Key × D) → List (Key × V) → Prop
  | [], xs => xs = []
  | (k, d) :: ds, xs => ∃ x r, xs = (k, x) :: r ∧ Rp K B d x ∧ RpK K B ds r
def RpT (K : PySem.W.Frag) (B : Hp) : List (List Int × D) → List (List Int × Addr × V) → Prop
  | [], xs => xs = []
  | (k, d) :: ds, xs => ∃ q x r, xs = (k, q, x) :: r ∧ PlT K B q (k.map V.int) ∧ Rp K B d x ∧ RpT K B ds r
end

theorem rd_same {B B' : Hp} {a : Addr} {u : HO} (e : Same B B') (h : Rd B a u) : Rd B' a u := by
  rcases h with h | ⟨o, h⟩
  · exact .inl (e _ _ h)
  · exact .inr ⟨o, e _ _ h⟩
theorem sqL_same {K : PySem.W.Frag} {B B' : Hp} {a : Addr} {xs : List V} (e : Same B B') (h : SqL K B a xs) : SqL K B' a xs := by
  rcases h with h | h
  · exact .inl (rd_same e h)
  · exact .inr h
theorem sqT_same {K : PySem.W.Frag} {B B' : Hp} {a : Addr} {xs : List V} (e : Same B B') (h : SqT K B a xs) : SqT K B' a xs := by
  rcases h with h | h
  · exact .inl (rd_same e h)
  · exact .inr h
section
variable {K : PySem.W.Frag} {B B' : Hp}
mutual
theorem Rp.mono (e : Same B B') : ∀ (d : D) (v : V), Rp K B d v → Rp K B' d v
  | .v x, u, h => h
  | .tup ds, u, h => by
    obtain ⟨a, xs, e1, h1, h2⟩ := h
    exact ⟨a, xs, e1, h1.mono e, RpA.mono e ds xs h2⟩
  | .wt ds, u, h => by
    obtain ⟨a, xs, e1, h1, h2⟩ := h
    exact ⟨a, xs, e1, sqT_same e h1, RpA.mono e ds xs h2⟩
  | .lst ds, u, h => by
    obtain ⟨a, xs, e1, h1, h2⟩ := h
    exact ⟨a, xs, e1, sqL_same e h1, RpA.mono e ds xs h2⟩
  | .dct kvs, u, h => by
    obtain ⟨a, xs, o, e1, h1, h2⟩ := h
    exact ⟨a, xs, o, e1, e _ _ h1, RpK.mono e kvs xs h2⟩
  | .dti kvs, u, h => by
    obtain ⟨a, xs, o, e1, h1, h2⟩ := h
    exact ⟨a, xs, o, e1, e _ _ h1, RpT.mono e kvs xs h2⟩
theorem RpA.mono (e : Same B B') : ∀ (ds : List D) (vs : List V), RpA K B ds vs → RpA K B' ds vs
  | [], vs, h => h
  | d :: ds, vs, h => by
    obtain ⟨x, r, e1, h1, h2⟩ := h
    exact ⟨x, r, e1, Rp.mono e d x h1, RpA.mono e ds r h2⟩
theorem RpK.mono (e : Same B B') : ∀ (ds : List (Key × D)) (vs : List (Key × V)), RpK K B ds vs → RpK K B' ds vs
  | [], vs, h => h
  | (k, d) :: ds, vs, h => by
    obtain ⟨x, r, e1, h1, h2⟩ := h
    exact ⟨x, r, e1, Rp.mono e d x h1, RpK.mono e ds r h2⟩
theorem RpT.mono (e : Same B B') : ∀ (ds : List (List Int × D)) (vs : List (List Int × Addr × V)), RpT K B ds vs → RpT K B' ds vs
  | [], vs, h => h
  | (k, d) :: ds, vs, h => by
    obtain ⟨q, x, r, e1, h0, h1, h2⟩ := h
    exact ⟨q, x, r, e1, h0.mono e, Rp.mono e d x h1, RpT.mono e ds r h2⟩
end
theorem RpA.length : ∀ {ds : List D} {vs : List V}, RpA K B ds vs → vs.length = ds.length
  | [], vs, h => by cases h; rfl
  | d :: ds, vs, h => by
    obtain ⟨x, r, rfl, h1, h2⟩ := h
    rw [List.length_cons, List.length_cons, RpA.length h2]
theorem RpA.get : ∀ {ds : List D} {vs : List V} {i : Nat} {d : D}, RpA K B ds vs → ds[i]? = some d → ∃ v, vs[i]? = some v ∧ Rp K B d v
  | [], vs, i, d, h, e => by simp at e
  | x :: ds, vs, 0, d, h, e => by
    obtain ⟨v, r, rfl, h1, h2⟩ := h
    have e1 : x = d := Option.some.inj e
    exact ⟨v, rfl, e1 ▸ h1⟩
  | x :: ds, vs, i + 1, d, h, e => by
    obtain ⟨v, r, rfl, h1, h2⟩ := h
    obtain ⟨w, hw, hr⟩ := RpA.get (i := i) (d := d) h2 e
    exact ⟨w, hw, hr⟩
theorem RpA.getV : ∀ {ds : List D} {vs : List V} {i : Nat} {v : V}, RpA K B ds vs → vs[i]? = some v → ∃ d, ds[i]? = some d ∧ Rp K B d v
  | [], vs, i, d, h, e => by cases h; simp at e
  | x :: ds, vs, 0, d, h, e => by
    obtain ⟨v, r, rfl, h1, h2⟩ := h
    have e1 : v = d := Option.some.inj e
    exact ⟨x, rfl, e1 ▸ h1⟩
  | x :: ds, vs, i + 1, d, h, e => by
    obtain ⟨v, r, rfl, h1, h2⟩ := h
    obtain ⟨w, hw, hr⟩ := RpA.getV (i := i) (v := d) h2 e
    exact ⟨w, hw, hr⟩
theorem RpA.append : ∀ {ds es : List D} {vs us : List V}, RpA K B ds vs → RpA K B es us → RpA K B (ds ++ es) (vs ++ us)
  | [], es, vs, us, h, q => by cases h; exact q
  | d :: ds, es, vs, us, h, q => by
    obtain ⟨x, r, rfl, h1, h2⟩ := h
    exact ⟨x, r ++ us, rfl, h1, RpA.append h2 q⟩
theorem RpA.take : ∀ {ds : List D} {vs : List V} (n : Nat), RpA K B ds vs → RpA K B (ds.take n) (vs.take n)
  | ds, vs, 0, h => by rw [List.take_zero, List.take_zero]; exact rfl
  | [], vs, n + 1, h => by cases h; exact rfl
  | d :: ds, vs, n + 1, h => by
    obtain ⟨x, r, rfl, h1, h2⟩ := h
    exact ⟨x, r.take n, rfl, h1, RpA.take n h2⟩
theorem RpA.drop : ∀ {ds : List D} {vs : List V} (n : Nat), RpA K B ds vs → RpA K B (ds.drop n) (vs.drop n)
  | ds, vs, 0, h => h
  | [], vs, n + 1, h => by cases h; exact rfl
  | d :: ds, vs, n + 1, h => by
    obtain ⟨x, r, rfl, h1, h2⟩ := h
    exact RpA.drop n h2
theorem RpA.reverse : ∀ {ds : List D} {vs : List V}, RpA K B ds vs → RpA K B ds.reverse vs.reverse
  | [], vs, h => by cases h; exact rfl
  | d :: ds, vs, h => by
    obtain ⟨x, r, rfl, h1, h2⟩ := h
    rw [List.reverse_cons, List.reverse_cons]
    exact RpA.append (RpA.reverse h2) ⟨x, [], rfl, h1, rfl⟩
theorem RpA.set : ∀ {ds : List D} {vs : List V} {d : D} {v : V} (i : Nat), RpA K B ds vs → Rp K B d v → RpA K B (ds.set i d) (vs.set i v)
  | [], vs, d, v, i, h, q => by cases h; exact rfl
  | x :: ds, vs, d, v, 0, h, q => by
    obtain ⟨y, r, rfl, h1, h2⟩ := h
    exact ⟨v, r, rfl, q, h2⟩
  | x :: ds, vs, d, v, i + 1, h, q => by
    obtain ⟨y, r, rfl, h1, h2⟩ := h
    exact ⟨y, r.set i v, rfl, h1, RpA.set i h2 q⟩
theorem RpA.eraseIdx : ∀ {ds : List D} {vs : List V} (i : Nat), RpA K B ds vs → RpA K B (ds.eraseIdx i) (vs.eraseIdx i)
  | [], vs, i, h => by cases h; exact rfl
  | x :: ds, vs, 0, h => by
    obtain ⟨y, r, rfl, h1, h2⟩ := h
    exact h2
  | x :: ds, vs, i + 1, h => by
    obtain ⟨y, r, rfl, h1, h2⟩ := h
    exact ⟨y, r.eraseIdx i, rfl, h1, RpA.eraseIdx i h2⟩
/-- atoms -/
theorem RpA.atoms : ∀ {xs : List V}, RpA K B (xs.map D.v) xs
  | [] => rfl
  | x :: r => ⟨x, r, rfl, rfl, RpA.atoms⟩
theorem RpA.atoms_eq : ∀ {xs : List V} {vs : List V}, RpA K B (xs.map D.v) vs → vs = xs
  | [], vs, h => h
  | x :: r, vs, h => by
    obtain ⟨y, q, rfl, h1, h2⟩ := h
    have e1 : y = x := h1
    rw [e1, RpA.atoms_eq h2]
theorem RpA.ints_eq {ns : List Int} {vs : List V} (h : RpA K B (ns.map I) vs) : vs = ns.map V.int := by
  have e : ns.map I = (ns.map V.int).map D.v := by rw [List.map_map]; rfl
  rw [e] at h
  exact RpA.atoms_eq h
theorem RpA.ints {ns : List Int} : RpA K B (ns.map I) (ns.map V.int) := by
  have e : ns.map I = (ns.map V.int).map D.v := by rw [List.map_map]; rfl
  rw [e]
  exact RpA.atoms
end

/-- a mutable object's content -/
inductive MO where
  | lst (ds : List D)
  | dK (kvs : List (Key × D))
  | dT (kvs : List (List Int × D))
  /-- an instance of C at x with the one attribute states, its list -/
  | ob (C x : Addr) (ds : List D)
/-- what a slot holds -/
@[reducible] def MO.val : MO → Addr → V
  | .ob _ x _, _ => .ref x
  | _, a => .ref a
def RpO (K : PySem.W.Frag) (B : Hp) (a : Addr) : MO → HO → Prop
  | .lst ds, o => ∃ xs, o = .lst xs ∧ RpA K B ds xs
  | .dK kvs, o => ∃ ks, o = .dK ks ∧ RpK K B kvs ks
  | .dT kvs, o => ∃ ks, o = TdO a ks ∧ RpT K B kvs ks
  | .ob C x ds, o => (∃ dx, B x = some (.ins C dx [("states", .ref a)])) ∧ ∃ xs, o = .lst xs ∧ RpA K B ds xs
theorem RpO.mono {K : PySem.W.Frag} {B B' : Hp} {a : Addr} (e : Same B B') : ∀ {mo : MO} {o : HO}, RpO K B a mo o → RpO K B' a mo o
  | .lst ds, o, ⟨xs, e1, h⟩ => ⟨xs, e1, h.mono e⟩
  | .dK kvs, o, ⟨xs, e1, h⟩ => ⟨xs, e1, h.mono e⟩
  | .dT kvs, o, ⟨xs, e1, h⟩ => ⟨xs, e1, h.mono e⟩
  | .ob C x ds, o, ⟨⟨dx, h0⟩, xs, e1, h⟩ => ⟨⟨dx, e _ _ h0⟩, xs, e1, h.mono e⟩
def MO.frz : MO → D
  | .lst ds => .lst ds
  | .dK kvs => .dct kvs
  | .dT kvs => .dti kvs
  | .ob _ x _ => .v (.ref x)
inductive Desc where
  | un
  | dat (d : D)
  | mu (a : Addr) (mo : MO)
def SlotOk (K : PySem.W.Frag) (B M : Hp) : Option V → Desc → Prop
  | _, .un => True
  | s, .dat d => ∃ v, s = some v ∧ Rp K B d v
  | s, .mu a mo => s = some (mo.val a) ∧ ∃ o, M a = some o ∧ RpO K B a mo o

/-! ### two heaps joined: what stays, what changes -/
def J (B M : Hp) : Hp := fun a => match M a with
  | some o => some o
  | none => B a
section
variable {B M : Hp} {a p : Addr} {o : HO}
theorem J_M (h : M a = some o) : J B M a = some o := by unfold J; rw [h]
theorem J_B (h : M a = none) : J B M a = B a := by unfold J; rw [h]
theorem J_none (h : J B M p = none) : M p = none ∧ B p = none := by
  cases e : M p with
  | none => rw [J_B e] at h; exact ⟨rfl, h⟩
  | some o => rw [J_M e] at h; cases h
theorem upd_JM : upd (J B M) p o = J B (upd M p o) := by
  funext b
  by_cases h : b = p
  · rw [h, upd_same, J_M upd_same]
  · rw [upd_ne h]
    cases e : M b with
    | none => rw [J_B e, J_B (by rw [upd_ne h]; exact e)]
    | some u => rw [J_M e, J_M (by rw [upd_ne h]; exact e)]
theorem upd_JB (h : M p = none) : upd (J B M) p o = J (upd B p o) M := by
  funext b
  by_cases hb : b = p
  · rw [hb, upd_same, J_B h, upd_same]
  · rw [upd_ne hb]
    cases e : M b with
    | none => rw [J_B e, J_B e, upd_ne hb]
    | some u => rw [J_M e, J_M e]
theorem J_same (h : ∀ a o, M a = some o → B a = none) : Same B (J B M) := fun b o e => by
  cases q : M b with
  | none => rw [J_B q]; exact e
  | some u => rw [h b u q] at e; cases e
theorem same_new (h : B p = none) : Same B (upd B p o) := fun b u e => by rw [upd_ne (ne_of_none e h)]; exact e
/-- without p -/
def del (M : Hp) (p : Addr) : Hp := fun b => if b = p then none else M b
theorem del_same : del M p p = none := by unfold del; rw [if_pos rfl]
theorem del_ne (h : a ≠ p) : del M p a = M a := by unfold del; rw [if_neg h]
theorem J_del (h : M p = some o) : J (upd B p o) (del M p) = J B M := by
  funext b
  by_cases hb : b = p
  · rw [hb, J_B del_same, upd_same, J_M h]
  · cases e : M b with
    | none => rw [J_B e, J_B (by rw [del_ne hb]; exact e), upd_ne hb]
    | some u => rw [J_M e, J_M (by rw [del_ne hb]; exact e)]
end

theorem get_set {α : Type} {l : List α} {i j : Nat} {x y : α} (h : (l.set i x)[j]? = some y) : (y = x ∧ i = j) ∨ (i ≠ j ∧ l[j]? = some y) := by
  by_cases hij : i = j
  · subst hij
    have hl : i < (l.set i x).length := (List.getElem?_eq_some_iff.mp h).1
    rw [List.length_set] at hl
    rw [List.getElem?_set_self hl] at h
    exact .inl ⟨(Option.some.inj h).symm, rfl⟩
  · rw [List.getElem?_set_ne hij] at h
    exact .inr ⟨hij, h⟩
/-! ### what the slots hold: all that a state is known by -/
structure Conc (K : PySem.W.Frag) (M0 : Hp) (env : List Desc) (B M : Hp) (σ : List (Option V)) : Prop where
  dis : ∀ (a : Addr) (o : HO), M a = some o → B a = none
  len : σ.length = env.length
  slot : ∀ (i : Nat) (d : Desc), env[i]? = some d → ∃ s : Option V, σ[i]? = some s ∧ SlotOk K B M s d
  nd : ∀ (i j : Nat) (a : Addr) (mo mo' : MO), env[i]? = some (.mu a mo) → env[j]? = some (.mu a mo') → i = j
  fresh : ∀ (i : Nat) (a : Addr) (mo : MO), env[i]? = some (.mu a mo) → M0 a = none
  frame : ∀ a : Addr, (∀ (i : Nat) (mo : MO), env[i]? ≠ some (.mu a mo)) → M a = M0 a
section
variable {K : PySem.W.Frag} {M0 B B' M : Hp} {env : List Desc} {σ : List (Option V)} {i : Nat} {d : D} {v : V} {a p : Addr} {mo mo' : MO} {o o' : HO}
theorem SlotOk.mono {s : Option V} (e : Same B B') : ∀ {d : Desc}, SlotOk K B M s d → SlotOk K B' M s d
  | .un, _ => trivial
  | .dat d, ⟨v, e1, h⟩ => ⟨v, e1, Rp.mono e d v h⟩
  | .mu a mo, ⟨e1, o, e2, h⟩ => ⟨e1, o, e2, h.mono e⟩
theorem Conc.ext (c : Conc K M0 env B M σ) (e : Same B B') (h : ∀ a o, M a = some o → B' a = none) : Conc K M0 env B' M σ :=
  ⟨h, c.len, fun i d q => let ⟨s, h1, h2⟩ := c.slot i d q; ⟨s, h1, h2.mono e⟩, c.nd, c.fresh, c.frame⟩
/-- something new that stays -/
theorem Conc.new (c : Conc K M0 env B M σ) (h : M p = none) (hb : B p = none) : Conc K M0 env (upd B p o) M σ :=
  c.ext (same_new hb) fun a u q => by
    rw [upd_ne (fun z => by rw [z, h] at q; cases q)]
    exact c.dis a u q
theorem Conc.same (c : Conc K M0 env B M σ) : Same B (J B M) := J_same c.dis
/-- a slot forgotten -/
theorem Conc.drop (c : Conc K M0 env B M σ) (i : Nat) : ∃ B' M', J B' M' = J B M ∧ Same B B' ∧ Conc K M0 (env.set i .un) B' M' σ := by
  have gen : ∀ (j : Nat) (d : Desc), (env.set i .un)[j]? = some d → (d = .un ∨ (j ≠ i ∧ env[j]? = some d)) := fun j d q => by
    rcases get_set q with ⟨e, _⟩ | ⟨hne, e⟩
    · exact .inl e
    · exact .inr ⟨fun z => hne z.symm, e⟩
  have slotsAny : ∀ (B' M' : Hp), (∀ (j : Nat) (d : Desc), j ≠ i → env[j]? = some d → ∃ s, σ[j]? = some s ∧ SlotOk K B' M' s d) → ∀ (j : Nat) (d : Desc), (env.set i .un)[j]? = some d → ∃ s, σ[j]? = some s ∧ SlotOk K B' M' s d := fun B' M' h j d q => by
    have hj : j < σ.length := by
      have z := (List.getElem?_eq_some_iff.mp q).1
      rw [List.length_set] at z
      rw [c.len]; exact z
    rcases gen j d q with e | ⟨e1, e2⟩
    · subst e
      exact ⟨σ[j], List.getElem?_eq_getElem hj, trivial⟩
    · exact h j d e1 e2
  have nd' : ∀ (j k : Nat) (a : Addr) (mo mo' : MO), (env.set i .un)[j]? = some (.mu a mo) → (env.set i .un)[k]? = some (.mu a mo') → j = k := fun j k a mo mo' q1 q2 => by
    rcases gen j _ q1 with e | ⟨_, e1⟩
    · cases e
    · rcases gen k _ q2 with e | ⟨_, e2⟩
      · cases e
      · exact c.nd j k a mo mo' e1 e2
  have fresh' : ∀ (j : Nat) (a : Addr) (mo : MO), (env.set i .un)[j]? = some (.mu a mo) → M0 a = none := fun j a mo q => by
    rcases gen j _ q with e | ⟨_, e1⟩
    · cases e
    · exact c.fresh j a mo e1
  have up : ∀ (j : Nat) (d : Desc), j ≠ i → env[j]? = some d → (env.set i .un)[j]? = some d := fun j d hj q => by rw [List.getElem?_set_ne (Ne.symm hj)]; exact q
  by_cases hm : ∃ a mo, env[i]? = some (.mu a mo)
  · obtain ⟨a, mo, hi⟩ := hm
    obtain ⟨s, hs, e1, o, ho, hr⟩ := c.slot i _ hi
    have hne : ∀ (j : Nat) (b : Addr) (mo' : MO), j ≠ i → env[j]? = some (.mu b mo') → b ≠ a := fun j b mo' hj q z => by
      subst z
      exact hj (c.nd j i b mo' mo q hi)
    refine ⟨upd B a o, del M a, J_del ho, same_new (c.dis a o ho), ?_, by rw [List.length_set]; exact c.len, slotsAny _ _ fun j d hj q => ?_, nd', fresh', fun b hb => ?_⟩
    · intro b u q
      by_cases hba : b = a
      · rw [hba, del_same] at q; cases q
      · rw [del_ne hba] at q
        rw [upd_ne hba]
        exact c.dis b u q
    · obtain ⟨s', h1, h2⟩ := c.slot j d q
      refine ⟨s', h1, ?_⟩
      have h3 := h2.mono (same_new (o := o) (c.dis a o ho))
      cases d with
      | un => trivial
      | dat d => exact h3
      | mu b mo' =>
        obtain ⟨z1, o', z2, z3⟩ := h3
        exact ⟨z1, o', by rw [del_ne (hne j b mo' hj q)]; exact z2, z3⟩
    · by_cases hba : b = a
      · rw [hba, del_same, c.fresh i a mo hi]
      · rw [del_ne hba]
        refine c.frame b fun j mo' q => ?_
        by_cases hj : j = i
        · rw [hj, hi] at q
          cases q
          exact hba rfl
        · exact hb j mo' (up j _ hj q)
  · refine ⟨B, M, rfl, Same.refl B, c.dis, by rw [List.length_set]; exact c.len, slotsAny _ _ fun j d _ q => c.slot j d q, nd', fresh', fun b hb => ?_⟩
    refine c.frame b fun j mo' q => ?_
    by_cases hj : j = i
    · exact hm ⟨b, mo', by rw [← hj]; exact q⟩
    · exact hb j mo' (up j _ hj q)
/-- a slot that holds nothing of one's own takes a value -/
theorem Conc.setU (c : Conc K M0 env B M σ) (hi : ∀ (a : Addr) (mo : MO), env[i]? ≠ some (.mu a mo)) (hr : Rp K B d v) : Conc K M0 (env.set i (.dat d)) B M (σ.set i (some v)) := by
  have gen : ∀ (j : Nat) (d' : Desc), (env.set i (.dat d))[j]? = some d' → ((d' = .dat d ∧ i = j) ∨ (i ≠ j ∧ env[j]? = some d')) := fun j d' q => by
    rcases get_set q with ⟨e, z⟩ | ⟨hne, e⟩
    · exact .inl ⟨e, z⟩
    · exact .inr ⟨hne, e⟩
  have mu : ∀ (j : Nat) (a : Addr) (mo : MO), (env.set i (.dat d))[j]? = some (.mu a mo) → env[j]? = some (.mu a mo) := fun j a mo q => by
    rcases gen j _ q with ⟨e, _⟩ | ⟨_, e⟩
    · cases e
    · exact e
  refine ⟨c.dis, by rw [List.length_set, List.length_set]; exact c.len, fun j d' q => ?_, fun j k a mo mo' q1 q2 => c.nd j k a mo mo' (mu j a mo q1) (mu k a mo' q2), fun j a mo q => c.fresh j a mo (mu j a mo q), fun b hb => c.frame b fun j mo q => ?_⟩
  · have hj : j < σ.length := by
      have z := (List.getElem?_eq_some_iff.mp q).1
      rw [List.length_set] at z
      rw [c.len]; exact z
    rcases gen j d' q with ⟨e1, e2⟩ | ⟨e1, e2⟩
    · subst e1 e2
      exact ⟨some v, by rw [List.getElem?_set_self hj], v, rfl, hr⟩
    · obtain ⟨s, h1, h2⟩ := c.slot j d' e2
      exact ⟨s, by rw [List.getElem?_set_ne e1]; exact h1, h2⟩
  · refine hb j mo ?_
    rw [List.getElem?_set_ne (fun z => hi b mo (by rw [z]; exact q))]
    exact q
theorem Conc.set (c : Conc K M0 env B M σ) (i : Nat) (hr : Rp K B d v) : ∃ B' M', J B' M' = J B M ∧ Same B B' ∧ Conc K M0 (env.set i (.dat d)) B' M' (σ.set i (some v)) := by
  obtain ⟨B', M', e1, e2, c'⟩ := c.drop i
  refine ⟨B', M', e1, e2, ?_⟩
  have c2 := c'.setU (i := i) (d := d) (v := v) (fun a mo q => by
    rcases get_set q with ⟨e, _⟩ | ⟨hne, _⟩
    · cases e
    · exact hne rfl) (Rp.mono e2 d v hr)
  rw [List.set_set] at c2
  exact c2
/-- a slot takes a new thing of one's own -/
theorem Conc.setM (c : Conc K M0 env B M σ) (i : Nat) (hp : M p = none) (hb : B p = none) (hr : RpO K B p mo o) (hi : i < env.length) :
    ∃ B' M', J B' M' = J B (upd M p o) ∧ Same B B' ∧ Conc K M0 (env.set i (.mu p mo)) B' M' (σ.set i (some (mo.val p))) := by
  obtain ⟨B', M', e1, e2, c'⟩ := c.drop i
  have hJ : J B' M' p = none := by rw [e1, J_B hp]; exact hb
  obtain ⟨hp', hb'⟩ := J_none hJ
  have h0 : M0 p = none := by
    rw [← c'.frame p fun j mo' q => ?_]
    · exact hp'
    · obtain ⟨s, _, _, u, hu, _⟩ := c'.slot j _ q
      rw [hp'] at hu; cases hu
  refine ⟨B', upd M' p o, by rw [← upd_JM, e1, upd_JM], e2, ?_⟩
  have gen : ∀ (j : Nat) (d' : Desc), (env.set i (.mu p mo))[j]? = some d' → ((d' = .mu p mo ∧ i = j) ∨ (i ≠ j ∧ (env.set i .un)[j]? = some d')) := fun j d' q => by
    rcases get_set q with ⟨e, z⟩ | ⟨hne, e⟩
    · exact .inl ⟨e, z⟩
    · exact .inr ⟨hne, by rw [List.getElem?_set_ne hne]; exact e⟩
  have other : ∀ (j : Nat) (a' : Addr) (mo' : MO), (env.set i .un)[j]? = some (.mu a' mo') → a' ≠ p := fun j a' mo' q z => by
    obtain ⟨s, _, _, u, hu, _⟩ := c'.slot j _ q
    rw [z, hp'] at hu; cases hu
  refine ⟨fun b u q => ?_, by rw [List.length_set, List.length_set]; exact c.len, fun j d' q => ?_, fun j k a' mo1 mo2 q1 q2 => ?_, fun j a' mo' q => ?_, fun b hbb => ?_⟩
  · by_cases hbp : b = p
    · rw [hbp]; exact hb'
    · rw [upd_ne hbp] at q
      exact c'.dis b u q
  · have hj : j < σ.length := by
      have z := (List.getElem?_eq_some_iff.mp q).1
      rw [List.length_set] at z
      rw [c.len]; exact z
    rcases gen j d' q with ⟨e3, e4⟩ | ⟨e3, e4⟩
    · subst e3 e4
      exact ⟨some (mo.val p), by rw [List.getElem?_set_self hj], rfl, o, upd_same, hr.mono e2⟩
    · obtain ⟨s, h1, h2⟩ := c'.slot j d' e4
      refine ⟨s, by rw [List.getElem?_set_ne e3]; exact h1, ?_⟩
      cases d' with
      | un => trivial
      | dat d => exact h2
      | mu b mo' =>
        obtain ⟨z1, u, z2, z3⟩ := h2
        exact ⟨z1, u, by rw [upd_ne (other j b mo' e4)]; exact z2, z3⟩
  · rcases gen j _ q1 with ⟨e3, e4⟩ | ⟨e3, e4⟩
    · rcases gen k _ q2 with ⟨e5, e6⟩ | ⟨e5, e6⟩
      · rw [← e4, ← e6]
      · cases e3
        exact (other k _ _ e6 rfl).elim
    · rcases gen k _ q2 with ⟨e5, e6⟩ | ⟨e5, e6⟩
      · cases e5
        exact (other j _ _ e4 rfl).elim
      · exact c'.nd j k a' mo1 mo2 e4 e6
  · rcases gen j _ q with ⟨e3, _⟩ | ⟨_, e4⟩
    · cases e3; exact h0
    · exact c'.fresh j a' mo' e4
  · have hbp : b ≠ p := fun z => by
      refine hbb i mo ?_
      rw [z, List.getElem?_set_self hi]
    rw [upd_ne hbp]
    refine c'.frame b fun j mo' q => ?_
    by_cases hj : i = j
    · rw [← hj, List.getElem?_set_self hi] at q; cases q
    · exact hbb j mo' (by rw [List.getElem?_set_ne hj]; rw [List.getElem?_set_ne hj] at q; exact q)
/-- a thing of one's own changes -/
theorem Conc.mut (c : Conc K M0 env B M σ) (hi : env[i]? = some (.mu a mo)) (hr : RpO K B a mo' o') (hv : mo'.val a = mo.val a := by rfl) : Conc K M0 (env.set i (.mu a mo')) B (upd M a o') σ := by
  obtain ⟨s0, hs0, es0, o0, ho0, hr0⟩ := c.slot i _ hi
  have hil : i < env.length := (List.getElem?_eq_some_iff.mp hi).1
  have gen : ∀ (j : Nat) (d' : Desc), (env.set i (.mu a mo'))[j]? = some d' → ((d' = .mu a mo' ∧ i = j) ∨ (i ≠ j ∧ env[j]? = some d')) := fun j d' q => by
    rcases get_set q with ⟨e, z⟩ | ⟨hne, e⟩
    · exact .inl ⟨e, z⟩
    · exact .inr ⟨hne, e⟩
  refine ⟨fun b u q => ?_, by rw [List.length_set]; exact c.len, fun j d' q => ?_, fun j k a' mo1 mo2 q1 q2 => ?_, fun j a' mo1 q => ?_, fun b hb => ?_⟩
  · by_cases hba : b = a
    · rw [hba]; exact c.dis a o0 ho0
    · rw [upd_ne hba] at q; exact c.dis b u q
  · rcases gen j d' q with ⟨e1, e2⟩ | ⟨e1, e2⟩
    · subst e1 e2
      exact ⟨s0, hs0, by rw [hv]; exact es0, o', upd_same, hr⟩
    · obtain ⟨s, h1, h2⟩ := c.slot j d' e2
      refine ⟨s, h1, ?_⟩
      cases d' with
      | un => trivial
      | dat d => exact h2
      | mu b mo1 =>
        obtain ⟨z1, u, z2, z3⟩ := h2
        refine ⟨z1, u, ?_, z3⟩
        rw [upd_ne (fun z => e1 (c.nd i j a mo mo1 hi (by rw [← z]; exact e2)))]
        exact z2
  · rcases gen j _ q1 with ⟨e1, e2⟩ | ⟨e1, e2⟩
    · rcases gen k _ q2 with ⟨e3, e4⟩ | ⟨e3, e4⟩
      · rw [← e2, ← e4]
      · cases e1
        exact (e3 (c.nd i k a mo mo2 hi e4)).elim
    · rcases gen k _ q2 with ⟨e3, e4⟩ | ⟨e3, e4⟩
      · cases e3
        exact (e1 (c.nd i j a mo mo1 hi e2)).elim
      · exact c.nd j k a' mo1 mo2 e2 e4
  · rcases gen j _ q with ⟨e1, _⟩ | ⟨_, e2⟩
    · cases e1; exact c.fresh i a mo hi
    · exact c.fresh j a' mo1 e2
  · have hba : b ≠ a := fun z => hb i mo' (by rw [z, List.getElem?_set_self hil])
    rw [upd_ne hba]
    refine c.frame b fun j mo1 q => ?_
    by_cases hj : i = j
    · rw [← hj, hi] at q; cases q; exact hba rfl
    · exact hb j mo1 (by rw [List.getElem?_set_ne hj]; exact q)
end
end Sy
namespace Sy
open PySem PySem.Spec PyProof.Rows L2

/-! ### what is wanted behind -/
inductive Res where
  | d (d : D)
  | m (mo : MO)
abbrev Env_ := List Desc
def PostD (K : PySem.W.Frag) (M0 : Hp) (σ : L2.St) (B : Hp) (k : D → Env_ → Prop) : VK := fun v H => ∃ d env' B' M', H = J B' M' ∧ Conc K M0 env' B' M' σ ∧ Same B B' ∧ Rp K B' d v ∧ k d env'
def PostM (K : PySem.W.Frag) (M0 : Hp) (σ : L2.St) (B : Hp) (k : MO → Env_ → Prop) : VK := fun v H => ∃ (a : Addr) (mo : MO) (o : HO) (env' : Env_) (B' M' : Hp), v = mo.val a ∧ H = J B' (upd M' a o) ∧ M' a = none ∧ B' a = none ∧ Conc K M0 env' B' M' σ ∧ Same B B' ∧ RpO K B' a mo o ∧ k mo env'
def PostB (K : PySem.W.Frag) (M0 : Hp) (σ : L2.St) (B : Hp) (k : Bool → Env_ → Prop) : Bool → Hp → Prop := fun b H => ∃ env' B' M', H = J B' M' ∧ Conc K M0 env' B' M' σ ∧ Same B B' ∧ k b env'
def PostS (K : PySem.W.Frag) (M0 B : Hp) (k : Env_ → Prop) : L2.St → Hp → Prop := fun σ H => ∃ env' B' M', H = J B' M' ∧ Conc K M0 env' B' M' σ ∧ Same B B' ∧ k env'
def PostR (K : PySem.W.Frag) (M0 B : Hp) (k : Res → Env_ → Prop) : VK := fun v H => (∃ σ, PostD K M0 σ B (fun d env => k (.d d) env) v H) ∨ (∃ σ, PostM K M0 σ B (fun mo env => k (.m mo) env) v H)
/-- an argument: data, or a thing of one's own that stands in a slot -/
abbrev AV := Sum D Nat
def AvOk (K : PySem.W.Frag) (B : Hp) (env : Env_) (v : V) : AV → Prop
  | .inl d => Rp K B d v
  | .inr i => ∃ a mo, env[i]? = some (.mu a mo) ∧ v = mo.val a
def AvsOk (K : PySem.W.Frag) (B : Hp) (env : Env_) : List V → List AV → Prop
  | vs, [] => vs = []
  | vs, a :: as => ∃ v r, vs = v :: r ∧ AvOk K B env v a ∧ AvsOk K B env r as
def PostA (K : PySem.W.Frag) (M0 : Hp) (σ : L2.St) (B : Hp) (k : List AV → Env_ → Prop) : List V → Hp → Prop := fun vs H => ∃ as env' B' M', H = J B' M' ∧ Conc K M0 env' B' M' σ ∧ Same B B' ∧ AvsOk K B' env' vs as ∧ k as env'
/-- a list that is read: its items -/
def PostL (K : PySem.W.Frag) (M0 : Hp) (σ : L2.St) (B : Hp) (k : List D → Env_ → Prop) : VK := fun v H => ∃ (a : Addr) (xs : List V) (ds : List D) (env' : Env_) (B' M' : Hp), v = .ref a ∧ H = J B' M' ∧ Conc K M0 env' B' M' σ ∧ Same B B' ∧ SqL K (J B' M') a xs ∧ RpA K B' ds xs ∧ k ds env'

structure K4 where
  nx : Env_ → Prop
  rt : Res → Env_ → Prop
  bk : Env_ → Prop := fun _ => False
  ct : Env_ → Prop := fun _ => False

def LE (K : PySem.W.Frag) (t : TE) (env : Env_) (k : D → Env_ → Prop) : Prop := ∀ (M0 B M : Hp) (σ : L2.St), Conc K M0 env B M σ → ∀ Q : VK, (∀ v H, PostD K M0 σ B k v H → Q v H) → t σ (J B M) Q
def LM (K : PySem.W.Frag) (t : TE) (env : Env_) (k : MO → Env_ → Prop) : Prop := ∀ (M0 B M : Hp) (σ : L2.St), Conc K M0 env B M σ → ∀ Q : VK, (∀ v H, PostM K M0 σ B k v H → Q v H) → t σ (J B M) Q
def LL (K : PySem.W.Frag) (t : TE) (env : Env_) (k : List D → Env_ → Prop) : Prop := ∀ (M0 B M : Hp) (σ : L2.St), Conc K M0 env B M σ → ∀ Q : VK, (∀ v H, PostL K M0 σ B k v H → Q v H) → t σ (J B M) Q
def LB (K : PySem.W.Frag) (t : TT) (env : Env_) (k : Bool → Env_ → Prop) : Prop := ∀ (M0 B M : Hp) (σ : L2.St), Conc K M0 env B M σ → ∀ Q : Bool → Hp → Prop, (∀ b H, PostB K M0 σ B k b H → Q b H) → t σ (J B M) Q
def LA (K : PySem.W.Frag) (t : TA) (env : Env_) (k : List AV → Env_ → Prop) : Prop := ∀ (M0 B M : Hp) (σ : L2.St), Conc K M0 env B M σ → ∀ Q : List V → Hp → Prop, (∀ vs H, PostA K M0 σ B k vs H → Q vs H) → t σ (J B M) Q
def LS (K : PySem.W.Frag) (t : TS) (env : Env_) (k : K4) : Prop := ∀ (M0 B M : Hp) (σ : L2.St), Conc K M0 env B M σ → ∀ Dd : Ends, (∀ σ H, PostS K M0 B k.nx σ H → Dd.nx σ H) → (∀ v H, PostR K M0 B k.rt v H → Dd.rt v H) →
  (∀ σ H, PostS K M0 B k.bk σ H → Dd.bk σ H) → (∀ σ H, PostS K M0 B k.ct σ H → Dd.ct σ H) → t Dd σ (J B M)
def LG (K : PySem.W.Frag) (t : TG) (d : D) (env : Env_) (k : Env_ → Prop) : Prop := ∀ (M0 B M : Hp) (σ : L2.St), Conc K M0 env B M σ → ∀ v, Rp K B d v → ∀ Q : L2.St → Hp → Prop, (∀ σ H, PostS K M0 B k σ H → Q σ H) → t v σ (J B M) Q
def LGs (K : PySem.W.Frag) (t : TGs) (ds : List D) (env : Env_) (k : Env_ → Prop) : Prop := ∀ (M0 B M : Hp) (σ : L2.St), Conc K M0 env B M σ → ∀ vs, RpA K B ds vs → ∀ Q : L2.St → Hp → Prop, (∀ σ H, PostS K M0 B k σ H → Q σ H) → t vs σ (J B M) Q

section
variable (X : Cx)
def canE (e : Expr) : TE := fun σ H Q => ∀ pins s, Inv X pins σ H s → wpAny (model X.prog X.w) X.A (eval e X.env) (EP X pins σ Q) X.xe s
def canT (e : Expr) : TT := fun σ H Q => ∀ pins s, Inv X pins σ H s → wpAny (model X.prog X.w) X.A (isTrue e X.env (eval e X.env)) (TP X pins σ Q) X.xe s
def canW (e : Expr) : TT := fun σ H Q => ∀ whole pins s, Inv X pins σ H s → wpAny (model X.prog X.w) X.A (isTrue e X.env whole) (TP X pins σ Q) X.xe s
def canA (es : List Expr) : TA := fun σ H Q => ∀ pos pins s, Inv X pins σ H s → wpAny (model X.prog X.w) X.A (spliced (backTo pos (starEach es X.env))) (AP X pins σ Q) X.xe s
def canS (st : Stmt) : TS := fun Dd σ H => ∀ pins s, Inv X pins σ H s → wpAny (model X.prog X.w) X.A (exec st X.env) (SP X pins Dd) X.xe s
def canSs (st : List Stmt) : TS := fun Dd σ H => ∀ pins s, Inv X pins σ H s → wpAny (model X.prog X.w) X.A (execs st X.env) (SP X pins Dd) X.xe s
def canO (f : Value → Value → Sem Value) : R2 := fun x y H Q => ∀ pins s σ v u, Inv X pins σ H s → RelV x v → RelV y u → wpAny (model X.prog X.w) X.A (f v u) (EP X pins σ Q) X.xe s
def canU (f : Value → Sem Value) : V → Hp → VK → Prop := fun x H Q => ∀ pins s σ v, Inv X pins σ H s → RelV x v → wpAny (model X.prog X.w) X.A (f v) (EP X pins σ Q) X.xe s
def canG (tg : Expr) : TG := fun v σ H Q => ∀ pins s u, Inv X pins σ H s → RelV v u → wpAny (model X.prog X.w) X.A (assign tg X.env u) (fun _ s' => ∃ σ' H', Inv X pins σ' H' s' ∧ Q σ' H') X.xe s
def canGs (tgs : List Expr) : TGs := fun vs σ H Q => ∀ pins s us, Inv X pins σ H s → Vals vs us → wpAny (model X.prog X.w) X.A (assignInOrder ((assignEach tgs X.env).map (·.2)) us) (fun _ s' => ∃ σ' H', Inv X pins σ' H' s' ∧ Q σ' H') X.xe s
variable {X : Cx} {e : Expr} {es : List Expr} {st : Stmt} {sts : List Stmt}
theorem pe_can : PE X e (canE X e) := ⟨fun pins s σ H Q I h => h pins s I⟩
theorem pt_can : PT X e (canT X e) := ⟨fun pins s σ H Q I h => h pins s I⟩
theorem pw_can : PW X e (canW X e) := ⟨fun wh pins s σ H Q I h => h wh pins s I⟩
theorem pa_can : PA X es (canA X es) := ⟨fun pos pins s σ H Q I h => h pos pins s I⟩
theorem ps_can : PS X st (canS X st) := ⟨fun pins s σ H Q I h => h pins s I⟩
theorem pss_can : PSs X sts (canSs X sts) := ⟨fun pins s σ H Q I h => h pins s I⟩
theorem op_can {f : Value → Value → Sem Value} : OpR X f (canO X f) := fun pins s σ H x y v u Q I r1 r2 h => h pins s σ v u I r1 r2
theorem un_can {f : Value → Sem Value} : UnR X f (canU X f) := fun pins s σ H x v Q I r1 h => h pins s σ v I r1
theorem pg_can : PG X e (canG X e) := ⟨fun pins s σ H v u Q I r h => h pins s u I r⟩
theorem pgs_can : PGs X es (canGs X es) := ⟨fun pins s σ H v u Q I r h => h pins s u I r⟩
end

/-- an expression is evaluated to data | to something new of one's own | to a list that is read | a test | arguments | a statement | a block -/
def EE (X : Cx) (e : Expr) (env : Env_) (k : D → Env_ → Prop) : Prop := LE X.K (canE X e) env k
def EM (X : Cx) (e : Expr) (env : Env_) (k : MO → Env_ → Prop) : Prop := LM X.K (canE X e) env k
def EL (X : Cx) (e : Expr) (env : Env_) (k : List D → Env_ → Prop) : Prop := LL X.K (canE X e) env k
def EB (X : Cx) (e : Expr) (env : Env_) (k : Bool → Env_ → Prop) : Prop := LB X.K (canT X e) env k
def EW (X : Cx) (e : Expr) (env : Env_) (k : Bool → Env_ → Prop) : Prop := LB X.K (canW X e) env k
def EA (X : Cx) (es : List Expr) (env : Env_) (k : List AV → Env_ → Prop) : Prop := LA X.K (canA X es) env k
def S1 (X : Cx) (st : Stmt) (env : Env_) (k : K4) : Prop := LS X.K (canS X st) env k
def SS (X : Cx) (sts : List Stmt) (env : Env_) (k : K4) : Prop := LS X.K (canSs X sts) env k
def EG (X : Cx) (tg : Expr) (d : D) (env : Env_) (k : Env_ → Prop) : Prop := LG X.K (canG X tg) d env k
def EGs (X : Cx) (tgs : List Expr) (ds : List D) (env : Env_) (k : Env_ → Prop) : Prop := LGs X.K (canGs X tgs) ds env k

section
variable {X : Cx} {K : PySem.W.Frag} {e a b c : Expr} {es : List Expr} {st : Stmt} {sts : List Stmt} {env : Env_} {k : D → Env_ → Prop} {kb : Bool → Env_ → Prop} {km : MO → Env_ → Prop} {kl : List D → Env_ → Prop} {ka : List AV → Env_ → Prop} {k4 : K4} {t : TE} {pos : Pos}
variable {M0 B B1 M : Hp} {σ : L2.St}
theorem EE.of (h : PE X e t) (q : LE X.K t env k) : EE X e env k := fun M0 B M σ c Q hQ pins s I => h.run pins s σ _ Q I (q M0 B M σ c Q hQ)
theorem EM.of (h : PE X e t) (q : LM X.K t env km) : EM X e env km := fun M0 B M σ c Q hQ pins s I => h.run pins s σ _ Q I (q M0 B M σ c Q hQ)
theorem EL.of (h : PE X e t) (q : LL X.K t env kl) : EL X e env kl := fun M0 B M σ c Q hQ pins s I => h.run pins s σ _ Q I (q M0 B M σ c Q hQ)
theorem EB.of {t : TT} (h : PT X e t) (q : LB X.K t env kb) : EB X e env kb := fun M0 B M σ c Q hQ pins s I => h.run pins s σ _ Q I (q M0 B M σ c Q hQ)
theorem EW.of {t : TT} (h : PW X e t) (q : LB X.K t env kb) : EW X e env kb := fun M0 B M σ c Q hQ wh pins s I => h.run wh pins s σ _ Q I (q M0 B M σ c Q hQ)
theorem EA.of {t : TA} (h : PA X es t) (q : LA X.K t env ka) : EA X es env ka := fun M0 B M σ c Q hQ pos pins s I => h.run pos pins s σ _ Q I (q M0 B M σ c Q hQ)
theorem S1.of {t : TS} (h : PS X st t) (q : LS X.K t env k4) : S1 X st env k4 := fun M0 B M σ c Dd h1 h2 h3 h4 pins s I => h.run pins s σ _ Dd I (q M0 B M σ c Dd h1 h2 h3 h4)
theorem SS.of {t : TS} (h : PSs X sts t) (q : LS X.K t env k4) : SS X sts env k4 := fun M0 B M σ c Dd h1 h2 h3 h4 pins s I => h.run pins s σ _ Dd I (q M0 B M σ c Dd h1 h2 h3 h4)
theorem PostD.back (e : Same B B1) {v : V} {H : Hp} (h : PostD K M0 σ B1 k v H) : PostD K M0 σ B k v H := by
  obtain ⟨d, env', B', M', e1, c, sm, r, q⟩ := h
  exact ⟨d, env', B', M', e1, c, e.trans sm, r, q⟩
theorem PostM.back (e : Same B B1) {v : V} {H : Hp} (h : PostM K M0 σ B1 km v H) : PostM K M0 σ B km v H := by
  obtain ⟨a, mo, o, env', B', M', e1, e2, n1, n2, c, sm, r, q⟩ := h
  exact ⟨a, mo, o, env', B', M', e1, e2, n1, n2, c, e.trans sm, r, q⟩
theorem PostB.back (e : Same B B1) {v : Bool} {H : Hp} (h : PostB K M0 σ B1 kb v H) : PostB K M0 σ B kb v H := by
  obtain ⟨env', B', M', e1, c, sm, q⟩ := h
  exact ⟨env', B', M', e1, c, e.trans sm, q⟩
theorem PostA.back (e : Same B B1) {v : List V} {H : Hp} (h : PostA K M0 σ B1 ka v H) : PostA K M0 σ B ka v H := by
  obtain ⟨d, env', B', M', e1, c, sm, r, q⟩ := h
  exact ⟨d, env', B', M', e1, c, e.trans sm, r, q⟩
theorem PostL.back (e : Same B B1) {v : V} {H : Hp} (h : PostL K M0 σ B1 kl v H) : PostL K M0 σ B kl v H := by
  obtain ⟨a, xs, ds, env', B', M', e1, e2, c, sm, r1, r2, q⟩ := h
  exact ⟨a, xs, ds, env', B', M', e1, e2, c, e.trans sm, r1, r2, q⟩
theorem PostS.back {kk : Env_ → Prop} (e : Same B B1) {σ : L2.St} {H : Hp} (h : PostS K M0 B1 kk σ H) : PostS K M0 B kk σ H := by
  obtain ⟨env', B', M', e1, c, sm, q⟩ := h
  exact ⟨env', B', M', e1, c, e.trans sm, q⟩
theorem PostR.back {kk : Res → Env_ → Prop} (e : Same B B1) {v : V} {H : Hp} (h : PostR K M0 B1 kk v H) : PostR K M0 B kk v H := by
  rcases h with ⟨σ, h⟩ | ⟨σ, h⟩
  · exact .inl ⟨σ, h.back e⟩
  · exact .inr ⟨σ, h.back e⟩

/-! ### atoms -/
theorem PostD.now {d : D} {v : V} (c : Conc K M0 env B M σ) (r : Rp K B d v) (q : k d env) : PostD K M0 σ B k v (J B M) := ⟨d, env, B, M, rfl, c, Same.refl B, r, q⟩
theorem PostD.nowA {x : V} (c : Conc K M0 env B M σ) (q : k (.v x) env) : PostD K M0 σ B k x (J B M) := ⟨.v x, env, B, M, rfl, c, Same.refl B, rfl, q⟩
theorem PostB.now {b : Bool} (c : Conc K M0 env B M σ) (q : kb b env) : PostB K M0 σ B kb b (J B M) := ⟨env, B, M, rfl, c, Same.refl B, q⟩
theorem PostS.now {kk : Env_ → Prop} (c : Conc K M0 env B M σ) (q : kk env) : PostS K M0 B kk σ (J B M) := ⟨env, B, M, rfl, c, Same.refl B, q⟩
/-- a new tuple, list .. that stays -/
theorem PostD.new {d : D} {p : Addr} {o : HO} (c : Conc K M0 env B M σ) (hp : J B M p = none) (r : Rp K (upd B p o) d (.ref p)) (q : k d env) : PostD K M0 σ B k (.ref p) (upd (J B M) p o) := by
  obtain ⟨h1, h2⟩ := J_none hp
  exact ⟨d, env, upd B p o, M, upd_JB h1, c.new h1 h2, same_new h2, r, q⟩
theorem PostM.new {mo : MO} {p : Addr} {o : HO} (c : Conc K M0 env B M σ) (hp : J B M p = none) (r : RpO K B p mo o) (q : km mo env) (hv : mo.val p = .ref p := by rfl) : PostM K M0 σ B km (.ref p) (upd (J B M) p o) := by
  obtain ⟨h1, h2⟩ := J_none hp
  exact ⟨p, mo, o, env, B, M, hv.symm, upd_JM, h1, h2, c, Same.refl B, r, q⟩
theorem le_c {x : V} (q : k (.v x) env) : LE K (tC x) env k := fun M0 B M σ c Q hQ => hQ _ _ (.nowA c q)
theorem ee_int {i : Int} {j : Nat} (q : k (I i) env) : EE X (.Constant (.int i) j pos) env k := .of pe_int (le_c q)
theorem ee_bl {i : Bool} {j : Nat} (q : k (Bl i) env) : EE X (.Constant (.bool i) j pos) env k := .of pe_bl (le_c q)
theorem ee_non {j : Nat} (q : k Nn env) : EE X (.Constant .none j pos) env k := .of pe_non (le_c q)
theorem ee_str {i : Str} {j : Nat} (q : k (S_ i) env) : EE X (.Constant (.str i) j pos) env k := .of pe_str (le_c q)
theorem le_var {i : Nat} {d : D} (h : env[i]? = some (.dat d)) (q : k d env) : LE K (tVar i) env k := fun M0 B M σ c Q hQ => by
  obtain ⟨s, hs, v, rfl, r⟩ := c.slot i _ h
  exact ⟨v, hs, hQ _ _ (.now c r q)⟩
theorem ee_var (i : Nat) {d : D} {x : Str} (h : env[i]? = some (.dat d)) (q : k d env) (hN : X.N[i]? = some x := by rfl) (hv : Vis X.env.scope x := by first | exact Or.inl rfl | exact Or.inr (Or.inl rfl) | exact Or.inr (Or.inr rfl))
    (hd : (x == ("__debug__" : Str)) = false := by decide) (hcd : (x == ("__classdict__" : Str)) = false := by decide) : EE X (.Name x pos) env k := .of (pe_var hN hv hd hcd) (le_var h q)
/-- a module's object, a constant -/
theorem ee_glob {x : Str} {v : V} {u : Value} (hm : X.mg x = some u) (r : RelV v u) (q : k (.v v) env) (hg : Gl X x := by rfl) (hd : (x == ("__debug__" : Str)) = false := by decide) : EE X (.Name x pos) env k := .of (pe_glob hg hm r hd) (le_c q)
theorem ee_globT {x : Str} {p : Addr} {xs : List V} {ds : List D} (hm : X.mg x = some (.ref p)) (hs : ∀ B, PlT X.K B p xs) (hr : ∀ B, RpA X.K B ds xs) (q : k (.tup ds) env) (hg : Gl X x := by rfl) (hd : (x == ("__debug__" : Str)) = false := by decide) : EE X (.Name x pos) env k :=
  .of (pe_glob (v := .ref p) hg hm rfl hd) fun M0 B M σ c Q hQ => hQ _ _ (.now (d := .tup ds) c ⟨p, xs, rfl, hs B, hr B⟩ q)
/-- a list that stands in a slot, read -/
theorem el_slot (i : Nat) {p : Addr} {ds : List D} {x : Str} (h : env[i]? = some (.mu p (.lst ds))) (q : kl ds env) (hN : X.N[i]? = some x := by rfl) (hv : Vis X.env.scope x := by first | exact Or.inl rfl | exact Or.inr (Or.inl rfl) | exact Or.inr (Or.inr rfl))
    (hd : (x == ("__debug__" : Str)) = false := by decide) (hcd : (x == ("__classdict__" : Str)) = false := by decide) : EL X (.Name x pos) env kl := .of (pe_var hN hv hd hcd) fun M0 B M σ c Q hQ => by
  obtain ⟨s, hs, e1, o, ho, xs, rfl, hr⟩ := c.slot i _ h
  exact ⟨.ref p, by rw [hs, e1], hQ _ _ ⟨p, xs, ds, env, B, M, rfl, rfl, c, Same.refl B, SqL.of (J_M ho), hr, q⟩⟩
theorem el_dat {e : Expr} (h : EE X e env fun d env' => ∃ ds, d = .lst ds ∧ kl ds env') : EL X e env kl := fun M0 B M σ c Q hQ => h M0 B M σ c Q fun v H p => by
  obtain ⟨d, env', B', M', rfl, c', sm, r, ds, rfl, q⟩ := p
  obtain ⟨a, xs, rfl, hl, hr⟩ := r
  exact hQ _ _ ⟨a, xs, ds, env', B', M', rfl, rfl, c', sm, sqL_same c'.same hl, hr, q⟩
theorem canE_lock {e : Expr} {σ : L2.St} {H : Hp} {Q : VK} (h : canE X e σ H fun v H' => Q v H' ∨ ∃ d u, H' d = some u ∧ Mut (some u) ∧ ∀ od, Q v (upd H' d (.frz od u))) : canE X e σ H Q := fun pins s I =>
  thn (h pins s I) fun v s' ⟨x, H', I', r, q⟩ => q.elim (fun q => ⟨x, H', I', r, q⟩) fun ⟨d, u, hd, mu, q⟩ => let ⟨od, I2⟩ := I'.lock hd mu; ⟨x, _, I2, r, q od⟩
theorem ee_new {e : Expr} (h : EM X e env fun mo env' => k mo.frz env') : EE X e env k := fun M0 B M σ c Q hQ => canE_lock (h M0 B M σ c _ fun v H p => by
  obtain ⟨a, mo, o, env', B', M', rfl, rfl, n1, n2, c', sm, r, q⟩ := p
  have fin : ∀ (u : HO), Rp X.K (upd B' a u) mo.frz (mo.val a) → Q (mo.val a) (upd (J B' M') a u) := fun u hr => hQ _ _ ⟨mo.frz, env', upd B' a u, M', upd_JB n1, c'.new n1 n2, sm.trans (same_new n2), hr, q⟩
  have e1 : J B' (upd M' a o) = upd (J B' M') a o := upd_JM.symm
  rw [e1]
  cases mo with
  | lst ds =>
    obtain ⟨xs, rfl, hr⟩ := r
    exact .inl (fin _ ⟨a, xs, rfl, SqL.of upd_same, hr.mono (same_new n2)⟩)
  | dK kvs =>
    obtain ⟨xs, rfl, hr⟩ := r
    refine .inr ⟨a, _, upd_same, trivial, fun od => ?_⟩
    rw [upd_upd]
    exact fin _ ⟨a, xs, od, rfl, upd_same, hr.mono (same_new n2)⟩
  | dT kvs =>
    obtain ⟨xs, rfl, hr⟩ := r
    refine .inr ⟨a, _, upd_same, trivial, fun od => ?_⟩
    rw [upd_upd]
    exact fin _ ⟨a, xs, od, rfl, upd_same, hr.mono (same_new n2)⟩
  | ob C x ds => exact .inl (fin _ rfl))
theorem el_new {e : Expr} (h : EM X e env fun mo env' => ∃ ds, mo = .lst ds ∧ kl ds env') : EL X e env kl := el_dat (ee_new fun M0 B M σ c Q hQ => h M0 B M σ c Q fun v H p => hQ v H (by
  obtain ⟨a, mo, o, env', B', M', e1, e2, n1, n2, c', sm, r, ds, rfl, q⟩ := p
  exact ⟨a, .lst ds, o, env', B', M', e1, e2, n1, n2, c', sm, r, ds, rfl, q⟩))

/-! ### operators -/
/-- the operation on values -/
def RR (K : PySem.W.Frag) (r : R2) (d1 d2 : D) (env : Env_) (k : D → Env_ → Prop) : Prop := ∀ (M0 B M : Hp) (σ : L2.St), Conc K M0 env B M σ → ∀ v1 v2, Rp K B d1 v1 → Rp K B d2 v2 → ∀ Q : VK, (∀ v H, PostD K M0 σ B k v H → Q v H) → r v1 v2 (J B M) Q
theorem le_op {r : R2} {ta tb : TE} (h : LE K ta env fun d1 env1 => LE K tb env1 fun d2 env2 => RR K r d1 d2 env2 k) : LE K (tOp r ta tb) env k := fun M0 B M σ c Q hQ =>
  h M0 B M σ c _ fun v1 H1 ⟨d1, env1, B1, M1, e1, c1, s1, r1, q1⟩ => by
    subst e1
    refine q1 M0 B1 M1 σ c1 _ fun v2 H2 ⟨d2, env2, B2, M2, e2, c2, s2, r2, q2⟩ => ?_
    subst e2
    exact q2 M0 B2 M2 σ c2 v1 v2 (Rp.mono s2 d1 v1 r1) r2 Q fun v H p => hQ v H ((p.back s2).back s1)
def BO (X : Cx) (op : Operator) (d1 d2 : D) (env : Env_) (k : D → Env_ → Prop) : Prop := RR X.K (canO X (binaryOp op)) d1 d2 env k
def CO (X : Cx) (op : CmpOp) (d1 d2 : D) (env : Env_) (k : D → Env_ → Prop) : Prop := RR X.K (canO X (compareOp op)) d1 d2 env k
theorem ee_bin {op : Operator} (h : EE X a env fun d1 env1 => EE X b env1 fun d2 env2 => BO X op d1 d2 env2 k) : EE X (.BinOp a op b pos) env k := .of (pe_op op_can pe_can pe_can) (le_op h)
theorem ee_cmp {op : CmpOp} (h : EE X a env fun d1 env1 => EE X b env1 fun d2 env2 => CO X op d1 d2 env2 k) (hm : behindInMarks op b = false := by first | exact nomark _ | rfl) : EE X (.Compare a [op] [b] pos) env k := .of (pe_cmpR op_can pe_can pe_can hm) (le_op h)
theorem RR.of {f : Value → Value → Sem Value} {r : R2} {d1 d2 : D} (h : OpR X f r) (q : RR X.K r d1 d2 env k) : RR X.K (canO X f) d1 d2 env k := fun M0 B M σ c v1 v2 r1 r2 Q hQ pins s σ' v u I x1 x2 => h pins s σ' _ v1 v2 v u Q I x1 x2 (q M0 B M σ c v1 v2 r1 r2 Q hQ)
theorem rr_ii0 {g : Int → Int → V} {i j : Int} (q : k (.v (g i j)) env) : RR K (rI0 g) (I i) (I j) env k := fun M0 B M σ c v1 v2 r1 r2 Q hQ => ⟨i, j, r1, r2, hQ _ _ (.nowA c q)⟩
theorem rr_ii {C : Int → Int → Prop} {g : Int → Int → V} {i j : Int} (hc : C i j) (q : k (.v (g i j)) env) : RR K (rI C g) (I i) (I j) env k := fun M0 B M σ c v1 v2 r1 r2 Q hQ => ⟨i, j, r1, r2, hc, hQ _ _ (.nowA c q)⟩
theorem bo_add {i j : Int} (q : k (I (i + j)) env) : BO X .Add (I i) (I j) env k := .of op_add (rr_ii0 q)
theorem bo_sub {i j : Int} (q : k (I (i - j)) env) : BO X .Sub (I i) (I j) env k := .of op_sub (rr_ii0 q)
theorem bo_mul {i j : Int} (hc : CMul i j) (q : k (I (i * j)) env) : BO X .Mult (I i) (I j) env k := .of op_mul (rr_ii hc q)
theorem bo_fdiv {i j : Int} (hc : CDiv i j) (q : k (I (i / j)) env) : BO X .FloorDiv (I i) (I j) env k := .of op_fdiv (rr_ii hc q)
theorem bo_mod {i j : Int} (hc : 0 < j) (q : k (I (i % j)) env) : BO X .Mod (I i) (I j) env k := .of op_mod (rr_ii hc q)
theorem bo_pow {i j : Int} (hc : CPow i j) (q : k (I (i ^ j.toNat)) env) : BO X .Pow (I i) (I j) env k := .of op_pow (rr_ii hc q)
theorem co_lt {i j : Int} (q : k (Bl (decide (i < j))) env) : CO X .Lt (I i) (I j) env k := .of op_lt (rr_ii0 q)
theorem co_le {i j : Int} (q : k (Bl (decide (i ≤ j))) env) : CO X .LtE (I i) (I j) env k := .of op_le (rr_ii0 q)
theorem co_gt {i j : Int} (q : k (Bl (decide (j < i))) env) : CO X .Gt (I i) (I j) env k := .of op_gt (rr_ii0 q)
theorem co_ge {i j : Int} (q : k (Bl (decide (j ≤ i))) env) : CO X .GtE (I i) (I j) env k := .of op_ge (rr_ii0 q)
theorem co_eqS {x y : V} (hs : scal x y = true) (q : k (Bl (decide (x = y))) env) : CO X .Eq (.v x) (.v y) env k := .of op_eq fun M0 B M σ c v1 v2 r1 r2 Q hQ => by
  cases r1; cases r2
  exact ⟨hs, hQ _ _ (.nowA c q)⟩
theorem co_neS {x y : V} (hs : scal x y = true) (q : k (Bl (!decide (x = y))) env) : CO X .NotEq (.v x) (.v y) env k := .of op_ne fun M0 B M σ c v1 v2 r1 r2 Q hQ => by
  cases r1; cases r2
  exact ⟨hs, hQ _ _ (.nowA c q)⟩
theorem dec_int' {i j : Int} : decide (V.int i = V.int j) = decide (i = j) := by
  by_cases h : i = j
  · rw [decide_eq_true h, decide_eq_true (by rw [h])]
  · rw [decide_eq_false h, decide_eq_false (fun z => h (V.int.inj z))]
theorem co_eq {i j : Int} (q : k (Bl (decide (i = j))) env) : CO X .Eq (I i) (I j) env k := co_eqS rfl (by rw [dec_int']; exact q)
theorem co_ne {i j : Int} (q : k (Bl (!decide (i = j))) env) : CO X .NotEq (I i) (I j) env k := co_neS rfl (by rw [dec_int']; exact q)
theorem co_isN {d : D} {v : V} (q : k (Bl (decide (v = .non))) env) (hd : d = .v v) : CO X .Is d Nn env k := .of op_isN fun M0 B M σ c v1 v2 r1 r2 Q hQ => by
  subst hd; cases r1; cases r2
  exact ⟨rfl, hQ _ _ (.nowA c q)⟩
theorem ee_neg {i : Int} (h : EE X a env fun d env1 => ∃ i, d = I i ∧ k (I (-i)) env1) : EE X (.UnaryOp .USub a pos) env k := .of (pe_un un_neg pe_can) fun M0 B M σ c Q hQ =>
  h M0 B M σ c _ fun v1 H1 ⟨d1, env1, B1, M1, e1, c1, s1, r1, i, e2, q1⟩ => by
    subst e1 e2; cases r1
    exact ⟨i, rfl, hQ _ _ ((PostD.nowA c1 q1).back s1)⟩

/-! ### tests -/
theorem eb_val (h : EE X e env fun d env' => ∃ b, d = Bl b ∧ kb b env') (he : ∀ whole, isTrue e X.env whole = (do let v ← whole; standAt e.pos; holding [v] (truthy v)) := by intro _; rfl) : EB X e env kb := .of (pt_val pe_can he) fun M0 B M σ c Q hQ =>
  h M0 B M σ c _ fun v1 H1 ⟨d1, env1, B1, M1, e1, c1, s1, r1, b, e2, q1⟩ => by
    subst e1 e2; cases r1
    exact ⟨b, rfl, hQ _ _ ((PostB.now c1 q1).back s1)⟩
theorem eb_cmp {op : CmpOp} (h : EE X a env fun d1 env1 => EE X b env1 fun d2 env2 => CO X op d1 d2 env2 fun d env' => ∃ b, d = Bl b ∧ kb b env') (hm : behindInMarks op b = false := by first | exact nomark _ | rfl) : EB X (.Compare a [op] [b] pos) env kb :=
  .of (pt_cmpR op_can pe_can pe_can hm) fun M0 B M σ c Q hQ => le_op h M0 B M σ c _ fun v1 H1 ⟨d1, env1, B1, M1, e1, c1, s1, r1, b, e2, q1⟩ => by
    subst e1 e2; cases r1
    exact ⟨b, rfl, hQ _ _ ((PostB.now c1 q1).back s1)⟩
theorem eb_not (h : EB X e env fun b env' => kb (!b) env') : EB X (.UnaryOp .Not e pos) env kb := .of (pt_not pt_can) fun M0 B M σ c Q hQ => h M0 B M σ c _ fun b H p => hQ _ _ (by
  obtain ⟨env', B', M', e1, c', sm, q⟩ := p
  exact ⟨env', B', M', e1, c', sm, q⟩)
theorem eb_w (h : EW X e env kb) : EB X e env kb := .of (PW.pt pw_can) h
variable {rest : List Expr}
theorem ew_and1 (h : EB X a env kb) : EW X (.BoolOp .And [a] pos) env kb := .of (pw_and1 pt_can) h
theorem ew_or1 (h : EB X a env kb) : EW X (.BoolOp .Or [a] pos) env kb := .of (pw_or1 pt_can) h
theorem ew_and (h : EB X a env fun x env' => (x = true → EW X (.BoolOp .And (b :: rest) pos) env' kb) ∧ (x = false → kb false env')) : EW X (.BoolOp .And (a :: b :: rest) pos) env kb := .of (pw_and pt_can pw_can) fun M0 B M σ c Q hQ => h M0 B M σ c _ fun x H p => by
  obtain ⟨env', B', M', rfl, c', sm, q1, q2⟩ := p
  cases x with
  | true => rw [if_pos rfl]; exact q1 rfl M0 B' M' σ c' Q fun b H p => hQ b H (p.back sm)
  | false => rw [if_neg Bool.false_ne_true]; exact hQ _ _ ⟨env', B', M', rfl, c', sm, q2 rfl⟩
theorem ew_or (h : EB X a env fun x env' => (x = true → kb true env') ∧ (x = false → EW X (.BoolOp .Or (b :: rest) pos) env' kb)) : EW X (.BoolOp .Or (a :: b :: rest) pos) env kb := .of (pw_or pt_can pw_can) fun M0 B M σ c Q hQ => h M0 B M σ c _ fun x H p => by
  obtain ⟨env', B', M', rfl, c', sm, q1, q2⟩ := p
  cases x with
  | true => rw [if_pos rfl]; exact hQ _ _ ⟨env', B', M', rfl, c', sm, q1 rfl⟩
  | false => rw [if_neg Bool.false_ne_true]; exact q2 rfl M0 B' M' σ c' Q fun b H p => hQ b H (p.back sm)
/-- as values -/
theorem ee_bool1 {op} (h : EE X a env k) : EE X (.BoolOp op [a] pos) env k := .of (pe_one pe_can) h
theorem ee_and (h : EE X a env fun d env' => ∃ x, d = Bl x ∧ (x = true → EE X (.BoolOp .And (b :: rest) pos) env' k) ∧ (x = false → k (Bl false) env')) : EE X (.BoolOp .And (a :: b :: rest) pos) env k := .of (pe_and pe_can pe_can) fun M0 B M σ c Q hQ =>
  h M0 B M σ c _ fun v1 H1 ⟨d1, env1, B1, M1, e1, c1, s1, r1, x, e2, q1, q2⟩ => by
    subst e1 e2; cases r1
    refine ⟨x, rfl, ?_⟩
    cases x with
    | true => rw [if_pos rfl]; exact q1 rfl M0 B1 M1 σ c1 Q fun v H p => hQ v H (p.back s1)
    | false => rw [if_neg Bool.false_ne_true]; exact hQ _ _ ((PostD.nowA c1 (q2 rfl)).back s1)
theorem ee_or (h : EE X a env fun d env' => ∃ x, d = Bl x ∧ (x = true → k (Bl true) env') ∧ (x = false → EE X (.BoolOp .Or (b :: rest) pos) env' k)) : EE X (.BoolOp .Or (a :: b :: rest) pos) env k := .of (pe_or pe_can pe_can) fun M0 B M σ c Q hQ =>
  h M0 B M σ c _ fun v1 H1 ⟨d1, env1, B1, M1, e1, c1, s1, r1, x, e2, q1, q2⟩ => by
    subst e1 e2; cases r1
    refine ⟨x, rfl, ?_⟩
    cases x with
    | true => rw [if_pos rfl]; exact hQ _ _ ((PostD.nowA c1 (q1 rfl)).back s1)
    | false => rw [if_neg Bool.false_ne_true]; exact q2 rfl M0 B1 M1 σ c1 Q fun v H p => hQ v H (p.back s1)
theorem ee_not (h : EE X a env fun d env' => ∃ x, d = Bl x ∧ k (Bl (!x)) env') : EE X (.UnaryOp .Not a pos) env k := .of (pe_not pe_can) fun M0 B M σ c Q hQ =>
  h M0 B M σ c _ fun v1 H1 ⟨d1, env1, B1, M1, e1, c1, s1, r1, x, e2, q1⟩ => by
    subst e1 e2; cases r1
    exact ⟨x, rfl, hQ _ _ ((PostD.nowA c1 q1).back s1)⟩
theorem ee_if (h : EB X c env fun x env' => (x = true → EE X a env' k) ∧ (x = false → EE X b env' k)) : EE X (.IfExp c a b pos) env k := .of (pe_ifExp pt_can pe_can pe_can) fun M0 B M σ cc Q hQ => h M0 B M σ cc _ fun x H p => by
  obtain ⟨env', B', M', rfl, c', sm, q1, q2⟩ := p
  cases x with
  | true => rw [if_pos rfl]; exact q1 rfl M0 B' M' σ c' Q fun v H p => hQ v H (p.back sm)
  | false => rw [if_neg Bool.false_ne_true]; exact q2 rfl M0 B' M' σ c' Q fun v H p => hQ v H (p.back sm)
/-- low <= value <= high -/
theorem le_chain {r r' : R2} {ta tb tc : TE} (h : LE K ta env fun d1 env1 => LE K tb env1 fun d2 env2 => RR K r d1 d2 env2 fun d env3 => ∃ x, d = Bl x ∧ (x = true → LE K tc env3 fun d3 env4 => RR K r' d2 d3 env4 k) ∧ (x = false → k (Bl false) env3)) : LE K (tChain r r' ta tb tc) env k := fun M0 B M σ c Q hQ =>
  h M0 B M σ c _ fun v1 H1 ⟨d1, env1, B1, M1, e1, c1, s1, r1, q1⟩ => by
    subst e1
    refine q1 M0 B1 M1 σ c1 _ fun v2 H2 ⟨d2, env2, B2, M2, e2, c2, s2, r2, q2⟩ => ?_
    subst e2
    refine q2 M0 B2 M2 σ c2 v1 v2 (Rp.mono s2 d1 v1 r1) r2 _ fun v H ⟨d3, env3, B3, M3, e3, c3, s3, r3, x, e4, q3, q4⟩ => ?_
    subst e3 e4; cases r3
    refine ⟨x, rfl, ?_⟩
    cases x with
    | true =>
      rw [if_pos rfl]
      refine q3 rfl M0 B3 M3 σ c3 _ fun v4 H4 ⟨d4, env4, B4, M4, e5, c4, s4, r4, q5⟩ => ?_
      subst e5
      exact q5 M0 B4 M4 σ c4 v2 v4 (Rp.mono (s3.trans s4) d2 v2 r2) r4 Q fun v H p => hQ v H ((((p.back s4).back s3).back s2).back s1)
    | false =>
      rw [if_neg Bool.false_ne_true]
      exact hQ _ _ ((((PostD.nowA c3 (q4 rfl)).back s3).back s2).back s1)
theorem ee_chain {op op' : CmpOp} (h : EE X a env fun d1 env1 => EE X b env1 fun d2 env2 => CO X op d1 d2 env2 fun d env3 => ∃ x, d = Bl x ∧ (x = true → EE X c env3 fun d3 env4 => CO X op' d2 d3 env4 k) ∧ (x = false → k (Bl false) env3))
    (hm : lastMarks [op, op'] [b, c] = false := by with_unfolding_all rfl) : EE X (.Compare a [op, op'] [b, c] pos) env k := .of (pe_chain op_can op_can pe_can pe_can pe_can hm) (le_chain h)
theorem eb_chain {op op' : CmpOp} (h : EE X a env fun d1 env1 => EE X b env1 fun d2 env2 => CO X op d1 d2 env2 fun d env3 => ∃ x, d = Bl x ∧ (x = true → EE X c env3 fun d3 env4 => CO X op' d2 d3 env4 fun d env' => ∃ y, d = Bl y ∧ kb y env') ∧ (x = false → kb false env3))
    (hm : lastMarks [op, op'] [b, c] = false := by with_unfolding_all rfl) : EB X (.Compare a [op, op'] [b, c] pos) env kb := .of (pt_chain op_can op_can pe_can pe_can pe_can hm) fun M0 B M σ cc Q hQ =>
  le_chain (k := fun d env' => ∃ y, d = Bl y ∧ kb y env') (r := canO X (compareOp op)) (r' := canO X (compareOp op')) (ta := canE X a) (tb := canE X b) (tc := canE X c) (fun M0 B M σ c Q hQ => h M0 B M σ c Q fun v H p => hQ v H (by
    obtain ⟨d, env', B', M', e1, c', sm, r, q⟩ := p
    refine ⟨d, env', B', M', e1, c', sm, r, fun M0 B M σ c Q hQ => q M0 B M σ c Q fun v H p => hQ v H ?_⟩
    obtain ⟨d, env', B', M', e1, c', sm, r, q⟩ := p
    refine ⟨d, env', B', M', e1, c', sm, r, fun M0 B M σ c v1 v2 r1 r2 Q hQ => q M0 B M σ c v1 v2 r1 r2 Q fun v H p => hQ v H ?_⟩
    obtain ⟨d, env', B', M', e1, c', sm, r, x, e2, q1, q2⟩ := p
    exact ⟨d, env', B', M', e1, c', sm, r, x, e2, q1, fun z => ⟨false, rfl, q2 z⟩⟩)) M0 B M σ cc _ fun v1 H1 ⟨d1, env1, B1, M1, e1, c1, s1, r1, b, e2, q1⟩ => by
    subst e1 e2; cases r1
    exact ⟨b, rfl, hQ _ _ ((PostB.now c1 q1).back s1)⟩
end
end Sy
namespace Sy
open PySem PySem.Spec PyProof.Rows L2

/-! ### more of the states -/
section
variable {K : PySem.W.Frag} {M0 B B' M : Hp} {env : List Desc} {σ : L2.St} {i : Nat} {d : D} {v : V} {a p : Addr} {mo mo' : MO} {o o' : HO}
/-- all of one's own let go -/
theorem Conc.out (c : Conc K M0 env B M σ) : ∃ B', J B' M0 = J B M ∧ Same B B' ∧ ∀ a o, M0 a = some o → B' a = none := by
  have keep : ∀ a o, M0 a = some o → M a = some o := fun a o h => by
    rw [c.frame a fun i mo q => ?_]
    · exact h
    · rw [c.fresh i a mo q] at h; cases h
  refine ⟨fun a => match M0 a with
    | some _ => none
    | none => J B M a, ?_, fun a o h => ?_, fun a o h => ?_⟩
  · funext a
    cases e : M0 a with
    | some o => rw [J_M e, J_M (keep a o e)]
    | none => rw [J_B e, e]
  · show (match M0 a with
      | some _ => none
      | none => J B M a) = some o
    cases e : M0 a with
    | some u =>
      rw [c.dis a u (keep a u e)] at h; cases h
    | none => exact c.same a o h
  · show (match M0 a with
      | some _ => none
      | none => J B M a) = none
    rw [h]
/-- a thing of one's own taken out of its slot -/
theorem Conc.take (c : Conc K M0 env B M σ) (hi : env[i]? = some (.mu a mo)) : ∃ o, M a = some o ∧ RpO K B a mo o ∧ M = upd (del M a) a o ∧ B a = none ∧ σ[i]? = some (some (mo.val a)) ∧ Conc K M0 (env.set i .un) B (del M a) σ := by
  obtain ⟨s, hs, e1, o, ho, hr⟩ := c.slot i _ hi
  have hil : i < env.length := (List.getElem?_eq_some_iff.mp hi).1
  refine ⟨o, ho, hr, ?_, c.dis a o ho, by rw [hs, e1], ?_⟩
  · funext b
    by_cases hb : b = a
    · rw [hb, upd_same, ho]
    · rw [upd_ne hb, del_ne hb]
  · have gen : ∀ (j : Nat) (d : Desc), (env.set i .un)[j]? = some d → (d = .un ∨ (j ≠ i ∧ env[j]? = some d)) := fun j d q => by
      rcases get_set q with ⟨e, _⟩ | ⟨hne, e⟩
      · exact .inl e
      · exact .inr ⟨fun z => hne z.symm, e⟩
    have hne : ∀ (j : Nat) (b : Addr) (mo' : MO), j ≠ i → env[j]? = some (.mu b mo') → b ≠ a := fun j b mo' hj q z => by
      subst z
      exact hj (c.nd j i b mo' mo q hi)
    refine ⟨fun b u q => ?_, by rw [List.length_set]; exact c.len, fun j d q => ?_, fun j k b mo1 mo2 q1 q2 => ?_, fun j b mo1 q => ?_, fun b hb => ?_⟩
    · by_cases hba : b = a
      · rw [hba, del_same] at q; cases q
      · rw [del_ne hba] at q; exact c.dis b u q
    · have hj : j < σ.length := by
        have z := (List.getElem?_eq_some_iff.mp q).1
        rw [List.length_set] at z
        rw [c.len]; exact z
      rcases gen j d q with e | ⟨e2, e3⟩
      · subst e
        exact ⟨σ[j], List.getElem?_eq_getElem hj, trivial⟩
      · obtain ⟨s', h1, h2⟩ := c.slot j d e3
        refine ⟨s', h1, ?_⟩
        cases d with
        | un => trivial
        | dat d => exact h2
        | mu b mo' =>
          obtain ⟨z1, o', z2, z3⟩ := h2
          exact ⟨z1, o', by rw [del_ne (hne j b mo' e2 e3)]; exact z2, z3⟩
    · rcases gen j _ q1 with e | ⟨_, e2⟩
      · cases e
      · rcases gen k _ q2 with e | ⟨_, e3⟩
        · cases e
        · exact c.nd j k b mo1 mo2 e2 e3
    · rcases gen j _ q with e | ⟨_, e2⟩
      · cases e
      · exact c.fresh j b mo1 e2
    · by_cases hba : b = a
      · rw [hba, del_same, c.fresh i a mo hi]
      · rw [del_ne hba]
        refine c.frame b fun j mo' q => ?_
        by_cases hj : j = i
        · rw [hj, hi] at q
          cases q
          exact hba rfl
        · exact hb j mo' (by rw [List.getElem?_set_ne (Ne.symm hj)]; exact q)
theorem Conc.valeq {M0' B' M' : Hp} {env' : List Desc} (c : Conc K M0 env B M σ) (h : env[i]? = some (.mu a mo)) (c' : Conc K M0' env' B' M' σ) (h' : env'[i]? = some (.mu a mo')) : mo.val a = mo'.val a := by
  obtain ⟨s, h1, h2, _⟩ := c.slot i _ h
  obtain ⟨s', h3, h4, _⟩ := c'.slot i _ h'
  rw [h1] at h3
  rw [← Option.some.inj h3, h2] at h4
  exact Option.some.inj h4
/-- something new of one's own that stands in no slot yet, kept aside -/
theorem Conc.hide (c : Conc K M0 env B M σ) (hp : M p = none) (hb : B p = none) : Conc K (upd M0 p o) env B (upd M p o) σ := by
  have hne : ∀ (j : Nat) (b : Addr) (mo' : MO), env[j]? = some (.mu b mo') → b ≠ p := fun j b mo' q z => by
    obtain ⟨s, _, _, u, hu, _⟩ := c.slot j _ q
    rw [z, hp] at hu; cases hu
  refine ⟨fun b u q => ?_, c.len, fun j d q => ?_, c.nd, fun j b mo q => ?_, fun b hbb => ?_⟩
  · by_cases hbp : b = p
    · rw [hbp]; exact hb
    · rw [upd_ne hbp] at q; exact c.dis b u q
  · obtain ⟨s, h1, h2⟩ := c.slot j d q
    refine ⟨s, h1, ?_⟩
    cases d with
    | un => trivial
    | dat d => exact h2
    | mu b mo' =>
      obtain ⟨z1, u, z2, z3⟩ := h2
      exact ⟨z1, u, by rw [upd_ne (hne j b mo' q)]; exact z2, z3⟩
  · rw [upd_ne (hne j b mo q)]; exact c.fresh j b mo q
  · by_cases hbp : b = p
    · rw [hbp, upd_same, upd_same]
    · rw [upd_ne hbp, upd_ne hbp]; exact c.frame b hbb
theorem Conc.at0 (c : Conc K M0 env B M σ) (h : M0 p = some o) : M p = some o ∧ B p = none := by
  have e : M p = some o := by
    rw [c.frame p fun i mo q => ?_]
    · exact h
    · rw [c.fresh i p mo q] at h; cases h
  exact ⟨e, c.dis p o e⟩
/-- what was kept aside goes -/
theorem Conc.shown (c : Conc K M0 env B M σ) (h : M0 p = some o) : Conc K (del M0 p) env B (del M p) σ ∧ M = upd (del M p) p o := by
  have e := (c.at0 h).1
  have hne : ∀ (j : Nat) (b : Addr) (mo' : MO), env[j]? = some (.mu b mo') → b ≠ p := fun j b mo' q z => by
    have := c.fresh j b mo' q
    rw [z, h] at this; cases this
  refine ⟨⟨fun b u q => ?_, c.len, fun j d q => ?_, c.nd, fun j b mo q => ?_, fun b hbb => ?_⟩, ?_⟩
  · by_cases hbp : b = p
    · rw [hbp, del_same] at q; cases q
    · rw [del_ne hbp] at q; exact c.dis b u q
  · obtain ⟨s, h1, h2⟩ := c.slot j d q
    refine ⟨s, h1, ?_⟩
    cases d with
    | un => trivial
    | dat d => exact h2
    | mu b mo' =>
      obtain ⟨z1, u, z2, z3⟩ := h2
      exact ⟨z1, u, by rw [del_ne (hne j b mo' q)]; exact z2, z3⟩
  · rw [del_ne (hne j b mo q)]; exact c.fresh j b mo q
  · by_cases hbp : b = p
    · rw [hbp, del_same, del_same]
    · rw [del_ne hbp, del_ne hbp]; exact c.frame b hbb
  · funext b
    by_cases hbp : b = p
    · rw [hbp, upd_same, e]
    · rw [upd_ne hbp, del_ne hbp]
/-- .. into a slot -/
theorem Conc.adopt (c : Conc K M0 env B M σ) (h : M0 p = some o) (hr : RpO K B p mo o) (hi : i < env.length) : ∃ B' M', J B' M' = J B M ∧ Same B B' ∧ Conc K (del M0 p) (env.set i (.mu p mo)) B' M' (σ.set i (some (mo.val p))) := by
  obtain ⟨c1, e1⟩ := c.shown h
  obtain ⟨B', M', e2, s2, c2⟩ := c1.setM i (p := p) (mo := mo) (o := o) del_same (c.at0 h).2 hr hi
  exact ⟨B', M', by rw [e2, ← e1], s2, c2⟩
theorem del_upd (h : M p = none) : del (upd M p o) p = M := by
  funext b
  by_cases hb : b = p
  · rw [hb, del_same, h]
  · rw [del_ne hb, upd_ne hb]
theorem upd_comm {q : Addr} (h : p ≠ q) : upd (upd M p o) q o' = upd (upd M q o') p o := by
  funext b
  by_cases hb : b = q
  · rw [hb, upd_same, upd_ne (Ne.symm h), upd_same]
  · rw [upd_ne hb]
    by_cases hp : b = p
    · rw [hp, upd_same, upd_same]
    · rw [upd_ne hp, upd_ne hp, upd_ne hb]
end

/-! ### blocks -/
section
variable {X : Cx} {K : PySem.W.Frag} {e a b c : Expr} {es rest : List Expr} {st : Stmt} {sts : List Stmt} {env : Env_} {k : D → Env_ → Prop} {kb : Bool → Env_ → Prop} {km : MO → Env_ → Prop} {kl : List D → Env_ → Prop} {ka : List AV → Env_ → Prop} {k4 : K4} {t : TE} {pos : Pos}
variable {M0 B B1 M : Hp} {σ : L2.St}
theorem ss_nil (q : k4.nx env) : SS X [] env k4 := .of pss_nil fun M0 B M σ c Dd h1 h2 h3 h4 => h1 _ _ (.now c q)
theorem ss_cons (h : S1 X st env { k4 with nx := fun env' => SS X sts env' k4 }) : SS X (st :: sts) env k4 := .of (pss_cons ps_can pss_can) fun M0 B M σ c Dd h1 h2 h3 h4 =>
  h M0 B M σ c { Dd with nx := canSs X sts Dd } (fun σ H p => by
    obtain ⟨env', B', M', rfl, c', sm, q⟩ := p
    exact q M0 B' M' σ c' Dd (fun σ H p => h1 σ H (p.back sm)) (fun v H p => h2 v H (p.back sm)) (fun σ H p => h3 σ H (p.back sm)) (fun σ H p => h4 σ H (p.back sm))) h2 h3 h4
theorem ss_one (h : S1 X st env k4) : SS X [st] env k4 := .of (pss_one ps_can) h
/-- a statement, a word, then the rest once from the word -/
theorem ss_cut (Mid : Env_ → Prop) (h : S1 X st env { k4 with nx := Mid }) (q : ∀ env', Mid env' → SS X sts env' k4) : SS X (st :: sts) env k4 := ss_cons (fun M0 B M σ c Dd h1 h2 h3 h4 => h M0 B M σ c Dd (fun σ H p => h1 σ H (by
    obtain ⟨env', B', M', e1, c', sm, z⟩ := p
    exact ⟨env', B', M', e1, c', sm, q env' z⟩)) h2 h3 h4)
theorem S1.mono {k4' : K4} (h : S1 X st env k4) (h1 : ∀ e, k4.nx e → k4'.nx e) (h2 : ∀ r e, k4.rt r e → k4'.rt r e) (h3 : ∀ e, k4.bk e → k4'.bk e) (h4 : ∀ e, k4.ct e → k4'.ct e) : S1 X st env k4' := fun M0 B M σ c Dd q1 q2 q3 q4 =>
  h M0 B M σ c Dd (fun σ H ⟨env', B', M', e1, c', sm, z⟩ => q1 σ H ⟨env', B', M', e1, c', sm, h1 _ z⟩)
    (fun v H p => q2 v H (by
      rcases p with ⟨σ, d, env', B', M', e1, c', sm, r, z⟩ | ⟨σ, a, mo, o, env', B', M', e1, e2, n1, n2, c', sm, r, z⟩
      · exact .inl ⟨σ, d, env', B', M', e1, c', sm, r, h2 _ _ z⟩
      · exact .inr ⟨σ, a, mo, o, env', B', M', e1, e2, n1, n2, c', sm, r, h2 _ _ z⟩))
    (fun σ H ⟨env', B', M', e1, c', sm, z⟩ => q3 σ H ⟨env', B', M', e1, c', sm, h3 _ z⟩) (fun σ H ⟨env', B', M', e1, c', sm, z⟩ => q4 σ H ⟨env', B', M', e1, c', sm, h4 _ z⟩)
/-- name = e -/
theorem PostS.set {kk : Env_ → Prop} {i : Nat} {d : D} {v : V} (c : Conc K M0 env B M σ) (r : Rp K B d v) (q : kk (env.set i (.dat d))) : PostS K M0 B kk (σ.set i (some v)) (J B M) := by
  obtain ⟨B', M', e1, s1, c1⟩ := c.set i r
  exact ⟨_, B', M', e1.symm, c1, s1, q⟩
theorem s_set (i : Nat) {x : Str} {pos' : Pos} (h : EE X e env fun d env' => k4.nx (env'.set i (.dat d))) (hN : X.N.Nodup) (hi : X.N[i]? = some x := by rfl) (hx : Loc X.env.scope x := by first | exact Or.inl rfl | exact Or.inr rfl) (hs : swapsWith e (some (.Name x pos')) pos.line X.env = pure false := by rfl)
    (hf : X.fn x = true ∨ X.env.scope.names.lookup x = some .local := by first | exact .inl rfl | exact .inr rfl) : S1 X (.Assign [.Name x pos'] e pos) env k4 := .of (ps_set hN hi hx pe_can hs hf) fun M0 B M σ c Dd h1 h2 h3 h4 =>
  h M0 B M σ c _ fun v H ⟨d, env', B', M', e1, c', sm, r, q⟩ => by
    subst e1
    exact h1 _ _ ((PostS.set c' r q).back sm)
theorem s_setM (i : Nat) {x : Str} {pos' : Pos} (h : EM X e env fun mo env' => i < env'.length ∧ ∀ p, k4.nx (env'.set i (.mu p mo))) (hN : X.N.Nodup) (hi : X.N[i]? = some x := by rfl) (hx : Loc X.env.scope x := by first | exact Or.inl rfl | exact Or.inr rfl) (hs : swapsWith e (some (.Name x pos')) pos.line X.env = pure false := by rfl)
    (hf : X.fn x = true ∨ X.env.scope.names.lookup x = some .local := by first | exact .inl rfl | exact .inr rfl) : S1 X (.Assign [.Name x pos'] e pos) env k4 := .of (ps_set hN hi hx pe_can hs hf) fun M0 B M σ c Dd h1 h2 h3 h4 =>
  h M0 B M σ c _ fun v H ⟨p, mo, o, env', B', M', e0, e1, n1, n2, c', sm, r, hl, q⟩ => by
    subst e0 e1
    obtain ⟨B2, M2, e2, s2, c2⟩ := c'.setM i n1 n2 r hl
    exact h1 _ _ ⟨_, B2, M2, e2.symm, c2, sm.trans s2, q p⟩
theorem s_expr (h : EE X e env fun _ env' => k4.nx env') (hs : swapsWith e none pos.line X.env = pure false := by rfl) : S1 X (.Expr e pos) env k4 := .of (ps_expr pe_can hs) fun M0 B M σ c Dd h1 h2 h3 h4 =>
  h M0 B M σ c _ fun v H ⟨d, env', B', M', e1, c', sm, r, q⟩ => h1 _ _ ⟨env', B', M', e1, c', sm, q⟩
theorem s_ret (h : EE X e env fun d env' => k4.rt (.d d) env') : S1 X (.Return (some e) pos) env k4 := .of (ps_ret pe_can) fun M0 B M σ c Dd h1 h2 h3 h4 => h M0 B M σ c _ fun v H p => h2 v H (.inl ⟨σ, p⟩)
theorem s_retM (h : EM X e env fun mo env' => k4.rt (.m mo) env') : S1 X (.Return (some e) pos) env k4 := .of (ps_ret pe_can) fun M0 B M σ c Dd h1 h2 h3 h4 => h M0 B M σ c _ fun v H p => h2 v H (.inr ⟨σ, p⟩)
/-- return x, x a thing of one's own -/
theorem s_retX (i : Nat) {p : Addr} {mo : MO} {x : Str} {pos' : Pos} (h : env[i]? = some (.mu p mo)) (q : k4.rt (.m mo) (env.set i .un)) (hN : X.N[i]? = some x := by rfl) (hv : Vis X.env.scope x := by first | exact Or.inl rfl | exact Or.inr (Or.inl rfl) | exact Or.inr (Or.inr rfl))
    (hd : (x == ("__debug__" : Str)) = false := by decide) (hcd : (x == ("__classdict__" : Str)) = false := by decide) : S1 X (.Return (some (.Name x pos')) pos) env k4 := .of (ps_ret (pe_var hN hv hd hcd)) fun M0 B M σ c Dd h1 h2 h3 h4 => by
  obtain ⟨o, ho, hr, e1, n1, hs, c1⟩ := c.take h
  refine ⟨mo.val p, hs, h2 _ _ (.inr ⟨σ, p, mo, o, _, B, del M p, rfl, ?_, del_same, n1, c1, Same.refl B, hr, q⟩)⟩
  rw [← e1]
theorem s_retN (q : k4.rt (.d Nn) env) : S1 X (.Return none pos) env k4 := .of ps_retN fun M0 B M σ c Dd h1 h2 h3 h4 => h2 _ _ (.inl ⟨σ, .nowA c q⟩)
theorem s_if {A Bl : List Stmt} (h : EB X c env fun x env' => (x = true → SS X A env' k4) ∧ (x = false → SS X Bl env' k4)) : S1 X (.If c A Bl pos) env k4 := .of (ps_if pt_can pss_can pss_can) fun M0 B M σ cc Dd h1 h2 h3 h4 => h M0 B M σ cc _ fun x H p => by
  obtain ⟨env', B', M', rfl, c', sm, q1, q2⟩ := p
  have go : ∀ {sts : List Stmt}, SS X sts env' k4 → canSs X sts Dd σ (J B' M') := fun q => q M0 B' M' σ c' Dd (fun σ H p => h1 σ H (p.back sm)) (fun v H p => h2 v H (p.back sm)) (fun σ H p => h3 σ H (p.back sm)) (fun σ H p => h4 σ H (p.back sm))
  cases x with
  | true => rw [if_pos rfl]; exact go (q1 rfl)
  | false => rw [if_neg Bool.false_ne_true]; exact go (q2 rfl)
theorem s_pass (q : k4.nx env) : S1 X (.Pass pos) env k4 := .of ps_pass fun M0 B M σ c Dd h1 h2 h3 h4 => h1 _ _ (.now c q)
theorem s_brk (q : k4.bk env) : S1 X (.Break pos) env k4 := .of ps_break fun M0 B M σ c Dd h1 h2 h3 h4 => h3 _ _ (.now c q)
theorem s_ct (q : k4.ct env) : S1 X (.Continue pos) env k4 := .of ps_continue fun M0 B M σ c Dd h1 h2 h3 h4 => h4 _ _ (.now c q)
/-- code that isn't come to -/
theorem ss_never (h : False) : SS X sts env k4 := h.elim
theorem canSs_lock {Dd : Ends} {σ : L2.St} {H : Hp} (h : ∃ d u, H d = some u ∧ Mut (some u) ∧ ∀ od, canSs X sts Dd σ (upd H d (.frz od u))) : canSs X sts Dd σ H := fun pins s I =>
  let ⟨d, u, hd, mu, q⟩ := h; let ⟨od, I2⟩ := I.lock hd mu; q od pins s I2
/-- a state that can't be, a state told otherwise -/
theorem ss_frz (i : Nat) {p : Addr} {mo : MO} (hi : env[i]? = some (.mu p mo)) (h : SS X sts (env.set i (.dat mo.frz)) k4) : SS X sts env k4 := fun M0 B M σ c Dd h1 h2 h3 h4 => by
  obtain ⟨o, ho, hr, e1, n1, hs, c1⟩ := c.take hi
  have fin : ∀ (u : HO), Rp X.K (upd B p u) mo.frz (mo.val p) → canSs X sts Dd σ (upd (J B M) p u) := fun u r2 => by
    have c2 := c1.new (o := u) del_same n1
    have c3 := c2.setU (i := i) (d := mo.frz) (v := mo.val p) (fun a' mo' q => by
      rcases get_set q with ⟨e, _⟩ | ⟨hne, _⟩
      · cases e
      · exact hne rfl) r2
    rw [List.set_set] at c3
    have eσ : σ.set i (some (mo.val p)) = σ := by
      refine List.ext_getElem? fun j => ?_
      by_cases hj : i = j
      · subst hj
        rw [List.getElem?_set_self (by exact (List.getElem?_eq_some_iff.mp hs).1), hs]
      · rw [List.getElem?_set_ne hj]
    rw [eσ] at c3
    have eH : J (upd B p u) (del M p) = upd (J B M) p u := by
      rw [← upd_JB del_same, ← J_del ho]
      funext b
      by_cases hb : b = p
      · rw [hb, upd_same, upd_same]
      · rw [upd_ne hb, upd_ne hb]
        cases e : del M p b with
        | none => rw [J_B e, J_B e, upd_ne hb]
        | some z => rw [J_M e, J_M e]
    rw [← eH]
    have sm := same_new (o := u) n1
    exact h M0 _ _ σ c3 Dd (fun σ H p => h1 σ H (p.back sm)) (fun v H p => h2 v H (p.back sm)) (fun σ H p => h3 σ H (p.back sm)) (fun σ H p => h4 σ H (p.back sm))
  have same : upd (J B M) p o = J B M := by
    funext b
    by_cases hb : b = p
    · rw [hb, upd_same, J_M ho]
    · rw [upd_ne hb]
  cases mo with
  | lst ds =>
    obtain ⟨xs, rfl, hr⟩ := hr
    rw [← same]
    exact fin _ ⟨p, xs, rfl, SqL.of upd_same, hr.mono (same_new n1)⟩
  | dK kvs =>
    obtain ⟨xs, rfl, hr⟩ := hr
    exact canSs_lock ⟨p, _, J_M ho, trivial, fun od => fin _ ⟨p, xs, od, rfl, upd_same, hr.mono (same_new n1)⟩⟩
  | dT kvs =>
    obtain ⟨xs, rfl, hr⟩ := hr
    exact canSs_lock ⟨p, _, J_M ho, trivial, fun od => fin _ ⟨p, xs, od, rfl, upd_same, hr.mono (same_new n1)⟩⟩
  | ob C x ds =>
    rw [← same]
    exact fin _ rfl
/-- while -/
theorem s_while {body : List Stmt} (W : Nat → Env_ → Prop) (m0 : Nat) (h0 : W m0 env)
    (hs : ∀ m env', W m env' → EB X c env' fun x env1 => (x = true → SS X body env1 { nx := fun e => ∃ m', m' < m ∧ W m' e, rt := k4.rt, bk := k4.nx, ct := fun e => ∃ m', m' < m ∧ W m' e }) ∧ (x = false → k4.nx env1))
    (hp : PassesOwn (model X.prog X.w) X.A X.env X.xe := by exact PassesOwn.never) : S1 X (.While c body [] pos) env k4 := .of (ps_while hp pt_can pss_can) fun M0 B M σ cc Dd h1 h2 h3 h4 => by
  refine ⟨fun m σ H => PostS X.K M0 B (W m) σ H, ⟨m0, .now cc h0⟩, fun m σ1 H1 p => ?_⟩
  obtain ⟨env1, B1, M1, rfl, c1, s1, w1⟩ := p
  refine hs m env1 w1 M0 B1 M1 σ1 c1 _ fun x H p => ?_
  obtain ⟨env2, B2, M2, rfl, c2, s2, q1, q2⟩ := p
  have s12 := s1.trans s2
  cases x with
  | true =>
    rw [if_pos rfl]
    refine ⟨fun σ H => ∃ m', m' < m ∧ PostS X.K M0 B (W m') σ H, fun σ' H' z => z, q1 rfl M0 B2 M2 σ1 c2 _ (fun σ H p => ?_) (fun v H p => h2 v H (p.back s12)) (fun σ H p => h1 σ H (p.back s12)) (fun σ H p => ?_)⟩
    · obtain ⟨env3, B3, M3, e3, c3, s3, m', hm, w3⟩ := p
      exact ⟨m', hm, env3, B3, M3, e3, c3, s12.trans s3, w3⟩
    · obtain ⟨env3, B3, M3, e3, c3, s3, m', hm, w3⟩ := p
      exact ⟨m', hm, env3, B3, M3, e3, c3, s12.trans s3, w3⟩
  | false =>
    rw [if_neg Bool.false_ne_true]
    exact h1 _ _ ⟨env2, B2, M2, rfl, c2, s12, q2 rfl⟩
/-- target = e -/
theorem s_asg {tg : Expr} (h : EE X e env fun d env' => EG X tg d env' k4.nx) (hs : swapsWithSole [tg] e pos.line X.env = pure false := by rfl) (hw : swappedStores [tg] e X.env = pure none := by rfl)
    (h1 : (assignEach [tg] X.env).map (·.2) = [assign tg X.env] := by rfl) : S1 X (.Assign [tg] e pos) env k4 := .of (ps_asg pe_can pg_can hs hw h1) fun M0 B M σ c Dd h1 h2 h3 h4 =>
  h M0 B M σ c _ fun v H ⟨d, env', B', M', e1, c', sm, r, q⟩ => by
    subst e1
    exact q M0 B' M' σ c' v r _ fun σ H p => h1 σ H (p.back sm)
theorem EG.of {tg : Expr} {g : TG} {d : D} {kk : Env_ → Prop} (h : PG X tg g) (q : LG X.K g d env kk) : EG X tg d env kk := fun M0 B M σ c v r Q hQ pins s u I ru => h.run pins s σ _ v u Q I ru (q M0 B M σ c v r Q hQ)
theorem EGs.of {tgs : List Expr} {g : TGs} {ds : List D} {kk : Env_ → Prop} (h : PGs X tgs g) (q : LGs X.K g ds env kk) : EGs X tgs ds env kk := fun M0 B M σ c v r Q hQ pins s u I ru => h.run pins s σ _ v u Q I ru (q M0 B M σ c v r Q hQ)
theorem eg_name (i : Nat) {d : D} {x : Str} {kk : Env_ → Prop} (q : kk (env.set i (.dat d))) (hN : X.N.Nodup) (hi : X.N[i]? = some x := by rfl) (hx : Loc X.env.scope x := by first | exact Or.inl rfl | exact Or.inr rfl)
    (hf : X.fn x = true ∨ X.env.scope.names.lookup x = some .local := by first | exact .inl rfl | exact .inr rfl) : EG X (.Name x pos) d env kk := .of (pg_name hN hi hx hf) fun M0 B M σ c v r Q hQ => hQ _ _ (PostS.set c r q)
theorem egs_nil {kk : Env_ → Prop} (q : kk env) : EGs X [] [] env kk := .of pgs_nil fun M0 B M σ c v r Q hQ => by
  cases r
  exact ⟨rfl, hQ _ _ (.now c q)⟩
theorem egs_cons {tg : Expr} {tgs : List Expr} {d : D} {ds : List D} {kk : Env_ → Prop} (h : EG X tg d env fun env' => EGs X tgs ds env' kk) (hs : (assignEach (tg :: tgs) X.env).map (·.2) = assign tg X.env :: (assignEach tgs X.env).map (·.2) := by rfl) : EGs X (tg :: tgs) (d :: ds) env kk :=
  .of (pgs_cons pg_can pgs_can hs) fun M0 B M σ c vs r Q hQ => by
    obtain ⟨x, r', rfl, r1, r2⟩ := r
    refine ⟨x, r', rfl, h M0 B M σ c x r1 _ fun σ1 H1 p => ?_⟩
    obtain ⟨env', B', M', rfl, c', sm, q⟩ := p
    exact q M0 B' M' σ1 c' r' (r2.mono sm) Q fun σ H p => hQ σ H (p.back sm)
theorem eg_tup {tgs : List Expr} {ds : List D} {kk : Env_ → Prop} {k0 : Nat} (h : EGs X tgs ds env kk) (hc : X.calm = true := by rfl) (hn : (assignEach tgs X.env).length = ds.length := by rfl) (hst : (assignEach tgs X.env).findIdx? (·.1) = none := by rfl) : EG X (.Tuple tgs k0 pos) (.tup ds) env kk :=
  .of (pg_tup hc pgs_can hn hst) fun M0 B M σ c v r Q hQ => by
    obtain ⟨p, xs, rfl, hs, hr⟩ := r
    exact ⟨p, xs, rfl, sqT_same c.same hs.sq, hr.length, h M0 B M σ c xs hr Q hQ⟩
theorem eg_wt {tgs : List Expr} {ds : List D} {kk : Env_ → Prop} {k0 : Nat} (h : EGs X tgs ds env kk) (hc : X.calm = true := by rfl) (hn : (assignEach tgs X.env).length = ds.length := by rfl) (hst : (assignEach tgs X.env).findIdx? (·.1) = none := by rfl) : EG X (.Tuple tgs k0 pos) (.wt ds) env kk :=
  .of (pg_tup hc pgs_can hn hst) fun M0 B M σ c v r Q hQ => by
    obtain ⟨p, xs, rfl, hs, hr⟩ := r
    exact ⟨p, xs, rfl, sqT_same c.same hs, hr.length, h M0 B M σ c xs hr Q hQ⟩
end

/-! ### several at once: a, b = x, y -/
inductive TV where
  | d (d : D)
  | m (mo : MO)
/-- the values; those that are new stand aside: Mf is M0 and they -/
def TVs (K : PySem.W.Frag) (B : Hp) : Hp → Hp → List V → List TV → Prop
  | M0, Mf, vs, [] => vs = [] ∧ Mf = M0
  | M0, Mf, vs, .d d :: ts => ∃ v r, vs = v :: r ∧ Rp K B d v ∧ TVs K B M0 Mf r ts
  | M0, Mf, vs, .m mo :: ts => ∃ p o r, vs = mo.val p :: r ∧ RpO K B p mo o ∧ M0 p = none ∧ TVs K B (upd M0 p o) Mf r ts
theorem TVs.mono {K : PySem.W.Frag} {B B' : Hp} (e : Same B B') : ∀ {ts : List TV} {M0 Mf : Hp} {vs : List V}, TVs K B M0 Mf vs ts → TVs K B' M0 Mf vs ts
  | [], _, _, _, h => h
  | .d d :: ts, _, _, _, ⟨v, r, e1, h1, h2⟩ => ⟨v, r, e1, Rp.mono e d v h1, TVs.mono e h2⟩
  | .m mo :: ts, _, _, _, ⟨p, o, r, e1, h1, h2, h3⟩ => ⟨p, o, r, e1, h1.mono e, h2, TVs.mono e h3⟩
theorem TVs.up {K : PySem.W.Frag} {B : Hp} : ∀ {ts : List TV} {M0 Mf : Hp} {vs : List V} {p : Addr} {o : HO}, TVs K B M0 Mf vs ts → M0 p = some o → Mf p = some o
  | [], _, _, _, _, _, ⟨_, e⟩, h => by rw [e]; exact h
  | .d d :: ts, _, _, _, _, _, ⟨v, r, e1, h1, h2⟩, h => TVs.up h2 h
  | .m mo :: ts, _, _, _, _, _, ⟨p, o, r, e1, h1, h2, h3⟩, h => TVs.up h3 (by rw [upd_ne (ne_of_none h h2)]; exact h)
theorem TVs.del {K : PySem.W.Frag} {B : Hp} : ∀ {ts : List TV} {M0 Mf : Hp} {vs : List V} {p : Addr} {o : HO}, M0 p = none → TVs K B (upd M0 p o) Mf vs ts → TVs K B M0 (del Mf p) vs ts
  | [], M0, Mf, vs, p, o, h0, ⟨e1, e2⟩ => ⟨e1, by rw [e2, del_upd h0]⟩
  | .d d :: ts, M0, Mf, vs, p, o, h0, ⟨v, r, e1, h1, h2⟩ => ⟨v, r, e1, h1, TVs.del h0 h2⟩
  | .m mo :: ts, M0, Mf, vs, p, o, h0, ⟨q, u, r, e1, h1, h2, h3⟩ => by
    have hne : q ≠ p := fun z => by rw [z, upd_same] at h2; cases h2
    rw [upd_ne hne] at h2
    refine ⟨q, u, r, e1, h1, h2, TVs.del (o := o) (by rw [upd_ne (Ne.symm hne)]; exact h0) ?_⟩
    rw [← upd_comm (Ne.symm hne)]
    exact h3
def PostU (K : PySem.W.Frag) (M0 : Hp) (σ : L2.St) (B : Hp) (k : List TV → Env_ → Prop) : List V → Hp → Prop := fun vs H => ∃ ts env' B' M' Mf, H = J B' M' ∧ Conc K Mf env' B' M' σ ∧ Same B B' ∧ TVs K B' M0 Mf vs ts ∧ k ts env'
def LU (K : PySem.W.Frag) (t : TA) (env : Env_) (k : List TV → Env_ → Prop) : Prop := ∀ (M0 B M : Hp) (σ : L2.St), Conc K M0 env B M σ → ∀ Q : List V → Hp → Prop, (∀ vs H, PostU K M0 σ B k vs H → Q vs H) → t σ (J B M) Q
def EU (X : Cx) (es : List Expr) (env : Env_) (k : List TV → Env_ → Prop) : Prop := LU X.K (canA X es) env k
def Put : List Nat → List TV → Env_ → (Env_ → Prop) → Prop
  | [], [], env, k => k env
  | i :: is, .d d :: ts, env, k => Put is ts (env.set i (.dat d)) k
  | i :: is, .m mo :: ts, env, k => i < env.length ∧ ∀ p, Put is ts (env.set i (.mu p mo)) k
  | _, _, _, _ => False
def sets (σ : L2.St) : List Nat → List V → L2.St
  | i :: is, v :: vs => sets (σ.set i (some v)) is vs
  | _, _ => σ
section
variable {X : Cx} {K : PySem.W.Frag} {e a b c : Expr} {es rest : List Expr} {env : Env_} {k : List TV → Env_ → Prop} {k4 : K4} {pos : Pos}
variable {M0 B B1 M : Hp} {σ : L2.St}
theorem put_ok {kk : Env_ → Prop} : ∀ (ts : List TV) (is : List Nat) (vs : List V) (M0 Mf B M : Hp) (env : Env_) (σ : L2.St), Conc K Mf env B M σ → TVs K B M0 Mf vs ts → Put is ts env kk → PostS K M0 B kk (sets σ is vs) (J B M)
  | [], [], vs, M0, Mf, B, M, env, σ, c, ⟨e1, e2⟩, p => by
    subst e1 e2
    exact .now c p
  | .d d :: ts, i :: is, vs, M0, Mf, B, M, env, σ, c, ⟨v, r, e1, h1, h2⟩, p => by
    subst e1
    obtain ⟨B', M', e2, s2, c2⟩ := c.set i h1
    rw [← e2]
    exact (put_ok ts is r M0 Mf B' M' _ _ c2 (h2.mono s2) p).back s2
  | .m mo :: ts, i :: is, vs, M0, Mf, B, M, env, σ, c, ⟨q, o, r, e1, h1, h2, h3⟩, ⟨hl, p⟩ => by
    subst e1
    obtain ⟨B', M', e2, s2, c2⟩ := c.adopt (p := q) (o := o) (h3.up upd_same) h1 hl
    rw [← e2]
    exact (put_ok ts is r M0 (del Mf q) B' M' _ _ c2 ((TVs.del h2 h3).mono s2) (p q)).back s2
  | [], _ :: _, _, _, _, _, _, _, _, _, _, p => p.elim
  | .d _ :: _, [], _, _, _, _, _, _, _, _, _, p => p.elim
  | .m _ :: _, [], _, _, _, _, _, _, _, _, _, p => p.elim
theorem EU.of {t : TA} (h : PA X es t) (q : LU X.K t env k) : EU X es env k := fun M0 B M σ c Q hQ pos pins s I => h.run pos pins s σ _ Q I (q M0 B M σ c Q hQ)
theorem eu_nil (q : k [] env) : EU X [] env k := .of pa_nil fun M0 B M σ c Q hQ => hQ _ _ ⟨[], env, B, M, M0, rfl, c, Same.refl B, ⟨rfl, rfl⟩, q⟩
theorem eu_d (h : EE X a env fun d env1 => EU X es env1 fun ts env2 => k (.d d :: ts) env2) (hs : starEach (a :: es) X.env = (false, eval a X.env) :: starEach es X.env := by rfl) : EU X (a :: es) env k := .of (pa_cons pe_can pa_can hs) fun M0 B M σ c Q hQ =>
  h M0 B M σ c _ fun v H ⟨d, env', B', M', e1, c', sm, r, q⟩ => by
    subst e1
    refine q M0 B' M' σ c' _ fun vs H ⟨ts, env2, B2, M2, Mf, e2, c2, s2, r2, q2⟩ => ?_
    subst e2
    exact hQ _ _ ⟨.d d :: ts, env2, B2, M2, Mf, rfl, c2, sm.trans s2, ⟨v, vs, rfl, Rp.mono s2 d v r, r2⟩, q2⟩
theorem eu_m (h : EM X a env fun mo env1 => EU X es env1 fun ts env2 => k (.m mo :: ts) env2) (hs : starEach (a :: es) X.env = (false, eval a X.env) :: starEach es X.env := by rfl) : EU X (a :: es) env k := .of (pa_cons pe_can pa_can hs) fun M0 B M σ c Q hQ =>
  h M0 B M σ c _ fun v H ⟨p, mo, o, env', B', M', e0, e1, n1, n2, c', sm, r, q⟩ => by
    subst e0 e1
    have c'' := c'.hide (o := o) n1 n2
    refine q (upd M0 p o) B' (upd M' p o) σ c'' _ fun vs H ⟨ts, env2, B2, M2, Mf, e2, c2, s2, r2, q2⟩ => ?_
    subst e2
    refine hQ _ _ ⟨.m mo :: ts, env2, B2, M2, Mf, rfl, c2, sm.trans s2, ⟨p, o, vs, rfl, r.mono s2, ?_, r2⟩, q2⟩
    rw [← c'.frame p fun j mo' z => ?_]
    · exact n1
    · obtain ⟨s, _, _, u, hu, _⟩ := c'.slot j _ z
      rw [n1] at hu; cases hu
/-- a, b = x, y with plain local names -/
theorem s_par (i j : Nat) {x y : Str} {px py pt : Pos} {kt k2 pt2} (h : EU X [a, b] env fun ts env' => Put [i, j] ts env' k4.nx) (hN : X.N.Nodup) (hc : X.calm = true := by rfl) (hi : X.N[i]? = some x := by rfl) (hj : X.N[j]? = some y := by rfl) (hij : i ≠ j := by decide)
    (hx : X.env.scope.names.lookup x = some .local := by rfl) (hy : X.env.scope.names.lookup y = some .local := by rfl)
    (hw : swappedStores [.Tuple [.Name x px, .Name y py] kt pt] (.Tuple [a, b] k2 pt2) X.env = pure (some [x, y]) := by rfl)
    (hs : swapsWithSole [.Tuple [.Name x px, .Name y py] kt pt] (.Tuple [a, b] k2 pt2) pos.line X.env = pure false := by rfl) : S1 X (.Assign [.Tuple [.Name x px, .Name y py] kt pt] (.Tuple [a, b] k2 pt2) pos) env k4 :=
  .of (ps_par hc hN hi hj hij hx hy pa_can hw hs) fun M0 B M σ c Dd h1 h2 h3 h4 => h M0 B M σ c _ fun vs H ⟨ts, env2, B2, M2, Mf, e2, c2, s2, r2, q2⟩ => by
    subst e2
    obtain ⟨v, w, rfl⟩ : ∃ v w, vs = [v, w] := by
      match ts, r2, q2 with
      | [], _, q2 => exact q2.elim
      | [.d _], _, q2 => exact q2.elim
      | [.m _], _, q2 => exact (q2.2 0).elim
      | [.d _, .d _], ⟨v, r, e1, _, w, r', e2, _, e3, _⟩, _ => exact ⟨v, w, by rw [e1, e2, e3]⟩
      | [.d _, .m _], ⟨v, r, e1, _, w, o, r', e2, _, _, e3, _⟩, _ => exact ⟨v, _, by rw [e1, e2, e3]⟩
      | [.m _, .d _], ⟨v, o, r, e1, _, _, w, r', e2, _, e3, _⟩, _ => exact ⟨_, w, by rw [e1, e2, e3]⟩
      | [.m _, .m _], ⟨v, o, r, e1, _, _, w, o', r', e2, _, _, e3, _⟩, _ => exact ⟨_, _, by rw [e1, e2, e3]⟩
      | .d _ :: .d _ :: .d _ :: _, _, q2 => exact q2.elim
      | .d _ :: .d _ :: .m _ :: _, _, q2 => exact q2.elim
      | .d _ :: .m _ :: .d _ :: _, _, q2 => exact (q2.2 0).elim
      | .d _ :: .m _ :: .m _ :: _, _, q2 => exact (q2.2 0).elim
      | .m _ :: .d _ :: .d _ :: _, _, q2 => exact (q2.2 0).elim
      | .m _ :: .d _ :: .m _ :: _, _, q2 => exact (q2.2 0).elim
      | .m _ :: .m _ :: .d _ :: _, _, q2 => exact ((q2.2 0).2 0).elim
      | .m _ :: .m _ :: .m _ :: _, _, q2 => exact ((q2.2 0).2 0).elim
    exact ⟨v, w, rfl, h1 _ _ ((put_ok ts [i, j] [v, w] M0 Mf B2 M2 env2 σ c2 r2 q2).back s2)⟩
end
end Sy
namespace Sy
open PySem PySem.Spec PyProof.Rows L2

/-! ### arguments that are data -/
def PostDs (K : PySem.W.Frag) (M0 : Hp) (σ : L2.St) (B : Hp) (k : List D → Env_ → Prop) : List V → Hp → Prop := fun vs H => ∃ ds env' B' M', H = J B' M' ∧ Conc K M0 env' B' M' σ ∧ Same B B' ∧ RpA K B' ds vs ∧ k ds env'
def LDs (K : PySem.W.Frag) (t : TA) (env : Env_) (k : List D → Env_ → Prop) : Prop := ∀ (M0 B M : Hp) (σ : L2.St), Conc K M0 env B M σ → ∀ Q : List V → Hp → Prop, (∀ vs H, PostDs K M0 σ B k vs H → Q vs H) → t σ (J B M) Q
def ED (X : Cx) (es : List Expr) (env : Env_) (k : List D → Env_ → Prop) : Prop := LDs X.K (canA X es) env k
abbrev Dis (B M : Hp) : Prop := ∀ (a : Addr) (o : HO), M a = some o → B a = none
section
variable {X : Cx} {K : PySem.W.Frag} {e a b c : Expr} {es rest : List Expr} {env : Env_} {k : List D → Env_ → Prop} {ke : D → Env_ → Prop} {km : MO → Env_ → Prop} {kl : List D → Env_ → Prop} {k4 : K4} {pos p : Pos}
variable {M0 B B1 M : Hp} {σ : L2.St}
theorem ED.of {t : TA} (h : PA X es t) (q : LDs X.K t env k) : ED X es env k := fun M0 B M σ c Q hQ pos pins s I => h.run pos pins s σ _ Q I (q M0 B M σ c Q hQ)
theorem ed_nil (q : k [] env) : ED X [] env k := .of pa_nil fun M0 B M σ c Q hQ => hQ _ _ ⟨[], env, B, M, rfl, c, Same.refl B, rfl, q⟩
theorem ed_cons (h : EE X a env fun d env1 => ED X es env1 fun ds env2 => k (d :: ds) env2) (hs : starEach (a :: es) X.env = (false, eval a X.env) :: starEach es X.env := by rfl) : ED X (a :: es) env k := .of (pa_cons pe_can pa_can hs) fun M0 B M σ c Q hQ =>
  h M0 B M σ c _ fun v H ⟨d, env', B', M', e1, c', sm, r, q⟩ => by
    subst e1
    refine q M0 B' M' σ c' _ fun vs H ⟨ds, env2, B2, M2, e2, c2, s2, r2, q2⟩ => ?_
    subst e2
    exact hQ _ _ ⟨d :: ds, env2, B2, M2, rfl, c2, sm.trans s2, ⟨v, vs, rfl, Rp.mono s2 d v r, r2⟩, q2⟩

/-! ### promises -/
abbrev FSp := List D → (Res → Prop) → Prop
abbrev FSs := MO → List D → (Res → MO → Prop) → Prop
def RetOk (K : PySem.W.Frag) (B M : Hp) (Q : VK) : Res → Prop
  | .d d => ∀ v B', Same B B' → Dis B' M → Rp K B' d v → Q v (J B' M)
  | .m mo => ∀ a o B', Same B B' → Dis B' M → M a = none → B' a = none → RpO K B' a mo o → Q (mo.val a) (J B' (upd M a o))
/-- what a def leaves in a thing of one's own is the same thing -/
@[reducible] def kS : MO → MO → Prop → Prop
  | .ob C x _, .ob C' x' _, p => (C' = C ∧ x' = x) ∧ p
  | .ob _ _ _, _, _ => False
  | _, .ob _ _ _, _ => False
  | _, _, p => p
theorem kS_val {mo mo' : MO} {p : Prop} (h : kS mo mo' p) (a : Addr) : mo'.val a = mo.val a ∧ p := by
  cases mo <;> cases mo' <;> first | exact h.elim | exact ⟨rfl, h⟩ | exact ⟨by rw [show _ = _ from h.1.2], h.2⟩
def RetOkS (K : PySem.W.Frag) (B M : Hp) (a : Addr) (v0 : V) (Q : VK) : Res → MO → Prop
  | .d d, mo => ∀ v B' o, mo.val a = v0 → Same B B' → Dis B' M → RpO K B' a mo o → Rp K B' d v → Q v (J B' (upd M a o))
  | .m m, mo => ∀ p u B' o, mo.val a = v0 → Same B B' → Dis B' M → RpO K B' a mo o → M p = none → B' p = none → RpO K B' p m u → Q (m.val p) (J B' (upd (upd M a o) p u))
def spF (K : PySem.W.Frag) (F : FSp) : Sp := fun vs H Q _ => ∃ B M ds q, H = J B M ∧ Dis B M ∧ RpA K B ds vs ∧ F ds q ∧ ∀ r, q r → RetOk K B M Q r
def spS (K : PySem.W.Frag) (F : FSs) : Sp := fun vs H Q _ => ∃ B M a mo o ds vs' q, vs = mo.val a :: vs' ∧ H = J B M ∧ Dis B M ∧ M a = some o ∧ RpO K B a mo o ∧ RpA K B ds vs' ∧ F mo ds q ∧ ∀ r mo', q r mo' → RetOkS K B M a (mo.val a) Q r mo'
variable {CX : CXT} {f : Addr} {fd : FuncData} {ps : List Str} {E : XK} {x : Str} {n : Nat}
/-- f(..) -/
theorem ee_call {F : FSp} (G : FnOk X.prog X.w X.K X.mg X.base CX n f fd ps (spF X.K F)) (hr : Room n X.A) (hm : X.mg x = some (.ref f)) (hk : PySem.W.keepIn X.K (.ref f) = true) (hb : Binds X.K fd ps []) (hx : Passes CX X E)
    (h : ED X (e :: es) env fun ds env' => F ds fun r => ∃ d, r = .d d ∧ ke d env') (hg : Gl X x := by rfl) (hdb : (x == ("__debug__" : Str)) = false := by decide) (he : starEach (e :: es) X.env = (false, eval e X.env) :: starEach es X.env := by rfl) (hpl : (backTo pos (starEach es X.env)).any (·.1) = false := by rfl) :
    EE X (.Call (.Name x p) (e :: es) [] pos) env ke := .of (pe_call G hr hg hm hk hb .nil hx pa_can hdb he hpl) fun M0 B M σ c Q hQ => h M0 B M σ c _ fun vs H ⟨ds, env', B', M', e1, c', sm, r, q⟩ => by
  subst e1
  refine ⟨B', M', ds, _, rfl, c'.dis, by rw [List.append_nil]; exact r, q, fun r h => ?_⟩
  obtain ⟨d, rfl, h⟩ := h
  intro v B2 s2 d2 r2
  exact hQ _ _ ⟨d, env', B2, M', rfl, c'.ext s2 d2, sm.trans s2, r2, h⟩
theorem em_call {F : FSp} (G : FnOk X.prog X.w X.K X.mg X.base CX n f fd ps (spF X.K F)) (hr : Room n X.A) (hm : X.mg x = some (.ref f)) (hk : PySem.W.keepIn X.K (.ref f) = true) (hb : Binds X.K fd ps []) (hx : Passes CX X E)
    (h : ED X (e :: es) env fun ds env' => F ds fun r => ∃ mo, r = .m mo ∧ km mo env') (hg : Gl X x := by rfl) (hdb : (x == ("__debug__" : Str)) = false := by decide) (he : starEach (e :: es) X.env = (false, eval e X.env) :: starEach es X.env := by rfl) (hpl : (backTo pos (starEach es X.env)).any (·.1) = false := by rfl) :
    EM X (.Call (.Name x p) (e :: es) [] pos) env km := .of (pe_call G hr hg hm hk hb .nil hx pa_can hdb he hpl) fun M0 B M σ c Q hQ => h M0 B M σ c _ fun vs H ⟨ds, env', B', M', e1, c', sm, r, q⟩ => by
  subst e1
  refine ⟨B', M', ds, _, rfl, c'.dis, by rw [List.append_nil]; exact r, q, fun r h => ?_⟩
  obtain ⟨mo, rfl, h⟩ := h
  intro a o B2 s2 d2 n1 n2 r2
  exact hQ _ _ ⟨a, mo, o, env', B2, M', rfl, rfl, n1, n2, c'.ext s2 d2, sm.trans s2, r2, h⟩
theorem ee_call0 {F : FSp} (G : FnOk X.prog X.w X.K X.mg X.base CX n f fd ps (spF X.K F)) (hr : Room n X.A) (hm : X.mg x = some (.ref f)) (hk : PySem.W.keepIn X.K (.ref f) = true) (hb : Binds X.K fd ps []) (hx : Passes CX X E)
    (h : F [] fun r => ∃ d, r = .d d ∧ ke d env) (hg : Gl X x := by rfl) (hdb : (x == ("__debug__" : Str)) = false := by decide) : EE X (.Call (.Name x p) [] [] pos) env ke := .of (pe_call0 G hr hg hm hk hb .nil hx hdb) fun M0 B M σ c Q hQ => by
  refine ⟨B, M, [], _, rfl, c.dis, rfl, h, fun r h => ?_⟩
  obtain ⟨d, rfl, h⟩ := h
  intro v B2 s2 d2 r2
  exact hQ _ _ ⟨d, env, B2, M, rfl, c.ext s2 d2, s2, r2, h⟩
theorem em_call0 {F : FSp} (G : FnOk X.prog X.w X.K X.mg X.base CX n f fd ps (spF X.K F)) (hr : Room n X.A) (hm : X.mg x = some (.ref f)) (hk : PySem.W.keepIn X.K (.ref f) = true) (hb : Binds X.K fd ps []) (hx : Passes CX X E)
    (h : F [] fun r => ∃ mo, r = .m mo ∧ km mo env) (hg : Gl X x := by rfl) (hdb : (x == ("__debug__" : Str)) = false := by decide) : EM X (.Call (.Name x p) [] [] pos) env km := .of (pe_call0 G hr hg hm hk hb .nil hx hdb) fun M0 B M σ c Q hQ => by
  refine ⟨B, M, [], _, rfl, c.dis, rfl, h, fun r h => ?_⟩
  obtain ⟨mo, rfl, h⟩ := h
  intro a o B2 s2 d2 n1 n2 r2
  exact hQ _ _ ⟨a, mo, o, env, B2, M, rfl, rfl, n1, n2, c.ext s2 d2, s2, r2, h⟩
/-- how a def of n positional values and the keywords ks binds -/
def KB (K : PySem.W.Frag) (fd : FuncData) (ps ks : List Str) (n : Nat) : Prop := ps ≠ [] ∧ ∀ (s : Shared) (us ws : List Value), K.In s.heap → us.length = n → ws.length = ks.length → BindsTo s fd ⟨us, ks.zip ws⟩ (ps.zip (us ++ ws))
def gK {α : Type} (n m : Nat) (us ws : List α) : List α := if us.length = n ∧ ws.length = m then us ++ ws else []
theorem KB.binds {ks : List Str} (h : KB K fd ps ks n) : KBinds K fd ps ks (gK n ks.length) (gK n ks.length) := ⟨fun s us ws hk hl => by
  unfold gK at hl ⊢
  by_cases c : us.length = n ∧ ws.length = ks.length
  · rw [if_pos c]
    exact h.2 s us ws hk c.1 c.2
  · rw [if_neg c] at hl
    exact absurd (List.length_eq_zero_iff.mp hl.symm) h.1, fun r1 r2 => by
  unfold gK
  rw [r1.length, r2.length]
  split
  · exact r1.append r2
  · exact .nil⟩
/-- f(e, .., k = v, ..) -/
theorem ee_callK {F : FSp} {ks : List Str} {kws : List Keyword} {np : Nat} (G : FnOk X.prog X.w X.K X.mg X.base CX n f fd ps (spF X.K F)) (hr : Room n X.A) (hm : X.mg x = some (.ref f)) (hk : PySem.W.keepIn X.K (.ref f) = true) (hb : KB X.K fd ps ks np) (hx : Passes CX X E)
    {tk : TA} (hkw : PK X kws tk)
    (h : ED X (e :: es) env fun ds env' => LDs X.K tk env' fun zs env2 => ds.length = np ∧ zs.length = ks.length ∧ F (ds ++ zs) fun r => ∃ d, r = .d d ∧ ke d env2) (hall : (backToKw pos (keywordEach kws X.env)).all (·.1.isSome) = true := by rfl) (hks : (backToKw pos (keywordEach kws X.env)).filterMap (·.1) = ks := by rfl)
    (hg : Gl X x := by rfl) (hdb : (x == ("__debug__" : Str)) = false := by decide) (he : starEach (e :: es) X.env = (false, eval e X.env) :: starEach es X.env := by rfl)
    (hpl : ((backTo pos (starEach (e :: es) X.env)).any (·.1) || (backToKw pos (keywordEach kws X.env)).any (·.1.isNone)) = false := by rfl) :
    EE X (.Call (.Name x p) (e :: es) kws pos) env ke := .of (pe_callK G hr hg hm hk hb.binds hx pa_can hkw hall hks hdb he hpl) fun M0 B M σ c Q hQ => h M0 B M σ c _ fun vs H ⟨ds, env', B', M', e1, c', sm, r, q⟩ => by
  subst e1
  refine q M0 B' M' σ c' _ fun zs H ⟨es', env2, B2, M2, e2, c2, s2, r2, q2⟩ => ?_
  subst e2
  obtain ⟨l1, l2, q2⟩ := q2
  refine ⟨B2, M2, ds ++ es', _, rfl, c2.dis, ?_, q2, fun r h => ?_⟩
  · unfold gK
    rw [if_pos ⟨r.length.trans l1, r2.length.trans l2⟩]
    exact RpA.append (r.mono s2) r2
  obtain ⟨d, rfl, h⟩ := h
  intro v B3 s3 d3 r3
  exact hQ _ _ ⟨d, env2, B3, M2, rfl, c2.ext s3 d3, (sm.trans s2).trans s3, r3, h⟩
/-- f(e, .., k = v, ..) -/
theorem em_callK {F : FSp} {ks : List Str} {kws : List Keyword} {np : Nat} (G : FnOk X.prog X.w X.K X.mg X.base CX n f fd ps (spF X.K F)) (hr : Room n X.A) (hm : X.mg x = some (.ref f)) (hk : PySem.W.keepIn X.K (.ref f) = true) (hb : KB X.K fd ps ks np) (hx : Passes CX X E)
    {tk : TA} (hkw : PK X kws tk)
    (h : ED X (e :: es) env fun ds env' => LDs X.K tk env' fun zs env2 => ds.length = np ∧ zs.length = ks.length ∧ F (ds ++ zs) fun r => ∃ mo, r = .m mo ∧ km mo env2) (hall : (backToKw pos (keywordEach kws X.env)).all (·.1.isSome) = true := by rfl) (hks : (backToKw pos (keywordEach kws X.env)).filterMap (·.1) = ks := by rfl)
    (hg : Gl X x := by rfl) (hdb : (x == ("__debug__" : Str)) = false := by decide) (he : starEach (e :: es) X.env = (false, eval e X.env) :: starEach es X.env := by rfl)
    (hpl : ((backTo pos (starEach (e :: es) X.env)).any (·.1) || (backToKw pos (keywordEach kws X.env)).any (·.1.isNone)) = false := by rfl) :
    EM X (.Call (.Name x p) (e :: es) kws pos) env km := .of (pe_callK G hr hg hm hk hb.binds hx pa_can hkw hall hks hdb he hpl) fun M0 B M σ c Q hQ => h M0 B M σ c _ fun vs H ⟨ds, env', B', M', e1, c', sm, r, q⟩ => by
  subst e1
  refine q M0 B' M' σ c' _ fun zs H ⟨es', env2, B2, M2, e2, c2, s2, r2, q2⟩ => ?_
  subst e2
  obtain ⟨l1, l2, q2⟩ := q2
  refine ⟨B2, M2, ds ++ es', _, rfl, c2.dis, ?_, q2, fun r h => ?_⟩
  · unfold gK
    rw [if_pos ⟨r.length.trans l1, r2.length.trans l2⟩]
    exact RpA.append (r.mono s2) r2
  obtain ⟨mo, rfl, h⟩ := h
  intro a o B3 s3 d3 n1 n2 r3
  exact hQ _ _ ⟨a, mo, o, env2, B3, M2, rfl, rfl, n1, n2, c2.ext s3 d3, (sm.trans s2).trans s3, r3, h⟩
theorem lds_nil (q : k [] env) : LDs K tNil env k := fun M0 B M σ c Q hQ => hQ _ _ ⟨[], env, B, M, rfl, c, Same.refl B, rfl, q⟩
theorem lds_cons {te : TE} {t : TA} (h : LE K te env fun d env1 => LDs K t env1 fun ds env2 => k (d :: ds) env2) : LDs K (tCons te t) env k := fun M0 B M σ c Q hQ =>
  h M0 B M σ c _ fun v H ⟨d, env', B', M', e1, c', sm, r, q⟩ => by
    subst e1
    refine q M0 B' M' σ c' _ fun vs H ⟨ds, env2, B2, M2, e2, c2, s2, r2, q2⟩ => ?_
    subst e2
    exact hQ _ _ ⟨d :: ds, env2, B2, M2, rfl, c2, sm.trans s2, ⟨v, vs, rfl, Rp.mono s2 d v r, r2⟩, q2⟩
/-- f(x, ..), x a thing of one's own in slot i that f may change -/
theorem ee_callS (i : Nat) {F : FSs} {y : Str} {py : Pos} {mo0 : MO} {a0 : Addr} (G : FnOk X.prog X.w X.K X.mg X.base CX n f fd ps (spS X.K F)) (hr : Room n X.A) (hm : X.mg x = some (.ref f)) (hk : PySem.W.keepIn X.K (.ref f) = true) (hb : Binds X.K fd ps []) (hx : Passes CX X E)
    (hi : env[i]? = some (.mu a0 mo0))
    (h : ED X es env fun ds env' => ∃ mo, env'[i]? = some (.mu a0 mo) ∧ F mo ds fun r mo' => ∃ d, r = .d d ∧ ke d (env'.set i (.mu a0 mo')))
    (hN : X.N[i]? = some y := by rfl) (hv : Vis X.env.scope y := by first | exact Or.inl rfl | exact Or.inr (Or.inl rfl) | exact Or.inr (Or.inr rfl)) (hd : (y == ("__debug__" : Str)) = false := by decide) (hcd : (y == ("__classdict__" : Str)) = false := by decide)
    (hg : Gl X x := by rfl) (hdb : (x == ("__debug__" : Str)) = false := by decide) (he : starEach (.Name y py :: es) X.env = (false, eval (.Name y py) X.env) :: starEach es X.env := by rfl) (hpl : (backTo pos (starEach es X.env)).any (·.1) = false := by rfl) :
    EE X (.Call (.Name x p) (.Name y py :: es) [] pos) env ke := .of (pe_call G hr hg hm hk hb .nil hx (pa_cons (pe_var hN hv hd hcd) pa_can he) hdb he hpl) fun M0 B M σ c Q hQ => by
  obtain ⟨s, hs, e1, o, ho, hr0⟩ := c.slot i _ hi
  refine ⟨mo0.val a0, by rw [hs, e1], h M0 B M σ c _ fun vs H ⟨ds, env', B', M', e3, c', sm, r, mo, hi', q⟩ => ?_⟩
  subst e3
  obtain ⟨s', hs', e2, o', ho', hr'⟩ := c'.slot i _ hi'
  have ev : mo0.val a0 = mo.val a0 := by
    rw [hs, e1] at hs'
    rw [← Option.some.inj hs'] at e2
    exact Option.some.inj e2
  refine ⟨B', M', a0, mo, o', ds, vs, _, by rw [List.append_nil, ev], rfl, c'.dis, ho', hr', r, q, fun r mo' h => ?_⟩
  obtain ⟨d, rfl, h⟩ := h
  intro v B2 o2 hv s2 d2 r2 r3
  exact hQ _ _ ⟨d, _, B2, upd M' a0 o2, rfl, (c'.ext s2 d2).mut hi' r2 hv, sm.trans s2, r3, h⟩
theorem em_callS (i : Nat) {F : FSs} {y : Str} {py : Pos} {mo0 : MO} {a0 : Addr} (G : FnOk X.prog X.w X.K X.mg X.base CX n f fd ps (spS X.K F)) (hr : Room n X.A) (hm : X.mg x = some (.ref f)) (hk : PySem.W.keepIn X.K (.ref f) = true) (hb : Binds X.K fd ps []) (hx : Passes CX X E)
    (hi : env[i]? = some (.mu a0 mo0))
    (h : ED X es env fun ds env' => ∃ mo, env'[i]? = some (.mu a0 mo) ∧ F mo ds fun r mo' => ∃ m, r = .m m ∧ km m (env'.set i (.mu a0 mo')))
    (hN : X.N[i]? = some y := by rfl) (hv : Vis X.env.scope y := by first | exact Or.inl rfl | exact Or.inr (Or.inl rfl) | exact Or.inr (Or.inr rfl)) (hd : (y == ("__debug__" : Str)) = false := by decide) (hcd : (y == ("__classdict__" : Str)) = false := by decide)
    (hg : Gl X x := by rfl) (hdb : (x == ("__debug__" : Str)) = false := by decide) (he : starEach (.Name y py :: es) X.env = (false, eval (.Name y py) X.env) :: starEach es X.env := by rfl) (hpl : (backTo pos (starEach es X.env)).any (·.1) = false := by rfl) :
    EM X (.Call (.Name x p) (.Name y py :: es) [] pos) env km := .of (pe_call G hr hg hm hk hb .nil hx (pa_cons (pe_var hN hv hd hcd) pa_can he) hdb he hpl) fun M0 B M σ c Q hQ => by
  obtain ⟨s, hs, e1, o, ho, hr0⟩ := c.slot i _ hi
  refine ⟨mo0.val a0, by rw [hs, e1], h M0 B M σ c _ fun vs H ⟨ds, env', B', M', e3, c', sm, r, mo, hi', q⟩ => ?_⟩
  subst e3
  obtain ⟨s', hs', e2, o', ho', hr'⟩ := c'.slot i _ hi'
  have ev : mo0.val a0 = mo.val a0 := by
    rw [hs, e1] at hs'
    rw [← Option.some.inj hs'] at e2
    exact Option.some.inj e2
  refine ⟨B', M', a0, mo, o', ds, vs, _, by rw [List.append_nil, ev], rfl, c'.dis, ho', hr', r, q, fun r mo' h => ?_⟩
  obtain ⟨m, rfl, h⟩ := h
  intro p u B2 o2 hv s2 d2 r2 n1 n2 r3
  have hne : p ≠ a0 := fun z => by rw [z, ho'] at n1; cases n1
  exact hQ _ _ ⟨p, m, u, _, B2, upd M' a0 o2, rfl, rfl, by rw [upd_ne hne]; exact n1, n2, (c'.ext s2 d2).mut hi' r2 hv, sm.trans s2, r3, h⟩
end

/-! ### a def keeps its promise -/
section
variable {P : Program} {w : World} {K : PySem.W.Frag} {mg : Str → Option Value} {base : Heap} {x qual : Str} {st : Stmt} {f : Addr} {fd : FuncData} {N ps : List Str} {n : Nat}
def env0 (N : List Str) (ds : List D) : Env_ := ds.map .dat ++ List.replicate (N.length - ds.length) .un
theorem conc_start {B M : Hp} {ds : List D} {vs : List V} (hd : Dis B M) (r : RpA K B ds vs) : Conc K M (env0 N ds) B M (start N vs) := by
  have hl := r.length
  have nomu : ∀ (i : Nat) (a : Addr) (mo : MO), (env0 N ds)[i]? ≠ some (.mu a mo) := fun i a mo q => by
    unfold env0 at q
    rw [List.getElem?_append] at q
    split at q
    · rw [List.getElem?_map] at q
      cases e : ds[i]? with
      | none => rw [e] at q; cases q
      | some d => rw [e] at q; cases q
    · rw [List.getElem?_replicate] at q
      split at q
      · cases q
      · cases q
  refine ⟨hd, ?_, fun i d q => ?_, fun i j a mo mo' q => (nomu i a mo q).elim, fun i a mo q => (nomu i a mo q).elim, fun a _ => rfl⟩
  · unfold env0 L2.start
    rw [List.length_append, List.length_append, List.length_map, List.length_map, List.length_replicate, List.length_replicate, hl]
  · unfold env0 at q
    rw [List.getElem?_append] at q
    split at q
    · rename_i hi
      rw [List.length_map] at hi
      rw [List.getElem?_map] at q
      cases e : ds[i]? with
      | none => rw [e] at q; cases q
      | some d' =>
        rw [e] at q
        obtain ⟨v, hv, hr⟩ := r.get e
        have e2 : Desc.dat d' = d := Option.some.inj q
        subst e2
        refine ⟨some v, ?_, v, rfl, hr⟩
        unfold L2.start
        rw [List.getElem?_append_left (by rw [List.length_map]; omega), List.getElem?_map, hv]
        rfl
    · rename_i hi
      rw [List.length_map] at hi
      rw [List.getElem?_replicate] at q
      split at q
      · rename_i hi2
        rw [List.length_map] at hi2
        have e2 : Desc.un = d := Option.some.inj q
        subst e2
        refine ⟨none, ?_, trivial⟩
        unfold L2.start
        rw [List.getElem?_append_right (by rw [List.length_map]; omega), List.getElem?_replicate, List.length_map, if_pos (by omega)]
      · cases q
theorem fn_F {F : FSp} (Fn : Fun K x qual st f fd) (S : FnScope N ps (defScope st)) (hlen : ∀ ds q, F ds q → ds.length = ps.length)
    (hb : ∀ (cdv : Value) (A : Around) (outer : List Env) (s : Shared) (H : Hp) (E : XK), Room n (A.deeper (envOfC qual (defScope st) s.heap.objs.size f cdv)) → ∀ ds q, F ds q →
      SS (cxOf CX0 P w K mg base N qual (defScope st) f cdv A outer s H E).nox (defBody st) (env0 N ds) { nx := fun _ => q (.d Nn), rt := fun r _ => q r }) : FnOk P w K mg base CX0 (n + 1) f fd ps (spF K F) := by
  refine Fn.ok S (fun vs H Q E h => ?_) (fun cdv A outer s H vs Q E hr h => ?_)
  · obtain ⟨B, M, ds, q, _, _, r, hF, _⟩ := h
    rw [r.length, hlen ds q hF]
  · obtain ⟨B, M, ds, q, rfl, hd, r, hF, hq⟩ := h
    refine ⟨_, pss_can, ?_⟩
    refine hb cdv A outer s _ E hr ds q hF M B M (start N vs) (conc_start hd r) _ (fun σ H p => ?_) (fun v H p => ?_) (fun σ H p => ?_) (fun σ H p => ?_)
    · obtain ⟨env', B', M', rfl, c, sm, z⟩ := p
      obtain ⟨B2, e2, s2, d2⟩ := c.out
      show Q .non (J B' M')
      rw [← e2]
      exact hq _ z .non B2 (sm.trans s2) d2 rfl
    · rcases p with ⟨σ', d, env', B', M', rfl, c, sm, r', z⟩ | ⟨σ', a, mo, o, env', B', M', rfl, rfl, n1, n2, c, sm, r', z⟩
      · obtain ⟨B2, e2, s2, d2⟩ := c.out
        show Q v (J B' M')
        rw [← e2]
        exact hq _ z v B2 (sm.trans s2) d2 (Rp.mono s2 d v r')
      · obtain ⟨B2, e2, s2, d2⟩ := c.out
        show Q (mo.val a) (J B' (upd M' a o))
        have hn : J B2 M a = none := by rw [e2, J_B n1]; exact n2
        obtain ⟨h1, h2⟩ := J_none hn
        rw [← upd_JM, ← e2, upd_JM]
        exact hq _ z a o B2 (sm.trans s2) d2 h1 h2 (r'.mono s2)
    · obtain ⟨_, _, _, _, _, _, z⟩ := p; exact z.elim
    · obtain ⟨_, _, _, _, _, _, z⟩ := p; exact z.elim
def envS (N : List Str) (a : Addr) (mo : MO) (ds : List D) : Env_ := .mu a mo :: (ds.map .dat ++ List.replicate (N.length - (ds.length + 1)) .un)
theorem conc_startS {B M : Hp} {a : Addr} {mo : MO} {o : HO} {ds : List D} {vs : List V} (hd : Dis B M) (ha : M a = some o) (hr : RpO K B a mo o) (r : RpA K B ds vs) : Conc K (del M a) (envS N a mo ds) B M (start N (mo.val a :: vs)) := by
  have c0 : Conc K (del M a) (env0 N (Nn :: ds)) B (del M a) (start N (.non :: vs)) := conc_start (fun b u q => by
    by_cases hb : b = a
    · rw [hb, del_same] at q; cases q
    · rw [del_ne hb] at q; exact hd b u q) ⟨.non, vs, rfl, rfl, r⟩
  have c1 := c0.setM 0 (p := a) (mo := mo) (o := o) del_same (hd a o ha) hr (by unfold env0; simp)
  have nomu : ∀ (i : Nat) (a : Addr) (mo : MO), (env0 N (Nn :: ds))[i]? ≠ some (.mu a mo) := fun i a mo q => by
    unfold env0 at q
    rw [List.getElem?_append] at q
    split at q
    · rw [List.getElem?_map] at q
      cases e : (Nn :: ds)[i]? with
      | none => rw [e] at q; cases q
      | some d => rw [e] at q; cases q
    · rw [List.getElem?_replicate] at q
      split at q
      · cases q
      · cases q
  have tail : ∀ (i : Nat) (a' : Addr) (mo' : MO), (envS N a mo ds)[i]? = some (.mu a' mo') → i = 0 ∧ a' = a ∧ mo' = mo := fun i a' mo' q => by
    cases i with
    | zero =>
      have e : Desc.mu a mo = Desc.mu a' mo' := Option.some.inj q
      cases e
      exact ⟨rfl, rfl, rfl⟩
    | succ j =>
      exact (nomu (j + 1) a' mo' (by
        have q' : (ds.map Desc.dat ++ List.replicate (N.length - (ds.length + 1)) .un)[j]? = some (.mu a' mo') := q
        show (Desc.dat Nn :: (ds.map Desc.dat ++ List.replicate (N.length - (ds.length + 1)) .un))[j + 1]? = some (.mu a' mo')
        exact q')).elim
  refine ⟨hd, ?_, fun i d q => ?_, fun i j b mo1 mo2 q1 q2 => ?_, fun i b mo1 q => ?_, fun b hb => ?_⟩
  · have := c0.len
    unfold L2.start env0 at this
    unfold L2.start envS
    simp at this ⊢
    omega
  · cases i with
    | zero =>
      have e : Desc.mu a mo = d := Option.some.inj q
      subst e
      exact ⟨some (mo.val a), rfl, rfl, o, ha, hr⟩
    | succ j =>
      obtain ⟨s, h1, h2⟩ := c0.slot (j + 1) d (show (Desc.dat Nn :: (ds.map Desc.dat ++ List.replicate (N.length - (ds.length + 1)) .un))[j + 1]? = some d from q)
      refine ⟨s, h1, ?_⟩
      cases d with
      | un => trivial
      | dat d => exact h2
      | mu b mo' => exact (nomu (j + 1) b mo' q).elim
  · rw [(tail i b mo1 q1).1, (tail j b mo2 q2).1]
  · rw [(tail i b mo1 q).2.1]; exact del_same
  · by_cases hba : b = a
    · exact (hb 0 mo (by rw [hba]; rfl)).elim
    · rw [del_ne hba]
theorem fn_S {F : FSs} (Fn : Fun K x qual st f fd) (S : FnScope N ps (defScope st)) (hlen : ∀ mo ds q, F mo ds q → ds.length + 1 = ps.length)
    (hb : ∀ (cdv : Value) (A : Around) (outer : List Env) (s : Shared) (H : Hp) (E : XK), Room n (A.deeper (envOfC qual (defScope st) s.heap.objs.size f cdv)) → ∀ a mo ds q, F mo ds q →
      SS (cxOf CX0 P w K mg base N qual (defScope st) f cdv A outer s H E).nox (defBody st) (envS N a mo ds) { nx := fun env' => ∃ mo', env'[0]? = some (.mu a mo') ∧ kS mo mo' (q (.d Nn) mo'), rt := fun r env' => ∃ mo', env'[0]? = some (.mu a mo') ∧ kS mo mo' (q r mo') }) : FnOk P w K mg base CX0 (n + 1) f fd ps (spS K F) := by
  refine Fn.ok S (fun vs H Q E h => ?_) (fun cdv A outer s H vs Q E hr h => ?_)
  · obtain ⟨B, M, a, mo, o, ds, vs', q, rfl, _, _, _, _, r, hF, _⟩ := h
    rw [List.length_cons, r.length, hlen mo ds q hF]
  · obtain ⟨B, M, a, mo, o, ds, vs', q, rfl, rfl, hd, ha, hro, r, hF, hq⟩ := h
    refine ⟨_, pss_can, ?_⟩
    have fin : ∀ {env' : Env_} {B' M' : Hp} {σ' : L2.St} {mo' : MO}, Conc K (del M a) env' B' M' σ' → env'[0]? = some (.mu a mo') → ∃ B2 o', J B' M' = J B2 (upd M a o') ∧ Same B' B2 ∧ Dis B2 M ∧ RpO K B2 a mo' o' := fun {env' B' M' σ' mo'} c hi => by
      obtain ⟨o', ho', hr', e1, n1, hs, c1⟩ := c.take hi
      obtain ⟨B2, e2, s2, d2⟩ := c1.out
      have eM : upd (del M a) a o' = upd M a o' := by
        funext b
        by_cases hba : b = a
        · rw [hba, upd_same, upd_same]
        · rw [upd_ne hba, upd_ne hba, del_ne hba]
      refine ⟨B2, o', ?_, s2, fun b u hbu => ?_, hr'.mono s2⟩
      · rw [e1, ← upd_JM, ← e2, upd_JM, eM]
      · by_cases hba : b = a
        · have z : J B2 (del M a) a = none := by rw [e2, J_B del_same]; exact n1
          rw [hba]
          exact (J_none z).2
        · exact d2 b u (by rw [del_ne hba]; exact hbu)
    refine hb cdv A outer s _ E hr a mo ds q hF (del M a) B M (start N (mo.val a :: vs')) (conc_startS hd ha hro r) _ (fun σ H p => ?_) (fun v H p => ?_) (fun σ H p => ?_) (fun σ H p => ?_)
    · obtain ⟨env', B', M', rfl, c, sm, mo', hi, z⟩ := p
      obtain ⟨B2, o', e2, s2, d2, r2⟩ := fin c hi
      show Q .non (J B' M')
      rw [e2]
      obtain ⟨hv, z⟩ := kS_val z a
      exact hq _ _ z .non B2 o' hv (sm.trans s2) d2 r2 rfl
    · rcases p with ⟨σ', d, env', B', M', rfl, c, sm, r', mo', hi, z⟩ | ⟨σ', p, m, u, env', B', M', rfl, rfl, n1, n2, c, sm, r', mo', hi, z⟩
      · obtain ⟨B2, o', e2, s2, d2, r2⟩ := fin c hi
        show Q v (J B' M')
        rw [e2]
        obtain ⟨hv, z⟩ := kS_val z a
        exact hq _ _ z v B2 o' hv (sm.trans s2) d2 r2 (Rp.mono s2 d v r')
      · obtain ⟨B2, o', e2, s2, d2, r2⟩ := fin c hi
        show Q (m.val p) (J B' (upd M' p u))
        have hn : J B2 (upd M a o') p = none := by rw [← e2, J_B n1]; exact n2
        obtain ⟨h1, h2⟩ := J_none hn
        have hpa : p ≠ a := fun z => by rw [z, upd_same] at h1; cases h1
        rw [upd_ne hpa] at h1
        rw [← upd_JM, e2, upd_JM]
        obtain ⟨hv, z⟩ := kS_val z a
        exact hq _ _ z p u B2 o' hv (sm.trans s2) d2 r2 h1 h2 (r'.mono s2)
    · obtain ⟨_, _, _, _, _, _, z⟩ := p; exact z.elim
    · obtain ⟨_, _, _, _, _, _, z⟩ := p; exact z.elim
end
end Sy
/-! rules for tuples that are told whole -/
namespace PyProof.Rows
open PySem
section
variable {prog : Program} {w : World} {A : Around} {E : Value → Shared → Prop} {s : Shared}
theorem collect_tupleS {l : Addr} {vs : List Value} {Q : List Value → Shared → Prop} (hl : IsTup s.heap l vs.toArray)
    (h : Q vs { s with heap := (s.heap.push (seqObj "list" #[] 0)).update s.heap.objs.size (Obj.mapSeq (· ++ vs.toArray)) }) (hsz : vs.length ≤ sizeLine) :
    wpAny (model prog w) A (collect (.ref l)) Q E s := by
  obtain ⟨o, ho, hc, n, hd⟩ := id hl
  unfold collect
  refine wpAny_bind (wpAny_runValue (codeAny_builtin entry_proto_collect' ?_))
  show wpAny _ _ (do again (.builtin "list.__iadd__" ⟨[← newList [], .ref l], []⟩)) _ _ s
  refine wpAny_bind (wpAny_newList (wpAny_pure ⟨Code.quiet_builtin _ (by decide +kernel), codeAny_builtin entry_list_iadd' ?_⟩))
  show wpAny _ _ (Builtin.List.listExtendWith (.ref s.heap.objs.size) (.ref l) (.ref s.heap.objs.size)) _ _ { s with heap := s.heap.push (seqObj "list" #[] 0) }
  unfold Builtin.List.listExtendWith
  have ho' : (s.heap.push (seqObj "list" #[] 0)).get? l = some o := Heap.get?_push_of_some _ ho
  refine wpAny_bind (wpAny_typeOf (T := "tuple") ⟨o, ho', hc⟩ ?_)
  have ht : (Value.type "tuple" == Value.type "tuple") = true := by rfl
  rw [if_pos (by rw [ht]; simp)]
  refine wpAny_bind (listItems_at ho' hd ?_)
  refine wpAny_bind (listItems_at (xs := #[]) (n := 0) (Heap.get?_push_size _ rfl) rfl ?_)
  rw [if_neg (by simp)]
  refine wpAny_bind (listUpdate_at (xs := #[]) (n := 0) (Heap.get?_push_size _ rfl) rfl ?_ (Nat.zero_le _) (by show (#[] ++ vs.toArray).size ≤ sizeLine + 1; simp only [Array.size_append, List.size_toArray, List.length_nil]; omega))
  refine wpAny_pure ?_
  show wpAny (model prog w) A (do
      let o ← load s.heap.objs.size
      match o.data with
      | .seq xs _ => pure xs.toList
      | _ => unsupported "internal:collect") Q E { s with heap := (s.heap.push (seqObj "list" #[] 0)).update s.heap.objs.size (Obj.mapSeq (· ++ vs.toArray)) }
  refine wpAny_bind (wpAny_load (get?_update_seq (Heap.get?_push_size _ rfl) _) ?_)
  show wpAny _ _ (pure ((#[] : Array Value) ++ vs.toArray).toList) Q E _
  rw [show ((#[] : Array Value) ++ vs.toArray).toList = vs by simp]
  exact wpAny_pure h
theorem sorted_ints_tup {l : Addr} {vs : List Value} {ns : List Int} {Q : Value → Shared → Prop} (hl : IsTup s.heap l vs.toArray) (hI : IntsAre vs ns) (h64 : vs.length < 64)
    (h : ∀ (out : Array Value) (ns' : List Int), IntsAre out.toList ns' → ns'.Perm ns → ns'.Pairwise (· ≤ ·) → Q (.ref (s.heap.objs.size + 1)) { s with heap := sortedAll s.heap vs out }) :
    wpAny (model prog w) A (call (.builtin "sorted") [.ref l]) Q E s := by
  refine Calls.call_function_entry kind_sorted plain_sorted entry_sorted (args_sorted1 _) ?_
  unfold Builtin.«sorted»
  refine wpAny_bind (m := checkCount "sorted" 1 1 _) (wpAny_pure ?_)
  refine wpAny_bind (collect_tupleS hl ?_ (by rw [sizeLine_eq]; omega))
  refine wpAny_bind (wpAny_newList ?_)
  have hsz : ((s.heap.push (seqObj "list" #[] 0)).update s.heap.objs.size (Obj.mapSeq (· ++ vs.toArray))).objs.size = s.heap.objs.size + 1 := by
    rw [Heap.size_update, size_push']
  have hoL : (((s.heap.push (seqObj "list" #[] 0)).update s.heap.objs.size (Obj.mapSeq (· ++ vs.toArray))).push (seqObj "list" vs.toArray 0)).get? (s.heap.objs.size + 1) = some (seqObj "list" vs.toArray 0) := by
    rw [← hsz]; exact Heap.get?_push_size _ rfl
  show wpAny _ _ _ _ _ { s with heap := ((s.heap.push (seqObj "list" #[] 0)).update s.heap.objs.size (Obj.mapSeq (· ++ vs.toArray))).push (seqObj "list" vs.toArray 0) }
  rw [hsz]
  refine wpAny_bind (wpAny_holding (wpAny_call_entry slot_list_sort ⟨_, hoL, rfl⟩ entry_list_sort (list_sort_tree hoL hI h64 fun out ns' a1 a2 a3 => ⟨_, rfl, ?_⟩) (args_list_sort _)))
  exact wpAny_pure ⟨_, rfl, h out ns' a1 a2 a3⟩
end
end PyProof.Rows
namespace Sy
open PySem PySem.Spec PyProof.Rows L2

/-- what a new plain tuple of xs is handed on as -/
def NewT (Q : VK) (H : Hp) (xs : List V) : Prop := ∀ (p : Addr) (o : Obj), H p = none → o.cls = .type "tuple" → o.dict = none → Q (.ref p) (upd H p (.frz o (.tup xs)))
section
variable {X : Cx} {pins : List (Addr × Obj)} {σ : L2.St} {H : Hp} {s : Shared}
theorem ep_newT {xs : List V} {its : List Value} {Q : VK} {tk : Nat} (I : Inv X pins σ H s) (r : Vals xs its) (hz : xs.length ≤ sizeLine) (q : NewT Q H xs) :
    EP X pins σ Q (.ref s.heap.objs.size) { s with heap := s.heap.push { cls := .type "tuple", data := .seq its.toArray }, toks := tk } :=
  ⟨.ref s.heap.objs.size, upd H s.heap.objs.size (.frz { cls := .type "tuple", data := .seq its.toArray } (.tup xs)),
    I.laid (t' := tk) (fun b u e => Heap.get?_push_of_some _ e) (Nat.le_refl _) ⟨Heap.get?_push_size _ rfl, hz, its, r, IsTup.new _ _⟩, rfl, q _ _ (I.hok.fresh (Nat.le_refl _)) rfl rfl⟩
end
section
variable {X : Cx} {e a b : Expr} {es : List Expr} {te ta : TE} {t : TA} {pos p : Pos}
def tTupS (t : TA) : TE := fun σ H Q => t σ H fun xs H1 => xs.length ≤ sizeLine ∧ NewT Q H1 xs
theorem pe_tupS {x1} (h : PA X es t) : PE X (.Tuple es x1 pos) (tTupS t) := by
  refine ⟨fun pins s σ H Q I hq => ?_⟩
  refine wpAny_Tuple_spliced (thn (h.run pos pins s σ H _ I hq) fun us s1 ⟨xs, H1, I1, r, z, q⟩ => ⟨by rw [← r.length]; exact z, ?_⟩)
  exact ep_newT (tk := s1.toks) I1 r z q
def rTupleS (K : PySem.W.Frag) : List V → Hp → VK → Prop := fun xs H Q => ∃ p ys, xs = [.ref p] ∧ ((SqL K H p ys ∧ NewT Q H ys) ∨ (SqT K H p ys ∧ Q (.ref p) H))
theorem call_tupleS : CallR X (.type "tuple") (rTupleS X.K) := by
  intro pins s σ H xs us Q I r h
  obtain ⟨p, ys, rfl, h⟩ := h
  obtain ⟨u, rfl, rx⟩ := vals1 r
  cases rx
  rcases h with ⟨hq, q⟩ | ⟨hq, q⟩
  · obtain ⟨its, r', pl, hz⟩ := I.list hq
    have hlen := r'.length
    refine call_tuple_list pl.isList (fun h' kp => ?_) (by simp only [List.size_toArray] <;> omega)
    have I1 : Inv X pins σ H { s with heap := h' } := I.kept (t' := s.toks) kp
    exact ep_newT (tk := s.toks) I1 r' hz q
  · obtain ⟨its, r', pl, hz⟩ := I.tuple hq
    exact call_tuple_same pl ⟨.ref p, H, I, rfl, q⟩
def rCatS (K : PySem.W.Frag) : R2 := fun x y H Q => ∃ a b xs ys, x = .ref a ∧ y = .ref b ∧ SqT K H a xs ∧ SqT K H b ys ∧ xs.length + ys.length ≤ sizeLine ∧
  (xs = [] → Q (.ref b) H) ∧ (xs ≠ [] → ys = [] → Q (.ref a) H) ∧ (xs ≠ [] → ys ≠ [] → NewT Q H (xs ++ ys))
theorem op_catS : OpR X (binaryOp .Add) (rCatS X.K) := by
  intro pins s σ H x y v u Q I rx ry h
  obtain ⟨a, b, xs, ys, rfl, rfl, ha, hb, hz, q0, q1, q2⟩ := h
  cases rx
  cases ry
  obtain ⟨its, r1, p1, _⟩ := I.tuple ha
  obtain ⟨its2, r2, p2, _⟩ := I.tuple hb
  by_cases hx : xs = []
  · subst hx
    cases r1
    exact cat_tup0 p1 p2 ⟨.ref b, H, I, rfl, q0 rfl⟩
  · refine HT.cat_tup p1 p2 (fun z => hx (r1.nil_iff.mp z)) (fun z => ⟨.ref a, H, I, rfl, q1 hx (r2.nil_iff.mp z)⟩) (fun z => ?_) (by rw [← r1.length, ← r2.length]; exact hz)
    exact ep_newT (tk := s.toks) I (r1.append r2) (by rw [List.length_append]; exact hz) (q2 hx fun w => z (r2.nil_iff.mpr w))
def rSlS (K : PySem.W.Frag) : V → Option Int → Option Int → Hp → VK → Prop := fun x lo hi H Q => ∃ a xs, x = .ref a ∧ SqT K H a xs ∧
  (HT.sIx xs.length 0 lo = 0 ∧ HT.sIx xs.length xs.length hi = xs.length → Q (.ref a) H) ∧ (¬ (HT.sIx xs.length 0 lo = 0 ∧ HT.sIx xs.length xs.length hi = xs.length) → NewT Q H (cutV xs lo hi))
theorem sl_tupS : SlR X (rSlS X.K) := by
  intro pins s σ H x v vl vu lo hi sl Q I rx hs pl pu h
  obtain ⟨a, xs, rfl, hx, q1, q2⟩ := h
  by_cases hw : HT.sIx xs.length 0 lo = 0 ∧ HT.sIx xs.length xs.length hi = xs.length
  · cases rx
    obtain ⟨its, r, ht, hz⟩ := I.tuple hx
    have hlen : its.toArray.size = xs.length := by rw [List.size_toArray]; exact r.length.symm
    refine ⟨"tuple", _, PyProof.Rows.slot_tuple_getitem.lookup, ht.typeIs, ?_⟩
    exact getItem_tuple_whole ht hs pl pu (by rw [hlen]; exact hw) ⟨.ref a, H, I, rfl, q1 hw⟩
  · cases rx
    obtain ⟨its, r, ht, hz⟩ := I.tuple hx
    have hlen : its.toArray.size = xs.length := by rw [List.size_toArray]; exact r.length.symm
    refine ⟨"tuple", _, PyProof.Rows.slot_tuple_getitem.lookup, ht.typeIs, ?_⟩
    refine HT.getItem_tuple_cut ht hs pl pu (by rw [hlen]; exact hw) ?_ (by rw [hlen]; exact hz)
    rw [hlen]
    exact ep_newT (tk := s.toks) I ((r.drop (HT.sIx xs.length 0 lo)).take (HT.sIx xs.length xs.length hi - HT.sIx xs.length 0 lo)) (Nat.le_trans (cutV_length xs lo hi) hz) (q2 hw)
def rRepS (K : PySem.W.Frag) : R2 := fun x y H Q => ∃ l k xs, x = .ref l ∧ y = .int k ∧ SqT K H l xs ∧ xs ≠ [] ∧ 2 ≤ k ∧ k ≤ 1000 ∧ xs.length ≤ 1000 ∧ NewT Q H (List.replicate k.toNat xs).flatten
theorem op_repS : OpR X (binaryOp .Mult) (rRepS X.K) := by
  intro pins s σ H x y v u Q I rx ry h
  obtain ⟨l, k, xs, rfl, rfl, hT, hne, h1, h2, hz, q⟩ := h
  cases rx
  obtain ⟨t, rfl⟩ := ry
  obtain ⟨its, r, ⟨⟨cls, dd, data, sl⟩, ho, hc, n, hd⟩, hs⟩ := I.tuple hT
  simp only at hc hd
  subst hc hd
  have hle : its.length = xs.length := r.length.symm
  have hn : its ≠ [] := fun e => hne (by
    rw [e] at hle
    exact List.eq_nil_of_length_eq_zero hle.symm)
  have hi : its.toArray.isEmpty = false := by
    cases its with
    | nil => exact absurd rfl hn
    | cons a b => rfl
  have hsz0 : its.toArray.size = xs.length := by rw [List.size_toArray, hle]
  have hm : ((its.toArray.size : Nat) : Int) * k ≤ 1000000 := by
    rw [hsz0]
    have a1 : ((xs.length : Nat) : Int) * k ≤ 1000 * k := Int.mul_le_mul_of_nonneg_right (by omega) (by omega)
    omega
  have flen : (List.replicate k.toNat its).flatten.length ≤ sizeLine := by
    rw [PyProof.Rows.lm_len_rep_flat, hle, sizeLine_eq]
    have a1 : k.toNat * xs.length ≤ 1000 * 1000 := Nat.mul_le_mul (by omega) hz
    omega
  have c0 : (decide (k < -(2 ^ 63)) || decide (k ≥ 2 ^ 63)) = false := by
    rw [decide_eq_false (by omega), decide_eq_false (by omega)] <;> rfl
  have c1 : (its.toArray.isEmpty || k == 1) = false := by
    rw [hi, Bool.false_or]
    exact beq_eq_false_iff_ne.mpr (by omega)
  have c2 : (decide (k ≤ 0) || its.toArray.isEmpty) = false := by
    rw [hi, Bool.or_false]
    exact decide_eq_false (by omega)
  have c4 : Builtin.Tuple.tupleTooMany (((its.toArray.size : Nat) : Int) * k) = false := by
    unfold Builtin.Tuple.tupleTooMany
    rw [sizeLine_eq]
    exact decide_eq_false (by omega)
  refine wpAny_binaryOp_repeat_ref (T := "tuple") (U := "int") (by decide) ⟨_, ho, rfl⟩ (fun s' => typeIs_int s' k t) noFill_tuple_mul F.fills_int_mul F.slot_int_rmul repeat_tuple F.slot_int_index.lookup
    (call_meets F.slot_int_rmul (typeIs_int s k t) F.entry_int_rmul (F.args_int_rmul_2 _ _) (int_rmul_tuple k t l its.toArray n dd sl)
      ⟨ho, rfl, ⟨_, ho, rfl⟩, call_meets F.slot_tuple_mul ⟨_, ho, rfl⟩ F.entry_tuple_mul (F.args_tuple_mul_2 _ _) (tuple_mulW l its.toArray n dd sl k t c0 c1 c2 (by omega) c4 (by rw [size_rep, List.size_toArray]; exact flen)) ⟨ho, ?_⟩⟩)
  rw [size_rep]
  exact ep_newT (tk := s.toks) I (r.rep k.toNat) (by rw [PyProof.Rows.lm_len_rep_flat, sizeLine_eq]; have a1 : k.toNat * xs.length ≤ 1000 * 1000 := Nat.mul_le_mul (by omega) hz; omega) q
/-- t[::-1] -/
def tRevT (K : PySem.W.Frag) (te : TE) : TE := fun σ H Q => te σ H fun x H1 => ∃ a xs, x = .ref a ∧ SqT K H1 a xs ∧ NewT Q H1 xs.reverse
theorem pick_revT (its : List Value) : ((List.range its.length).filterMap fun (m : Nat) => its.toArray[(((its.length : Int) - 1) + (m : Int) * (-1)).toNat]?) = its.reverse := by
  refine List.ext_getElem? fun i => ?_
  have h : ∀ (l : List Nat), (∀ m ∈ l, m < its.length) → (l.filterMap fun (m : Nat) => its.toArray[(((its.length : Int) - 1) + (m : Int) * (-1)).toNat]?) = l.map fun m => its.reverse.getD m default := by
    intro l
    induction l with
    | nil => intro _; rfl
    | cons x r ih =>
      intro hl
      have hx := hl x List.mem_cons_self
      have e : its.toArray[(((its.length : Int) - 1) + (x : Int) * (-1)).toNat]? = some (its.reverse.getD x default) := by
        have e1 : (((its.length : Int) - 1) + (x : Int) * (-1)).toNat = its.length - 1 - x := by omega
        rw [e1, List.getElem?_toArray, List.getD_eq_getElem?_getD, List.getElem?_reverse hx, List.getElem?_eq_getElem (by omega)]
        rfl
      rw [List.filterMap_cons, e]
      show its.reverse.getD x default :: _ = _
      rw [ih fun m hm => hl m (List.mem_cons_of_mem _ hm), List.map_cons]
  rw [h _ fun m hm => List.mem_range.mp hm]
  by_cases hi : i < its.length
  · rw [List.getElem?_map, List.getElem?_range hi]
    show some (its.reverse.getD i default) = _
    rw [List.getD_eq_getElem?_getD, List.getElem?_eq_getElem (by rw [List.length_reverse]; exact hi)]
    rfl
  · rw [List.getElem?_eq_none (by rw [List.length_map, List.length_range]; omega), List.getElem?_eq_none (by rw [List.length_reverse]; omega)]
end
end Sy
namespace Sy
open PySem PySem.Spec PyProof.Rows L2 HT

section
variable {prog : Program} {w : World} {A : Around} {E : Value → Shared → Prop} {s : Shared}
theorem sliceApplied_rev {sl : Addr} {n : Nat} {vl vu vs : Value} {Q : Int × Int × Nat → Shared → Prop} (hs : s.heap.IsSliceOf sl vl vu vs) (pl : IsPart vl none) (pu : IsPart vu none) (ps : IsPart vs (some (-1)))
    (h : Q ((n : Int) - 1, -1, n) s) : wpAny (model prog w) A (Builtin.Slice.sliceApplied (.ref sl) (pure (n : Int))) Q E s := by
  obtain ⟨os, hos, hcs, hds⟩ := id hs
  unfold Builtin.Slice.sliceApplied Builtin.Slice.sliceFields
  refine wpAny_bind (wpAny_bind (wpAny_field hos hds (x := vl) rfl (wpAny_bind (wpAny_field hos hds (x := vu) rfl (wpAny_bind (wpAny_field hos hds (x := vs) rfl (wpAny_pure ?_)))))))
  refine wpAny_bind (slicePart_ ps ?_)
  show wpAny _ _ (if ((-1 : Int) == 0) = true then _ else _) _ _ s
  rw [if_neg (by decide)]
  refine wpAny_bind (slicePart_ pl (wpAny_bind (slicePart_ pu (wpAny_bind (wpAny_pure ?_)))))
  show wpAny _ _ (match Builtin.Slice.sliceAdjust none none (-1) (n : Int) with | (lo, hi) => pure (lo, (-1 : Int), Builtin.Slice.slicePlaces lo hi (-1))) _ _ s
  have e1 : Builtin.Slice.sliceAdjust none none (-1) (n : Int) = ((n : Int) - 1, -1) := by
    simp [Builtin.Slice.sliceAdjust]
  rw [e1]
  show wpAny _ _ (pure ((n : Int) - 1, (-1 : Int), Builtin.Slice.slicePlaces ((n : Int) - 1) (-1) (-1))) _ _ s
  have e2 : Builtin.Slice.slicePlaces ((n : Int) - 1) (-1) (-1) = n := by
    unfold Builtin.Slice.slicePlaces
    rw [if_neg (by decide)]
    by_cases hn : n = 0
    · subst hn
      decide
    · rw [if_pos (by omega)]
      have e3 : ((n : Int) - 1 - -1 - 1) / - -1 = (n : Int) - 1 := by
        rw [show (- -1 : Int) = 1 by decide, Int.ediv_one]
        omega
      rw [e3]
      omega
  rw [e2]
  exact wpAny_pure h
theorem getItem_tuple_rev {t sl : Addr} {its : List Value} {vl vu vs : Value} {Q : Value → Shared → Prop} (ht : IsTup s.heap t its.toArray) (hs : s.heap.IsSliceOf sl vl vu vs) (pl : IsPart vl none) (pu : IsPart vu none) (ps : IsPart vs (some (-1)))
    (h : Q (.ref s.heap.objs.size) { s with heap := s.heap.push { cls := .type "tuple", data := .seq its.reverse.toArray } })
    (hsz : its.length ≤ sizeLine) : wpAny (model prog w) A (getItem (.ref t) (.ref sl)) Q E s := by
  have htake : sizeOk (.seq its.reverse.toArray) := by
    show its.reverse.toArray.size ≤ sizeLine
    rw [List.size_toArray, List.length_reverse]
    omega
  obtain ⟨os, hos, hcs, hds⟩ := id hs
  have hTs : s.TypeIs (.ref sl) "slice" := ⟨os, hos, hcs⟩
  unfold getItem
  try with_reducible refine wpAny_holding ?_
  first | refine wpAny_bind (wpAny_pure ?_) | skip
  refine wpAny_bind (wpAny_sequenceKey ht.typeIs (by decide) ?_)
  refine wpAny_bind (wpAny_callSpecial?_slot (name := Str.ofString "__getitem__") ht.typeIs PyProof.Rows.slot_tuple_getitem
    (wpAny_call_entry PyProof.Rows.slot_tuple_getitem ht.typeIs entry_tuple_getitem ?_ (args_tuple_getitem _ _)))
  show wpAny _ _ (Builtin.Tuple.tupleItemsOf (.ref t) >>= _) _ _ s
  refine wpAny_bind (tupleItemsOf_ ht ?_)
  refine wpAny_bind (wpAny_typeOf hTs ?_)
  rw [if_pos (by decide)]
  refine wpAny_bind (sliceApplied_rev (n := its.toArray.size) hs pl pu ps ?_)
  have hno : ¬ ((((its.toArray.size : Nat) : Int) - 1 == 0 && (-1 : Int) == 1 && its.toArray.size == its.toArray.size) = true) := by
    intro q
    rw [Bool.and_eq_true, Bool.and_eq_true] at q
    exact absurd q.1.2 (by decide)
  show wpAny _ _ (if ((((its.toArray.size : Nat) : Int) - 1 == 0 && (-1 : Int) == 1 && its.toArray.size == its.toArray.size)) = true then _ else _) _ _ s
  rw [if_neg hno]
  have hp := pick_revT its
  rw [show its.length = its.toArray.size by rw [List.size_toArray]] at hp
  rw [hp]
  first
    | exact wpAny_bind (m := Builtin.Tuple.tupleExact _) (wpAny_newObj_type (wpAny_pure ⟨_, rfl, wpAny_pure h⟩) htake)
    | exact wpAny_bind (m := Builtin.Tuple.tupleExact _) (wpAny_newObj_type (wpAny_bind (wpAny_pure (wpAny_pure ⟨_, rfl, wpAny_pure h⟩))) htake)
    | exact wpAny_bind (wpAny_bind (m := Builtin.Tuple.tupleExact _) (wpAny_newObj_type (wpAny_pure (wpAny_pure ⟨_, rfl, wpAny_pure h⟩)) htake))
    | exact wpAny_bind (wpAny_bind (m := Builtin.Tuple.tupleExact _) (wpAny_newObj_type (wpAny_pure ⟨_, rfl, wpAny_pure h⟩) htake))
end
section
variable {X : Cx}
theorem pe_revT {e : Expr} {te : TE} {k : Nat} {p1 p2 p3 pos : Pos} (he : PE X e te) : PE X (.Subscript e (.Slice none none (some (.UnaryOp .USub (.Constant (.int 1) k p1) p2)) p3) pos) (tRevT X.K te) := by
  refine ⟨fun pins s σ H Q I h => ?_⟩
  refine Subscript_ (thn (he.run pins s σ H _ I h) fun v s1 ⟨x, H1, I1, r1, q1⟩ => ?_)
  obtain ⟨a, xs, ex, hx, q⟩ := q1
  subst ex
  cases r1
  have hst : PO X (some (.UnaryOp .USub (.Constant (.int 1) k p1) p2)) (tPart (tUn (rU fun i => .int (-i)) (tC (.int 1)))) := po_some (pe_un un_neg pe_int)
  refine wpAny_Slice (thn (po_none.run pins s1 σ H1 (fun o H2 => o = none ∧ H2 = H1) I1 ⟨rfl, rfl⟩) fun vl s2 ⟨l, H2, I2, pl, el, e2⟩ => ?_)
  subst el e2
  refine thn (po_none.run pins s2 σ H2 (fun o H3 => o = none ∧ H3 = H2) I2 ⟨rfl, rfl⟩) fun vu s3 ⟨u, H3, I3, pu, eu, e3⟩ => ?_
  subst eu e3
  refine thn (hst.run pins s3 σ H3 (fun o H4 => o = some (-1) ∧ H4 = H3) I3 ⟨1, rfl, -1, rfl, rfl, rfl⟩) fun vs s4 ⟨o, H4, I4, ps, eo, e4⟩ => ?_
  subst eo e4
  have I5 : Inv X pins σ H4 { s4 with heap := s4.heap.push { cls := .type "slice", data := .fields #[vl, vu, vs] } } := I4.kept (t' := s4.toks) fun b ob q => Heap.get?_push_of_some _ q
  obtain ⟨its, r, ht, hz⟩ := I5.tuple hx
  have hlen := r.length
  show wpAny (model X.prog X.w) X.A (subscriptTail e (.Slice none none (some (.UnaryOp .USub (.Constant (.int 1) k p1) p2)) p3) (.ref a) (.ref s4.heap.objs.size)) (EP X pins σ Q) X.xe { s4 with heap := s4.heap.push { cls := .type "slice", data := .fields #[vl, vu, vs] } }
  refine tail_any (ops := [.ref a, .ref s4.heap.objs.size]) ht.typeIs (PyProof.Rows.slot_tuple_getitem.lookup) ?_ (by with_unfolding_all rfl)
  refine getItem_tuple_rev ht (Heap.IsSliceOf.new _ vl vu vs) pl pu ps ?_ (by omega)
  exact ep_newT (tk := s4.toks) I5 r.reverse (by rw [List.length_reverse]; exact hz) q
end

/-! ### a tuple's own methods -/
theorem Inv.plT {X : Cx} {pins : List (Addr × Obj)} {σ : L2.St} {H : Hp} {s : Shared} {a : Addr} {xs : List V} (I : Inv X pins σ H s) (h : PlT X.K H a xs) : ∃ (o : Obj) (its : List Value) (n : Nat), s.heap.get? a = some o ∧ o.cls = .type "tuple" ∧ o.dict = none ∧ o.data = .seq its.toArray n ∧ Vals xs its ∧ xs.length ≤ sizeLine := by
  rcases h with ⟨o, h, h1, h2⟩ | ⟨o, its, n, hk, h1, h2, h3, h4, h5⟩
  · obtain ⟨e, hz, its, r, o', e', c', n, d'⟩ := I.hok a _ h
    rw [e] at e'
    cases e'
    exact ⟨o, its, n, e, h1, h2, d', r, hz⟩
  · refine ⟨o, its.toList, n, I.kIn a o hk, h1, h2, by simpa using h3, h5, ?_⟩
    have e := h5.length
    simp only [Array.length_toList] at e
    omega
section
variable {X : Cx} {o e : Expr} {es : List Expr} {to ta : TE} {t : TA} {name : Str} {apos cpos : Pos} {id : String} {r : V → List V → Hp → VK → Prop}
def tBMT (K : PySem.W.Frag) (r : V → List V → Hp → VK → Prop) (to : TE) (t : TA) : TE := fun σ H Q => to σ H fun x H1 => (∃ p xs, x = .ref p ∧ PlT K H1 p xs) ∧ t σ H1 fun vs H2 => r x vs H2 Q
theorem pe_bmT (slot : Slot "tuple" name id) (hty : typeOf (.builtin id) = pure (.type "method_descriptor")) (hm : MtR X id r) (ho : PE X o to) (ha : PA X (e :: es) t)
    (hbase : attributeBase o name X.env (eval o X.env) = eval o X.env := by rfl)
    (hfew : ((backTo cpos (starEach (e :: es) X.env)).all (fun x => !x.1) && (backToKw cpos (keywordEach [] X.env)).all (fun x => x.1.isSome)
      && decide ((e :: es).length + ([] : List Keyword).length + (if ([] : List Keyword).isEmpty then 0 else 1) < 30)) = true := by rfl)
    (hline : (apos.endLine == cpos.line) = true := by rfl) (hs : starEach (e :: es) X.env = (false, eval e X.env) :: starEach es X.env := by rfl) (hplain : (backTo cpos (starEach es X.env)).any (·.1) = false := by rfl) :
    PE X (.Call (.Attribute o name apos) (e :: es) [] cpos) (tBMT X.K r to t) := by
  refine ⟨fun pins s σ H Q I h => ?_⟩
  refine wpAny_Call_method_late hbase hfew hline rfl (thn (ho.run pins s σ H _ I h) fun v s1 ⟨x, H1, I1, r1, ty, q1⟩ => ?_)
  obtain ⟨p, xs, rfl, hp⟩ := ty
  cases r1
  obtain ⟨ob, its, n, hob, hc, hd, hdat, _, _⟩ := Inv.plT I1 hp
  refine ⟨"tuple", id, PySem.F.plainAttrs_tuple, slot, hty, ⟨ob, hob, hc⟩, fun a ea => ⟨ob, by cases ea; exact hob, hd⟩, ?_⟩
  have hA := ha.run cpos pins s1 σ H1 _ I1 q1
  rw [hs] at hA ⊢
  refine Calls.callWith_builtin (by show (false || (backTo cpos (starEach es X.env)).any (·.1)) = false; rw [hplain] <;> rfl) (Calls.evalArgs_plain ?_)
  exact thn hA fun us s2 ⟨vs, H2, I2, r2, q2⟩ => hm pins s2 σ H2 (.ref p) vs (.ref p) us Q I2 rfl r2 q2
/-- t.index(i), ints -/
def rIndexT (K : PySem.W.Frag) : V → List V → Hp → VK → Prop := fun x vs H Q => ∃ (a : Addr) (ns : List Int) (i : Int), x = .ref a ∧ vs = [.int i] ∧ SqT K H a (ns.map V.int) ∧ i ∈ ns ∧ Q (.int ((ns.idxOf i : Nat) : Int)) H
theorem mt_indexT (hu : X.A.units + 1 < cLine) : MtR X "tuple.index" (rIndexT X.K) := by
  intro pins s σ H x vs v us Q I rx rv h
  obtain ⟨a, ns, i, rfl, rfl, ha, hi, q⟩ := h
  cases rx
  obtain ⟨u, rfl, ru⟩ := vals1 rv
  obtain ⟨t, rfl⟩ := ru
  obtain ⟨its, r, ht, hz⟩ := I.tuple ha
  refine PySem.W.index_tuple_datum (α := Int) (xs := ns) (vs := its) (x := i) (show s.heap.IsTuple a its.toArray from ht) (.of_ints (Vals.ints r)) (PySem.W.holds_int i t) (by show X.A.units + 1 + 0 < cLine; omega) hi ?_
  exact ⟨.int _, H, I.tok _, ⟨_, rfl⟩, q⟩
theorem minOf_int (x : Int) (xs : List Int) : PySem.W.minOf x xs ∈ x :: xs ∧ ∀ y ∈ x :: xs, PySem.W.minOf x xs ≤ y := by
  unfold PySem.W.minOf
  induction xs generalizing x with
  | nil => exact ⟨List.mem_cons_self, fun y hy => by rw [List.mem_singleton.mp hy]; exact Int.le_refl _⟩
  | cons z r ih =>
    rw [List.foldl_cons]
    have e : (if PySem.W.DatumOrd.lt z x = true then z else x) = (if z < x then z else x) := by
      show (if decide (z < x) = true then z else x) = _
      by_cases h : z < x
      · rw [if_pos (decide_eq_true h), if_pos h]
      · rw [if_neg (by rw [decide_eq_false h]; exact Bool.false_ne_true), if_neg h]
    rw [e]
    obtain ⟨h1, h2⟩ := ih (if z < x then z else x)
    constructor
    · rcases List.mem_cons.mp h1 with h | h
      · rw [h]
        split
        · exact List.mem_cons_of_mem _ List.mem_cons_self
        · exact List.mem_cons_self
      · exact List.mem_cons_of_mem _ (List.mem_cons_of_mem _ h)
    · intro y hy
      have h3 := h2 _ List.mem_cons_self
      rcases List.mem_cons.mp hy with h | h
      · rw [h]
        refine Int.le_trans h3 ?_
        split <;> omega
      · rcases List.mem_cons.mp h with h | h
        · rw [h]
          refine Int.le_trans h3 ?_
          split <;> omega
        · exact h2 y (List.mem_cons_of_mem _ h)
theorem maxOf_int (x : Int) (xs : List Int) : PySem.W.maxOf x xs ∈ x :: xs ∧ ∀ y ∈ x :: xs, y ≤ PySem.W.maxOf x xs := by
  unfold PySem.W.maxOf
  induction xs generalizing x with
  | nil => exact ⟨List.mem_cons_self, fun y hy => by rw [List.mem_singleton.mp hy]; exact Int.le_refl _⟩
  | cons z r ih =>
    rw [List.foldl_cons]
    have e : (if PySem.W.DatumOrd.lt x z = true then z else x) = (if x < z then z else x) := by
      show (if decide (x < z) = true then z else x) = _
      by_cases h : x < z
      · rw [if_pos (decide_eq_true h), if_pos h]
      · rw [if_neg (by rw [decide_eq_false h]; exact Bool.false_ne_true), if_neg h]
    rw [e]
    obtain ⟨h1, h2⟩ := ih (if x < z then z else x)
    constructor
    · rcases List.mem_cons.mp h1 with h | h
      · rw [h]
        split
        · exact List.mem_cons_of_mem _ List.mem_cons_self
        · exact List.mem_cons_self
      · exact List.mem_cons_of_mem _ (List.mem_cons_of_mem _ h)
    · intro y hy
      have h3 := h2 _ List.mem_cons_self
      rcases List.mem_cons.mp hy with h | h
      · rw [h]
        refine Int.le_trans ?_ h3
        split <;> omega
      · rcases List.mem_cons.mp h with h | h
        · rw [h]
          refine Int.le_trans ?_ h3
          split <;> omega
        · exact h2 y (List.mem_cons_of_mem _ h)
def rMinT (K : PySem.W.Frag) : List V → Hp → VK → Prop := fun vs H Q => ∃ (a : Addr) (ns : List Int), vs = [V.ref a] ∧ SqT K H a (ns.map V.int) ∧ ns ≠ [] ∧ ∀ m, m ∈ ns → (∀ y, y ∈ ns → m ≤ y) → Q (.int m) H
def rMaxT (K : PySem.W.Frag) : List V → Hp → VK → Prop := fun vs H Q => ∃ (a : Addr) (ns : List Int), vs = [V.ref a] ∧ SqT K H a (ns.map V.int) ∧ ns ≠ [] ∧ ∀ m, m ∈ ns → (∀ y, y ∈ ns → y ≤ m) → Q (.int m) H
def rSumT (K : PySem.W.Frag) : List V → Hp → VK → Prop := fun vs H Q => ∃ (a : Addr) (ns : List Int), vs = [V.ref a] ∧ SqT K H a (ns.map V.int) ∧ Q (.int ns.sum) H
def rSortedT (K : PySem.W.Frag) : List V → Hp → VK → Prop := fun vs H Q => ∃ (a : Addr) (ns : List Int), vs = [V.ref a] ∧ SqT K H a (ns.map V.int) ∧ ns.length < 64 ∧
  ∀ (ns' : List Int) (p : Addr), ns'.Perm ns → ns'.Pairwise (· ≤ ·) → H p = none → Q (.ref p) (upd H p (.lst (ns'.map V.int)))
theorem cr_minT (hc : X.calm = true) (hu : X.A.units + 1 < cLine) : CallR X (.builtin "min") (rMinT X.K) := by
  intro pins s σ H vs us Q I r h
  obtain ⟨a, ns, rfl, hs, hne, q⟩ := h
  obtain ⟨its, rv, hl, _⟩ := I.tuple hs
  rw [Vals.ref1 r]
  obtain ⟨x, xs, rfl⟩ : ∃ x xs, ns = x :: xs := by
    cases ns with
    | nil => exact absurd rfl hne
    | cons x xs => exact ⟨x, xs, rfl⟩
  refine PySem.W.min_tuple_datum (α := Int) (x := x) (xs := xs) (vs := its.toArray) (I.ok.hd hc) (show s.heap.IsTuple a its.toArray from hl) (.of_ints (Vals.ints rv)) (by show X.A.units + 1 + 0 < cLine; omega) fun i v h' tk _ hv hk => ?_
  obtain ⟨t, rfl⟩ := PySem.W.int_of_holds hv
  obtain ⟨h1, h2⟩ := minOf_int x xs
  exact ⟨.int _, H, I.kept hk, ⟨_, rfl⟩, q _ h1 h2⟩
theorem cr_maxT (hc : X.calm = true) (hu : X.A.units + 1 < cLine) : CallR X (.builtin "max") (rMaxT X.K) := by
  intro pins s σ H vs us Q I r h
  obtain ⟨a, ns, rfl, hs, hne, q⟩ := h
  obtain ⟨its, rv, hl, _⟩ := I.tuple hs
  rw [Vals.ref1 r]
  obtain ⟨x, xs, rfl⟩ : ∃ x xs, ns = x :: xs := by
    cases ns with
    | nil => exact absurd rfl hne
    | cons x xs => exact ⟨x, xs, rfl⟩
  refine PySem.W.max_tuple_datum (α := Int) (x := x) (xs := xs) (vs := its.toArray) (I.ok.hd hc) (show s.heap.IsTuple a its.toArray from hl) (.of_ints (Vals.ints rv)) (by show X.A.units + 1 + 0 < cLine; omega) fun i v h' tk _ hv hk => ?_
  obtain ⟨t, rfl⟩ := PySem.W.int_of_holds hv
  obtain ⟨h1, h2⟩ := maxOf_int x xs
  exact ⟨.int _, H, I.kept hk, ⟨_, rfl⟩, q _ h1 h2⟩
theorem cr_sumT (hc : X.calm = true) : CallR X (.builtin "sum") (rSumT X.K) := by
  intro pins s σ H vs us Q I r h
  obtain ⟨a, ns, rfl, hs, q⟩ := h
  obtain ⟨its, rv, hl, _⟩ := I.tuple hs
  rw [Vals.ref1 r]
  have hi := Vals.ints rv
  obtain ⟨xs, hx⟩ := hi.allInts.items
  have hn : numsOf (intItems xs).toList = ns := by rw [← hx]; exact hi.numsOf
  rw [nums_intItems] at hn
  have hl' : s.heap.IsTuple a its.toArray := hl
  rw [hx] at hl'
  refine PySem.W.ktm_sumG (I.ok.hd hc) hl' fun h' tk t' hk => ?_
  rw [PySem.preSum_eq, List.take_of_length_le (by simp), hn]
  exact ⟨.int _, H, I.kept hk, ⟨_, rfl⟩, q⟩
theorem cr_sortedT : CallR X (.builtin "sorted") (rSortedT X.K) := by
  intro pins s σ H vs us Q I r h
  obtain ⟨a, ns, rfl, hs, h64, q⟩ := h
  obtain ⟨its, rv, hl, _⟩ := I.tuple hs
  rw [Vals.ref1 r]
  have hi := Vals.ints rv
  refine PyProof.Rows.sorted_ints_tup hl hi (by rw [hi.length]; exact h64) fun out ns' h1 h2 h3 => ?_
  obtain ⟨ep, he'⟩ := PyProof.Rows.sortedAll_at s.heap its out
  have hlen : (ns'.map V.int).length ≤ sizeLine := by rw [List.length_map, h2.length_eq]; exact small64 h64
  exact ⟨.ref _, upd H (s.heap.objs.size + 1) (.lst (ns'.map V.int)), I.laid (t' := s.toks) (fun _ _ => PyProof.Rows.sortedAll_old) (Nat.le_succ _) ⟨hlen, out.toList, ep, vals_of_ints h1, he'⟩, rfl, q ns' _ h2 h3 (I.hok.fresh (Nat.le_succ _))⟩
end

/-! ### enumerate of a tuple -/
theorem meets_enumerate_newT (l : Addr) (items : Array Value) (n : Nat) (dct : Option Addr) (sl : Array (Option Value)) :
    Meets (Builtin.«enumerate.__new__» ⟨[.type "enumerate", .ref l], []⟩) (fun _ R s => s.heap.get? l = some { cls := .type "tuple", dict := dct, data := .seq items n, slots := sl } ∧
      R (.ok (.ret (.ref (s.heap.push { cls := .type "tuple_iterator", data := .fields #[.ref l, .int 0 0] }).objs.size)))
        { s with heap := (s.heap.push { cls := .type "tuple_iterator", data := .fields #[.ref l, .int 0 0] }).push { cls := .type "enumerate", data := .fields #[.none, .bool false, .ref s.heap.objs.size, rawInt 0, .none, .none] } }) :=
  .of_wp fun prog w A R s h => by
    obtain ⟨hp, g, d, tk, os⟩ := s; obtain ⟨hl, h⟩ := h
    have hsub := sub_enumerate
    have hL : Heap.IsTuple (Shared.heap ⟨hp, g, d, tk, os⟩) l items := ⟨_, hl, rfl, n, rfl⟩
    wp_walk using AutoSeq1.wpAny_loadPart' hl
    refine wpAny_stack_any fun st => wpAny_pure ?_
    split
    · rename_i c _ _ _ _ _
      cases (c == Value.type "enumerate")
      · wp_walk using AutoSeq1.wpAny_loadPart' hl, wpAny_pyIter_tuple hL
        exact ⟨_, rfl, h⟩
      · wp_walk using AutoSeq1.wpAny_loadPart' hl, wpAny_pyIter_tuple hL
        exact ⟨_, rfl, h⟩
    · wp_walk using AutoSeq1.wpAny_loadPart' hl, wpAny_pyIter_tuple hL
      exact ⟨_, rfl, h⟩
theorem call_enumerate_tuple {prog : Program} {w : World} {A : Around} {E : Value → Shared → Prop} {s : Shared} {l : Addr} {items : Array Value} {Q : Value → Shared → Prop} (hL : IsTup s.heap l items)
    (h : ∀ h', IsEnum h' (s.heap.objs.size + 1) s.heap.objs.size 0 .none → h'.IsTupleIter s.heap.objs.size l 0 → h'.objs.size = s.heap.objs.size + 2 →
      (∀ b o, s.heap.get? b = some o → h'.get? b = some o) → Q (.ref (s.heap.objs.size + 1)) { s with heap := h' }) :
    wpAny (model prog w) A (call (.type "enumerate") [.ref l]) Q E s := by
  obtain ⟨⟨c, dct, dt, sl⟩, hl, hc, n, hd⟩ := hL
  replace hc : c = .type "tuple" := hc
  replace hd : dt = .seq items n := hd
  subst hc hd
  refine callType_new F.called_enumerate (by decide) (F.typeCall_enumerate_1 _) (F.newCall_enumerate_1 _) (fun obj => F.args_object_init_2 obj _) F.entry_enumerate_new
    (meets_enumerate_newT l items n dct sl) ⟨hl, ?_⟩
  have hz : (s.heap.push { cls := .type "tuple_iterator", data := .fields #[.ref l, .int 0 0] }).objs.size = s.heap.objs.size + 1 := Heap.size_push ..
  show _ ∧ _
  rw [hz]
  have he : IsEnum ((s.heap.push { cls := .type "tuple_iterator", data := .fields #[.ref l, .int 0 0] }).push
      { cls := .type "enumerate", data := .fields #[.none, .bool false, .ref s.heap.objs.size, rawInt 0, .none, .none] }) (s.heap.objs.size + 1) s.heap.objs.size 0 .none := by
    have := Heap.get?_push_size (s.heap.push { cls := .type "tuple_iterator", data := .fields #[.ref l, .int 0 0] })
      (o := { cls := .type "enumerate", data := .fields #[.none, .bool false, .ref s.heap.objs.size, rawInt 0, .none, .none] }) rfl
    rw [hz] at this; exact this
  refine ⟨⟨_, he, rfl⟩, h _ he ⟨_, Heap.get?_push_of_some _ (Heap.get?_push_size _ rfl), rfl, rfl⟩ (by rw [Heap.size_push, hz]) fun b o x => Heap.get?_push_of_some _ (Heap.get?_push_of_some _ x)⟩
/-- the tuple at a, each item in a new pair -/
def IteT (K : PySem.W.Frag) (a : Addr) : It :=
  ⟨fun i H => ∃ (xs : List V) (x : V), SqT K H a xs ∧ xs[i]? = some x, fun i H v H' => ∃ T x, v = .ref T ∧ H T = none ∧ H' = upd H T (.tup [.int (i : Nat), x]) ∧ ∀ xs, SqT K H a xs → xs[i]? = some x, fun i H => ∃ xs : List V, SqT K H a xs ∧ xs.length ≤ i⟩
theorem turn_enumT {P : Program} {w : World} {K : PySem.W.Frag} {elts : List Expr} {kk : Nat} {tpos : Pos} (a e it : Addr) :
    Turn P w K (.Tuple elts kk tpos) (IteT K a) [e, it] e (fun i h => (∃ old, IsEnum h e it ((i : Nat) : Int) old) ∧ h.IsTupleIter it a i ∧ e ≠ it ∧ a ≠ it ∧ e ≠ a) where
  mem := by simp
  obj := fun i h st b hb => by
    obtain ⟨⟨old, he⟩, ⟨o, ho, hc, hd⟩, _⟩ := st
    have e' : b = e ∨ b = it := by simpa using hb
    rcases e' with z | z
    · rw [z]; exact ⟨_, he, fun v q => nomatch q⟩
    · rw [z]; exact ⟨o, ho, fun v q => by rw [hd] at q; cases q⟩
  keep := fun i h h' st k => let ⟨⟨old, he⟩, hi, hne, hna⟩ := st; ⟨⟨old, k e (by simp) _ he⟩, hi.at fun o q => k it (by simp) o q, hne, hna⟩
  item := by
    intro X hP hw hK hc i pins s σ H E I hf st hg
    subst hP hw hK
    obtain ⟨⟨old, he⟩, hit, hne, hna, hea⟩ := st
    obtain ⟨xs, x, hq, hx⟩ := hg
    obtain ⟨its, rv, p, hz⟩ := I.tuple hq
    obtain ⟨u, hu, ru⟩ := rv.get hx
    have hel : e < s.heap.objs.size := Heap.lt_size he
    have hil : it < s.heap.objs.size := by obtain ⟨_, q, _⟩ := hit; exact Heap.lt_size q
    have hlt : i < its.toArray.size := by
      rw [List.size_toArray, ← rv.length]
      exact (List.getElem?_eq_some_iff.mp hx).1
    refine wpAny_pyNext_enum_itemD (Draws.tuple (A := X.A.in1) (I.ok.hd hc) it a hna its.toArray) he ⟨hit, show s.heap.IsTuple a its.toArray from p⟩ hlt hne (by intro z; rcases List.mem_cons.mp z with z | z; exact hne z; exact hea (List.mem_singleton.mp z)) fun u' h' tk hu' ho hit' hT hsz hk => ?_
    obtain ⟨hit', _⟩ := hit'
    have eu : u' = u := by
      have h1 : its.toArray[i]? = some u := by simpa using hu
      rw [h1] at hu'
      exact (Option.some.inj hu').symm
    subst eu
    refine ⟨_, rfl, wpAny_letOwnedTupleGo_enum (s := { s with heap := h', toks := tk + 1 }) ho fun h'' he' sb => ?_⟩
    have hT2 : h''.get? s.heap.objs.size = some { cls := .type "tuple", data := .seq #[.int i tk, u'] } := (sb.2 _ (Nat.ne_of_gt hel)).trans hT
    have new : ObjOk X.prog X.w (upd H s.heap.objs.size (.tup [.int (i : Nat), x])) h'' s.heap.objs.size (.tup [.int (i : Nat), x]) :=
      ⟨by show 2 ≤ sizeLine; decide, [.int i tk, u'], .cons ⟨_, rfl⟩ (.cons ru .nil), ⟨_, hT2, rfl, _, rfl⟩⟩
    have I1 : Inv X pins σ (upd H s.heap.objs.size (.tup [.int (i : Nat), x])) { s with heap := h'', toks := tk + 1 } :=
      I.turnedNew (ch := [e, it]) (fun b ob hb q => (sb.2 b (fun z => hb (by simp [z]))).trans (hk b ob (fun z => hb (by simp [z])) (fun z => hb (by simp [z])) q)) hf (Nat.le_refl _) new
    refine ⟨.ref s.heap.objs.size, _, I1, rfl, ⟨_, x, rfl, I.hok.fresh (Nat.le_refl _), rfl, fun ys hy => by rw [I.tuple_inj hy hq]; exact hx⟩, ⟨⟨u', ?_⟩, hit'.at fun o q => (sb.2 it (Ne.symm hne)).trans q, hne, hna, hea⟩, fun b hb => ?_⟩
    · have e1 : ((i + 1 : Nat) : Int) = (i : Int) + 1 := by omega
      rw [e1]; exact he'
    · have hb' : b < s.heap.objs.size := by
        have e' : b = e ∨ b = it := by simpa using hb
        rcases e' with z | z
        · rw [z]; exact hel
        · rw [z]; exact hil
      rw [upd_ne (Nat.ne_of_lt hb')]
      exact (hf b hb).1
  done := by
    intro X hP hw hK hc i pins s σ H E I hf st hg
    subst hP hw hK
    obtain ⟨⟨old, he⟩, hit, hne, hna, hea⟩ := st
    obtain ⟨xs, hq, hx⟩ := hg
    obtain ⟨its, rv, p, hz⟩ := I.tuple hq
    obtain ⟨f0, f1, f2, f3, f4, f5⟩ := hf it (by simp)
    have hl := rv.length
    have hT : s.TypeIs (.ref e) "enumerate" := ⟨_, he, rfl⟩
    unfold pyNext
    refine wpAny_bind (wpAny_attempt (wpAny_callSpecial?_slot (name := Str.ofString "__next__") hT F.slot_enumerate_next
      (wpAny_call_entry F.slot_enumerate_next hT F.entry_enumerate_next ?_ (F.args_enumerate_next_1 _))))
    show wpAny _ _ (field (.ref e) 2 >>= _) _ _ _
    refine wpAny_bind (wpAny_field he rfl (x := .ref it) rfl ?_)
    refine wpAny_bind (wpAny_nextOf_tuple_end (I.ok.hd hc) hit (show s.heap.IsTuple a its.toArray from p) (by simp; omega) fun h' x he' hx' => ?_)
    obtain ⟨o, ho, hcx⟩ := hx'
    refine wpAny_bind (wpAny_isInstance (T := "StopIteration") (b := true) ⟨o, ho, hcx⟩ isSubtype_stop ?_)
    exact wpAny_pure ⟨rfl, I.turned (t' := s.toks) (fun b o hb q => he' b o hb q) f0 f1 f3 f4 f5⟩
  self := fun A i s Q E st h => let ⟨⟨_, he⟩, _⟩ := st; wpAny_pyIter_enum he h
def iEnumT (K : PySem.W.Frag) (ta : TA) : TI := fun σ H R => ta σ H fun vs H1 => ∃ a xs, vs = [.ref a] ∧ SqT K H1 a xs ∧ R (IteT K a) H1
theorem pi_enumT {X : Cx} {e : Expr} {ta : TA} {p pos tpos : Pos} {elts : List Expr} {kk : Nat} (hg : Gl X "enumerate") (hm : X.mg "enumerate" = none) (ha : PA X [e] ta) (hs : starEach [e] X.env = [(false, eval e X.env)] := by rfl) :
    PI X (.Tuple elts kk tpos) (.Call (.Name "enumerate" p) [e] [] pos) (iEnumT X.K ta) := by
  refine ⟨fun pins s σ H R I h => ?_⟩
  refine Call_ (ld_blt I hg hm boot_enumerate (PyProof.Rows.callWith_type1 (thn (ha.run pos pins s σ H _ I h) fun us s1 ⟨vs, H1, I1, r1, q1⟩ => ?_) hs rfl))
  obtain ⟨a, xs, ex, hq, q⟩ := q1
  subst ex
  cases r1 with
  | cons r rr =>
    cases rr
    cases r
    obtain ⟨its, rv, p', hz⟩ := I1.tuple hq
    refine call_enumerate_tuple p' fun h' he hit hsz hk => wpAny_pyIter_enum he ?_
    have I2 : Inv X pins σ H1 { s1 with heap := h' } := I1.kept (t' := s1.toks) hk
    have hal : a < s1.heap.objs.size := p'.lt
    refine ⟨s1.heap.objs.size + 1, [s1.heap.objs.size + 1, s1.heap.objs.size], _, _, H1, rfl, I2, turn_enumT a (s1.heap.objs.size + 1) s1.heap.objs.size, ⟨⟨.none, he⟩, hit, Nat.succ_ne_self _, Nat.ne_of_lt hal, Nat.ne_of_gt (Nat.lt_succ_of_lt hal)⟩, fun b hb => ?_, q⟩
    have e' : b = s1.heap.objs.size + 1 ∨ b = s1.heap.objs.size := by simpa using hb
    have hle : s1.heap.objs.size ≤ b := by
      rcases e' with z | z
      · rw [z]; exact Nat.le_add_right _ _
      · rw [z]; exact Nat.le_refl _
    exact I1.fpOk hle (I1.hok.fresh hle)
end Sy
namespace Sy
open PySem PySem.Spec PyProof.Rows L2

/-! ### sequences -/
def cutD (xs : List D) (lo hi : Option Int) : List D := (xs.drop (HT.sIx xs.length 0 lo)).take (HT.sIx xs.length xs.length hi - HT.sIx xs.length 0 lo)
def PostO (K : PySem.W.Frag) (M0 : Hp) (σ : L2.St) (B : Hp) (k : Option Int → Env_ → Prop) : Option Int → Hp → Prop := fun v H => ∃ env' B' M', H = J B' M' ∧ Conc K M0 env' B' M' σ ∧ Same B B' ∧ k v env'
def LO (K : PySem.W.Frag) (t : TO) (env : Env_) (k : Option Int → Env_ → Prop) : Prop := ∀ (M0 B M : Hp) (σ : L2.St), Conc K M0 env B M σ → ∀ Q : Option Int → Hp → Prop, (∀ v H, PostO K M0 σ B k v H → Q v H) → t σ (J B M) Q
/-- a slice's part -/
def EO (X : Cx) (e : Option Expr) (env : Env_) (k : Option Int → Env_ → Prop) : Prop := ∃ t, PO X e t ∧ LO X.K t env k
section
variable {X : Cx} {K : PySem.W.Frag} {e a b c : Expr} {es rest : List Expr} {env : Env_} {k : D → Env_ → Prop} {kb : Bool → Env_ → Prop} {km : MO → Env_ → Prop} {kl : List D → Env_ → Prop} {ko : Option Int → Env_ → Prop} {k4 : K4} {pos p : Pos}
variable {M0 B B1 M : Hp} {σ : L2.St}
theorem cut_len {xs : List V} {ds : List D} (h : xs.length = ds.length) (lo hi : Option Int) {B : Hp} (r : RpA K B ds xs) : RpA K B (cutD ds lo hi) (cutV xs lo hi) := by
  unfold cutD cutV
  rw [h]
  exact (r.drop _).take _
theorem PostD.newT {ds : List D} {xs : List V} {q : Addr} {o : Obj} (c : Conc K M0 env B M σ) (hp : J B M q = none) (h1 : o.cls = .type "tuple") (h2 : o.dict = none) (r : RpA K B ds xs) (z : k (.tup ds) env) : PostD K M0 σ B k (.ref q) (upd (J B M) q (.frz o (.tup xs))) :=
  .new (d := .tup ds) c hp ⟨q, xs, rfl, .inl ⟨o, upd_same, h1, h2⟩, r.mono (same_new (J_none hp).2)⟩ z
theorem PostM.newL {ds : List D} {xs : List V} {q : Addr} (c : Conc K M0 env B M σ) (hp : J B M q = none) (r : RpA K B ds xs) (z : km (.lst ds) env) : PostM K M0 σ B km (.ref q) (upd (J B M) q (.lst xs)) := .new (mo := .lst ds) c hp ⟨xs, rfl, r⟩ z
theorem PostD.mutL {d : D} {i : Nat} {ad : Addr} {mo : MO} {ds : List D} {xs : List V} {v : V} (c : Conc K M0 env B M σ) (hi : env[i]? = some (.mu ad mo)) (hr : RpA K B ds xs) (r : Rp K B d v) (q : k d (env.set i (.mu ad (.lst ds)))) (hv : V.ref ad = mo.val ad := by rfl) : PostD K M0 σ B k v (upd (J B M) ad (.lst xs)) :=
  ⟨d, _, B, upd M ad (.lst xs), upd_JM, c.mut (mo' := .lst ds) hi ⟨xs, rfl, hr⟩ hv, Same.refl B, r, q⟩
theorem eo_none (q : ko none env) : EO X none env ko := ⟨_, po_none, fun M0 B M σ c Q hQ => hQ _ _ ⟨env, B, M, rfl, c, Same.refl B, q⟩⟩
theorem eo_some (h : EE X e env fun d env' => ∃ i, d = I i ∧ ko (some i) env') : EO X (some e) env ko := ⟨_, po_some pe_can, fun M0 B M σ c Q hQ => h M0 B M σ c _ fun v H ⟨d, env', B', M', e1, c', sm, r, i, e2, q⟩ => by
  subst e1 e2; cases r
  exact ⟨i, rfl, hQ _ _ ⟨env', B', M', rfl, c', sm, q⟩⟩⟩
/-- t[lo:hi] -/
theorem ee_sliceT {lo hi : Option Expr} {p2 : Pos} (h : EE X a env fun d env1 => ∃ ds, d = .tup ds ∧ EO X lo env1 fun l env2 => EO X hi env2 fun u env3 => k (.tup (cutD ds l u)) env3) : EE X (.Subscript a (.Slice lo hi none p2) pos) env k := fun M0 B M σ c Q hQ pins s I =>
  (pe_slice (r := fun x l u H Q => rSlS X.K x l u H Q) sl_tupS pe_can (lo := lo) (hi := hi) (tl := fun σ H Q => ∀ pins s, Inv X pins σ H s → wpAny (model X.prog X.w) X.A (evalPart lo X.env) (fun u s' => ∃ o H', Inv X pins σ H' s' ∧ IsPart u o ∧ Q o H') X.xe s) (th := fun σ H Q => ∀ pins s, Inv X pins σ H s → wpAny (model X.prog X.w) X.A (evalPart hi X.env) (fun u s' => ∃ o H', Inv X pins σ H' s' ∧ IsPart u o ∧ Q o H') X.xe s)
    ⟨fun pins s σ H Q I h => h pins s I⟩ ⟨fun pins s σ H Q I h => h pins s I⟩).run pins s σ _ Q I (h M0 B M σ c _ fun v H ⟨d, env', B', M', e1, c', sm, r, ds, e2, t1, po1, q1⟩ => by
      subst e1 e2
      intro pins s I
      refine po1.run pins s σ _ _ I (q1 M0 B' M' σ c' _ fun l H ⟨env2, B2, M2, e1, c2, s2, t2, po2, q2⟩ => ?_)
      subst e1
      intro pins s I
      refine po2.run pins s σ _ _ I (q2 M0 B2 M2 σ c2 _ fun u H ⟨env3, B3, M3, e1, c3, s3, q3⟩ => ?_)
      subst e1
      obtain ⟨ad, xs, rfl, hs, hr⟩ := Rp.mono (s2.trans s3) _ _ r
      have hl := hr.length
      refine ⟨ad, xs, rfl, sqT_same c3.same hs.sq, fun hw => ?_, fun hw p o hp h1 h2 => ?_⟩
      · refine hQ _ _ ⟨.tup (cutD ds l u), env3, B3, M3, rfl, c3, (sm.trans s2).trans s3, ⟨ad, xs, rfl, hs, ?_⟩, q3⟩
        have ec := cut_len hl l u hr
        have : cutV xs l u = xs := by
          unfold cutV
          rw [hw.1, hw.2, List.drop_zero, Nat.sub_zero, List.take_length]
        rw [this] at ec
        exact ec
      · exact hQ _ _ ((PostD.newT c3 hp h1 h2 (cut_len hl l u hr) q3).back ((sm.trans s2).trans s3)))
/-- xs[lo:hi], a list that stands still: a new list -/
theorem em_sliceL {lo hi : Option Expr} {p2 : Pos} (h : EE X a env fun d env1 => ∃ ds, d = .lst ds ∧ EO X lo env1 fun l env2 => EO X hi env2 fun u env3 => km (.lst (cutD ds l u)) env3) : EM X (.Subscript a (.Slice lo hi none p2) pos) env km := fun M0 B M σ c Q hQ pins s I =>
  (pe_slice (r := fun x l u H Q => rSlL X.K x l u H Q) sl_list pe_can (lo := lo) (hi := hi) (tl := fun σ H Q => ∀ pins s, Inv X pins σ H s → wpAny (model X.prog X.w) X.A (evalPart lo X.env) (fun u s' => ∃ o H', Inv X pins σ H' s' ∧ IsPart u o ∧ Q o H') X.xe s) (th := fun σ H Q => ∀ pins s, Inv X pins σ H s → wpAny (model X.prog X.w) X.A (evalPart hi X.env) (fun u s' => ∃ o H', Inv X pins σ H' s' ∧ IsPart u o ∧ Q o H') X.xe s)
    ⟨fun pins s σ H Q I h => h pins s I⟩ ⟨fun pins s σ H Q I h => h pins s I⟩).run pins s σ _ Q I (h M0 B M σ c _ fun v H ⟨d, env', B', M', e1, c', sm, r, ds, e2, t1, po1, q1⟩ => by
      subst e1 e2
      intro pins s I
      refine po1.run pins s σ _ _ I (q1 M0 B' M' σ c' _ fun l H ⟨env2, B2, M2, e1, c2, s2, t2, po2, q2⟩ => ?_)
      subst e1
      intro pins s I
      refine po2.run pins s σ _ _ I (q2 M0 B2 M2 σ c2 _ fun u H ⟨env3, B3, M3, e1, c3, s3, q3⟩ => ?_)
      subst e1
      obtain ⟨ad, xs, rfl, hs, hr⟩ := Rp.mono (s2.trans s3) _ _ r
      refine ⟨ad, xs, rfl, sqL_same c3.same hs, fun p hp => ?_⟩
      exact hQ _ _ ((PostM.newL c3 hp (cut_len hr.length l u hr) q3).back ((sm.trans s2).trans s3)))
/-- xs[lo:hi], a list of one's own in slot i -/
theorem em_sliceX (i : Nat) {lo hi : Option Expr} {p2 pn : Pos} {x : Str} {ad : Addr} {mo0 : MO} (hi0 : env[i]? = some (.mu ad mo0)) (h : EO X lo env fun l env2 => EO X hi env2 fun u env3 => ∃ ds, env3[i]? = some (.mu ad (.lst ds)) ∧ km (.lst (cutD ds l u)) env3)
    (hN : X.N[i]? = some x := by rfl) (hv : Vis X.env.scope x := by first | exact Or.inl rfl | exact Or.inr (Or.inl rfl) | exact Or.inr (Or.inr rfl)) (hd : (x == ("__debug__" : Str)) = false := by decide) (hcd : (x == ("__classdict__" : Str)) = false := by decide) :
    EM X (.Subscript (.Name x pn) (.Slice lo hi none p2) pos) env km := fun M0 B M σ c Q hQ pins s I =>
  (pe_slice (r := fun x l u H Q => rSlL X.K x l u H Q) sl_list (pe_var hN hv hd hcd) (lo := lo) (hi := hi) (tl := fun σ H Q => ∀ pins s, Inv X pins σ H s → wpAny (model X.prog X.w) X.A (evalPart lo X.env) (fun u s' => ∃ o H', Inv X pins σ H' s' ∧ IsPart u o ∧ Q o H') X.xe s) (th := fun σ H Q => ∀ pins s, Inv X pins σ H s → wpAny (model X.prog X.w) X.A (evalPart hi X.env) (fun u s' => ∃ o H', Inv X pins σ H' s' ∧ IsPart u o ∧ Q o H') X.xe s)
    ⟨fun pins s σ H Q I h => h pins s I⟩ ⟨fun pins s σ H Q I h => h pins s I⟩).run pins s σ _ Q I (by
      obtain ⟨s0, hs0, es0, o0, ho0, hr0⟩ := c.slot i _ hi0
      refine ⟨mo0.val ad, by rw [hs0, es0], ?_⟩
      obtain ⟨t1, po1, q1⟩ := h
      intro pins s I
      refine po1.run pins s σ _ _ I (q1 M0 B M σ c _ fun l H ⟨env2, B2, M2, e1, c2, s2, t2, po2, q2⟩ => ?_)
      subst e1
      intro pins s I
      refine po2.run pins s σ _ _ I (q2 M0 B2 M2 σ c2 _ fun u H ⟨env3, B3, M3, e1, c3, s3, ds, hi3, q3⟩ => ?_)
      subst e1
      obtain ⟨s1, hs1, es1, o1, ho1, xs, rfl, hr⟩ := c3.slot i _ hi3
      refine ⟨ad, xs, c.valeq hi0 c3 hi3, SqL.of (J_M ho1), fun p hp => ?_⟩
      exact hQ _ _ ((PostM.newL c3 hp (cut_len hr.length l u hr) q3).back (s2.trans s3)))
/-- t[::-1] -/
theorem ee_revT {k0 : Nat} {p1 p2 p3 : Pos} (h : EE X a env fun d env1 => ∃ ds, d = .tup ds ∧ k (.tup ds.reverse) env1) : EE X (.Subscript a (.Slice none none (some (.UnaryOp .USub (.Constant (.int 1) k0 p1) p2)) p3) pos) env k := .of (pe_revT pe_can) fun M0 B M σ c Q hQ =>
  h M0 B M σ c _ fun v H ⟨d, env', B', M', e1, c', sm, r, ds, e2, q⟩ => by
    subst e1 e2
    obtain ⟨ad, xs, rfl, hs, hr⟩ := r
    exact ⟨ad, xs, rfl, sqT_same c'.same hs.sq, fun p o hp h1 h2 => hQ _ _ ((PostD.newT c' hp h1 h2 hr.reverse q).back sm)⟩
/-- xs[::-1] of a list -/
theorem em_revL {k0 : Nat} {p1 p2 p3 : Pos} (h : EL X a env fun ds env1 => km (.lst ds.reverse) env1) : EM X (.Subscript a (.Slice none none (some (.UnaryOp .USub (.Constant (.int 1) k0 p1) p2)) p3) pos) env km := .of (pe_revL pe_can) fun M0 B M σ c Q hQ =>
  h M0 B M σ c _ fun v H ⟨ad, xs, ds, env', B', M', e1, e2, c', sm, hs, hr, q⟩ => by
    subst e1 e2
    exact ⟨ad, xs, rfl, hs, fun p hp => hQ _ _ ((PostM.newL c' hp (hr.reverse) q).back sm)⟩

/-! ### displays -/
theorem ee_tup {x1} (h : ED X es env fun ds env' => ds.length ≤ 1000 ∧ k (.tup ds) env') : EE X (.Tuple es x1 pos) env k := .of (pe_tupS pa_can) fun M0 B M σ c Q hQ => h M0 B M σ c _ fun vs H ⟨ds, env', B', M', e1, c', sm, r, hl, q⟩ => by
  subst e1
  exact ⟨by rw [r.length, sizeLine_eq]; omega, fun p o hp h1 h2 => hQ _ _ ((PostD.newT c' hp h1 h2 r q).back sm)⟩
theorem em_lst (h : ED X es env fun ds env' => ds.length ≤ 1000 ∧ km (.lst ds) env') : EM X (.List es pos) env km := .of (pe_lst pa_can) fun M0 B M σ c Q hQ => h M0 B M σ c _ fun vs H ⟨ds, env', B', M', e1, c', sm, r, hl, q⟩ => by
  subst e1
  exact ⟨by rw [r.length, sizeLine_eq]; omega, fun p hp => hQ _ _ ((PostM.newL c' hp (r) q).back sm)⟩

/-! ### built-in functions of one list, one tuple -/
theorem ee_lenL (hm : X.mg "len" = none) (h : EL X e env fun ds env' => k (I ds.length) env') (hg : Gl X "len" := by rfl) (he : starEach (e :: []) X.env = (false, eval e X.env) :: starEach [] X.env := by rfl) (hpl : (backTo pos (starEach [] X.env)).any (·.1) = false := by rfl) : EE X (.Call (.Name "len" p) [e] [] pos) env k :=
  .of (pe_callB call_len_seq hg hm PySem.boot_len (pa_cons pe_can pa_nil he) (by decide) (by decide) he hpl) fun M0 B M σ c Q hQ => h M0 B M σ c _ fun v H ⟨ad, xs, ds, env', B', M', e1, e2, c', sm, hs, hr, q⟩ => by
    subst e1 e2
    refine ⟨ad, xs, rfl, .inl hs, hQ _ _ ((PostD.nowA c' ?_).back sm)⟩
    rw [hr.length]
    exact q
theorem ee_lenT (hm : X.mg "len" = none) (h : EE X e env fun d env' => ∃ ds, d = .tup ds ∧ k (I ds.length) env') (hg : Gl X "len" := by rfl) (he : starEach (e :: []) X.env = (false, eval e X.env) :: starEach [] X.env := by rfl) (hpl : (backTo pos (starEach [] X.env)).any (·.1) = false := by rfl) : EE X (.Call (.Name "len" p) [e] [] pos) env k :=
  .of (pe_callB call_len_seq hg hm PySem.boot_len (pa_cons pe_can pa_nil he) (by decide) (by decide) he hpl) fun M0 B M σ c Q hQ => h M0 B M σ c _ fun v H ⟨d, env', B', M', e1, c', sm, r, ds, e2, q⟩ => by
    subst e1 e2
    obtain ⟨ad, xs, rfl, hs, hr⟩ := r
    refine ⟨ad, xs, rfl, .inr (sqT_same c'.same hs.sq), hQ _ _ ((PostD.nowA c' ?_).back sm)⟩
    rw [hr.length]
    exact q
/-- a call of a built-in function or type r on one list, on one tuple -/
def CL (K : PySem.W.Frag) (r : List V → Hp → VK → Prop) (ds : List D) (env : Env_) (P : (L2.St → Hp → Hp → VK) → Prop) : Prop := True
theorem le_cb1 {r : List V → Hp → VK → Prop} {te : TE} (h : ∀ (M0 B M : Hp) (σ : L2.St), Conc K M0 env B M σ → ∀ Q : VK, (∀ v H, PostD K M0 σ B k v H → Q v H) → te σ (J B M) fun x H => r [x] H Q) : LE K (tCB r (tCons te tNil)) env k := h
theorem ee_sumL (hm : X.mg "sum" = none) (h : EL X e env fun ds env' => ∃ ns : List Int, ds = ns.map I ∧ k (I ns.sum) env') (hc : X.calm = true := by rfl) (hg : Gl X "sum" := by rfl) (he : starEach (e :: []) X.env = (false, eval e X.env) :: starEach [] X.env := by rfl) (hpl : (backTo pos (starEach [] X.env)).any (·.1) = false := by rfl) : EE X (.Call (.Name "sum" p) [e] [] pos) env k :=
  .of (pe_callB (cr_sum hc) hg hm (by decide +kernel) (pa_cons pe_can pa_nil he) (by decide) (by decide) he hpl) fun M0 B M σ c Q hQ => h M0 B M σ c _ fun v H ⟨ad, xs, ds, env', B', M', e1, e2, c', sm, hs, hr, ns, e3, q⟩ => by
    subst e1 e2 e3
    rw [hr.ints_eq] at hs
    exact ⟨ad, ns, rfl, hs, hQ _ _ ((PostD.nowA c' q).back sm)⟩
theorem ee_sumT (hm : X.mg "sum" = none) (h : EE X e env fun d env' => ∃ ns : List Int, d = .tup (ns.map I) ∧ k (I ns.sum) env') (hc : X.calm = true := by rfl) (hg : Gl X "sum" := by rfl) (he : starEach (e :: []) X.env = (false, eval e X.env) :: starEach [] X.env := by rfl) (hpl : (backTo pos (starEach [] X.env)).any (·.1) = false := by rfl) : EE X (.Call (.Name "sum" p) [e] [] pos) env k :=
  .of (pe_callB (cr_sumT hc) hg hm (by decide +kernel) (pa_cons pe_can pa_nil he) (by decide) (by decide) he hpl) fun M0 B M σ c Q hQ => h M0 B M σ c _ fun v H ⟨d, env', B', M', e1, c', sm, r, ns, e3, q⟩ => by
    subst e1 e3
    obtain ⟨ad, xs, rfl, hs, hr⟩ := r
    rw [hr.ints_eq] at hs
    exact ⟨ad, ns, rfl, sqT_same c'.same hs.sq, hQ _ _ ((PostD.nowA c' q).back sm)⟩
theorem ee_minT (hm : X.mg "min" = none) (hu : X.A.units + 1 < cLine) (h : EE X e env fun d env' => ∃ ns : List Int, d = .tup (ns.map I) ∧ ns ≠ [] ∧ ∀ m, m ∈ ns → (∀ y, y ∈ ns → m ≤ y) → k (I m) env') (hc : X.calm = true := by rfl) (hg : Gl X "min" := by rfl) (he : starEach (e :: []) X.env = (false, eval e X.env) :: starEach [] X.env := by rfl) (hpl : (backTo pos (starEach [] X.env)).any (·.1) = false := by rfl) : EE X (.Call (.Name "min" p) [e] [] pos) env k :=
  .of (pe_callB (cr_minT hc hu) hg hm (by decide +kernel) (pa_cons pe_can pa_nil he) (by decide) (by decide) he hpl) fun M0 B M σ c Q hQ => h M0 B M σ c _ fun v H ⟨d, env', B', M', e1, c', sm, r, ns, e3, hne, q⟩ => by
    subst e1 e3
    obtain ⟨ad, xs, rfl, hs, hr⟩ := r
    rw [hr.ints_eq] at hs
    exact ⟨ad, ns, rfl, sqT_same c'.same hs.sq, hne, fun m h1 h2 => hQ _ _ ((PostD.nowA c' (q m h1 h2)).back sm)⟩
theorem ee_maxT (hm : X.mg "max" = none) (hu : X.A.units + 1 < cLine) (h : EE X e env fun d env' => ∃ ns : List Int, d = .tup (ns.map I) ∧ ns ≠ [] ∧ ∀ m, m ∈ ns → (∀ y, y ∈ ns → y ≤ m) → k (I m) env') (hc : X.calm = true := by rfl) (hg : Gl X "max" := by rfl) (he : starEach (e :: []) X.env = (false, eval e X.env) :: starEach [] X.env := by rfl) (hpl : (backTo pos (starEach [] X.env)).any (·.1) = false := by rfl) : EE X (.Call (.Name "max" p) [e] [] pos) env k :=
  .of (pe_callB (cr_maxT hc hu) hg hm (by decide +kernel) (pa_cons pe_can pa_nil he) (by decide) (by decide) he hpl) fun M0 B M σ c Q hQ => h M0 B M σ c _ fun v H ⟨d, env', B', M', e1, c', sm, r, ns, e3, hne, q⟩ => by
    subst e1 e3
    obtain ⟨ad, xs, rfl, hs, hr⟩ := r
    rw [hr.ints_eq] at hs
    exact ⟨ad, ns, rfl, sqT_same c'.same hs.sq, hne, fun m h1 h2 => hQ _ _ ((PostD.nowA c' (q m h1 h2)).back sm)⟩
theorem ee_minL (hm : X.mg "min" = none) (h : EL X e env fun ds env' => ∃ ns : List Int, ds = ns.map I ∧ 0 < ns.length ∧ ∀ m, m ∈ ns → (∀ y, y ∈ ns → m ≤ y) → k (I m) env') (hc : X.calm = true := by rfl) (hg : Gl X "min" := by rfl) (he : starEach (e :: []) X.env = (false, eval e X.env) :: starEach [] X.env := by rfl) (hpl : (backTo pos (starEach [] X.env)).any (·.1) = false := by rfl) : EE X (.Call (.Name "min" p) [e] [] pos) env k :=
  .of (pe_callB (cr_min hc) hg hm (by decide +kernel) (pa_cons pe_can pa_nil he) (by decide) (by decide) he hpl) fun M0 B M σ c Q hQ => h M0 B M σ c _ fun v H ⟨ad, xs, ds, env', B', M', e1, e2, c', sm, hs, hr, ns, e3, hne, q⟩ => by
    subst e1 e2 e3
    rw [hr.ints_eq] at hs
    exact ⟨ad, ns, rfl, hs, hne, fun m h1 h2 => hQ _ _ ((PostD.nowA c' (q m h1 h2)).back sm)⟩
theorem ee_maxL (hm : X.mg "max" = none) (h : EL X e env fun ds env' => ∃ ns : List Int, ds = ns.map I ∧ 0 < ns.length ∧ ∀ m, m ∈ ns → (∀ y, y ∈ ns → y ≤ m) → k (I m) env') (hc : X.calm = true := by rfl) (hg : Gl X "max" := by rfl) (he : starEach (e :: []) X.env = (false, eval e X.env) :: starEach [] X.env := by rfl) (hpl : (backTo pos (starEach [] X.env)).any (·.1) = false := by rfl) : EE X (.Call (.Name "max" p) [e] [] pos) env k :=
  .of (pe_callB (cr_max hc) hg hm (by decide +kernel) (pa_cons pe_can pa_nil he) (by decide) (by decide) he hpl) fun M0 B M σ c Q hQ => h M0 B M σ c _ fun v H ⟨ad, xs, ds, env', B', M', e1, e2, c', sm, hs, hr, ns, e3, hne, q⟩ => by
    subst e1 e2 e3
    rw [hr.ints_eq] at hs
    exact ⟨ad, ns, rfl, hs, hne, fun m h1 h2 => hQ _ _ ((PostD.nowA c' (q m h1 h2)).back sm)⟩
theorem em_sortedT (hm : X.mg "sorted" = none) (h : EE X e env fun d env' => ∃ ns : List Int, d = .tup (ns.map I) ∧ ns.length < 64 ∧ ∀ ns' : List Int, ns'.Perm ns → ns'.Pairwise (· ≤ ·) → km (.lst (ns'.map I)) env') (hg : Gl X "sorted" := by rfl) (he : starEach (e :: []) X.env = (false, eval e X.env) :: starEach [] X.env := by rfl) (hpl : (backTo pos (starEach [] X.env)).any (·.1) = false := by rfl) : EM X (.Call (.Name "sorted" p) [e] [] pos) env km :=
  .of (pe_callB cr_sortedT hg hm (by decide +kernel) (pa_cons pe_can pa_nil he) (by decide) (by decide) he hpl) fun M0 B M σ c Q hQ => h M0 B M σ c _ fun v H ⟨d, env', B', M', e1, c', sm, r, ns, e3, hl, q⟩ => by
    subst e1 e3
    obtain ⟨ad, xs, rfl, hs, hr⟩ := r
    rw [hr.ints_eq] at hs
    exact ⟨ad, ns, rfl, sqT_same c'.same hs.sq, hl, fun ns' p h1 h2 hp => hQ _ _ ((PostM.newL c' hp (RpA.ints) (q ns' h1 h2)).back sm)⟩
theorem em_sortedL (hm : X.mg "sorted" = none) (h : EL X e env fun ds env' => ∃ ns : List Int, ds = ns.map I ∧ ns.length < 64 ∧ ∀ ns' : List Int, ns'.Perm ns → ns'.Pairwise (· ≤ ·) → km (.lst (ns'.map I)) env') (hg : Gl X "sorted" := by rfl) (he : starEach (e :: []) X.env = (false, eval e X.env) :: starEach [] X.env := by rfl) (hpl : (backTo pos (starEach [] X.env)).any (·.1) = false := by rfl) : EM X (.Call (.Name "sorted" p) [e] [] pos) env km :=
  .of (pe_callB cr_sorted hg hm (by decide +kernel) (pa_cons pe_can pa_nil he) (by decide) (by decide) he hpl) fun M0 B M σ c Q hQ => h M0 B M σ c _ fun v H ⟨ad, xs, ds, env', B', M', e1, e2, c', sm, hs, hr, ns, e3, hl, q⟩ => by
    subst e1 e2 e3
    rw [hr.ints_eq] at hs
    exact ⟨ad, ns, rfl, hs, hl, fun ns' p h1 h2 hp => hQ _ _ ((PostM.newL c' hp (RpA.ints) (q ns' h1 h2)).back sm)⟩
/-- tuple(xs) of a list, list(t), list(xs) -/
theorem ee_tupleL (hm : X.mg "tuple" = none) (h : EL X e env fun ds env' => k (.tup ds) env') (hg : Gl X "tuple" := by rfl) (he : starEach (e :: []) X.env = (false, eval e X.env) :: starEach [] X.env := by rfl) (hpl : (backTo pos (starEach [] X.env)).any (·.1) = false := by rfl) : EE X (.Call (.Name "tuple" p) [e] [] pos) env k :=
  .of (pe_callTy call_tupleS hg hm (by decide +kernel) (pa_cons pe_can pa_nil he) (by decide) (by decide) he hpl) fun M0 B M σ c Q hQ => h M0 B M σ c _ fun v H ⟨ad, xs, ds, env', B', M', e1, e2, c', sm, hs, hr, q⟩ => by
    subst e1 e2
    exact ⟨ad, xs, rfl, .inl ⟨hs, fun p o hp h1 h2 => hQ _ _ ((PostD.newT c' hp h1 h2 hr q).back sm)⟩⟩
theorem em_listT (hm : X.mg "list" = none) (h : EE X e env fun d env' => ∃ ds, d = .tup ds ∧ km (.lst ds) env') (hg : Gl X "list" := by rfl) (he : starEach (e :: []) X.env = (false, eval e X.env) :: starEach [] X.env := by rfl) (hpl : (backTo pos (starEach [] X.env)).any (·.1) = false := by rfl) : EM X (.Call (.Name "list" p) [e] [] pos) env km :=
  .of (pe_callTy call_list_of hg hm (by decide +kernel) (pa_cons pe_can pa_nil he) (by decide) (by decide) he hpl) fun M0 B M σ c Q hQ => h M0 B M σ c _ fun v H ⟨d, env', B', M', e1, c', sm, r, ds, e3, q⟩ => by
    subst e1 e3
    obtain ⟨ad, xs, rfl, hs, hr⟩ := r
    exact ⟨ad, xs, rfl, .inr (sqT_same c'.same hs.sq), fun p hp => hQ _ _ ((PostM.newL c' hp (hr) q).back sm)⟩
theorem em_listL (hm : X.mg "list" = none) (h : EL X e env fun ds env' => km (.lst ds) env') (hg : Gl X "list" := by rfl) (he : starEach (e :: []) X.env = (false, eval e X.env) :: starEach [] X.env := by rfl) (hpl : (backTo pos (starEach [] X.env)).any (·.1) = false := by rfl) : EM X (.Call (.Name "list" p) [e] [] pos) env km :=
  .of (pe_callTy call_list_of hg hm (by decide +kernel) (pa_cons pe_can pa_nil he) (by decide) (by decide) he hpl) fun M0 B M σ c Q hQ => h M0 B M σ c _ fun v H ⟨ad, xs, ds, env', B', M', e1, e2, c', sm, hs, hr, q⟩ => by
    subst e1 e2
    exact ⟨ad, xs, rfl, .inl hs, fun p hp => hQ _ _ ((PostM.newL c' hp (hr) q).back sm)⟩
/-- int(b) -/
theorem ee_intB (hm : X.mg "int" = none) (h : EE X e env fun d env' => ∃ b, d = Bl b ∧ k (I (if b then 1 else 0)) env') (hg : Gl X "int" := by rfl) (he : starEach (e :: []) X.env = (false, eval e X.env) :: starEach [] X.env := by rfl) (hpl : (backTo pos (starEach [] X.env)).any (·.1) = false := by rfl) : EE X (.Call (.Name "int" p) [e] [] pos) env k :=
  .of (pe_callTy call_int1 hg hm (by decide +kernel) (pa_cons pe_can pa_nil he) (by decide) (by decide) he hpl) fun M0 B M σ c Q hQ => h M0 B M σ c _ fun v H ⟨d, env', B', M', e1, c', sm, r, b, e3, q⟩ => by
    subst e1 e3
    cases r
    exact .inr ⟨b, rfl, hQ _ _ ((PostD.nowA c' q).back sm)⟩
/-- all(xs), any(xs) of a list of bools -/
theorem ee_all (hm : X.mg "all" = none) (h : EL X e env fun ds env' => ∃ bs : List Bool, ds = bs.map Bl ∧ k (Bl (bs.all id)) env') (hc : X.calm = true := by rfl) (hg : Gl X "all" := by rfl) (he : starEach (e :: []) X.env = (false, eval e X.env) :: starEach [] X.env := by rfl) (hpl : (backTo pos (starEach [] X.env)).any (·.1) = false := by rfl) : EE X (.Call (.Name "all" p) [e] [] pos) env k :=
  .of (pe_callB (cr_all hc) hg hm (by decide +kernel) (pa_cons pe_can pa_nil he) (by decide) (by decide) he hpl) fun M0 B M σ c Q hQ => h M0 B M σ c _ fun v H ⟨ad, xs, ds, env', B', M', e1, e2, c', sm, hs, hr, bs, e3, q⟩ => by
    subst e1 e2 e3
    have e : bs.map Bl = (bs.map V.bl).map D.v := by rw [List.map_map]; rfl
    rw [e] at hr
    rw [hr.atoms_eq] at hs
    exact ⟨ad, bs, rfl, hs, hQ _ _ ((PostD.nowA c' q).back sm)⟩
theorem ee_any (hm : X.mg "any" = none) (h : EL X e env fun ds env' => ∃ bs : List Bool, ds = bs.map Bl ∧ k (Bl (bs.any id)) env') (hc : X.calm = true := by rfl) (hg : Gl X "any" := by rfl) (he : starEach (e :: []) X.env = (false, eval e X.env) :: starEach [] X.env := by rfl) (hpl : (backTo pos (starEach [] X.env)).any (·.1) = false := by rfl) : EE X (.Call (.Name "any" p) [e] [] pos) env k :=
  .of (pe_callB (cr_any hc) hg hm (by decide +kernel) (pa_cons pe_can pa_nil he) (by decide) (by decide) he hpl) fun M0 B M σ c Q hQ => h M0 B M σ c _ fun v H ⟨ad, xs, ds, env', B', M', e1, e2, c', sm, hs, hr, bs, e3, q⟩ => by
    subst e1 e2 e3
    have e : bs.map Bl = (bs.map V.bl).map D.v := by rw [List.map_map]; rfl
    rw [e] at hr
    rw [hr.atoms_eq] at hs
    exact ⟨ad, bs, rfl, hs, hQ _ _ ((PostD.nowA c' q).back sm)⟩
/-- min(i, j), max(i, j) -/
theorem ee_min2 (hm : X.mg "min" = none) (h : ED X (a :: b :: []) env fun ds env' => ∃ i j, ds = [I i, I j] ∧ k (I (if j < i then j else i)) env') (hc : X.calm = true := by rfl) (hg : Gl X "min" := by rfl) (he : starEach (a :: [b]) X.env = (false, eval a X.env) :: starEach [b] X.env := by rfl) (hpl : (backTo pos (starEach [b] X.env)).any (·.1) = false := by rfl) : EE X (.Call (.Name "min" p) [a, b] [] pos) env k :=
  .of (pe_callB (call_min2 hc) hg hm (by decide +kernel) pa_can (by decide) (by decide) he hpl) fun M0 B M σ c Q hQ => h M0 B M σ c _ fun vs H ⟨ds, env', B', M', e1, c', sm, r, i, j, e3, q⟩ => by
    subst e1 e3
    obtain ⟨x, r', rfl, rx, y, r'', rfl, ry, rz⟩ := r
    cases rx; cases ry; cases rz
    exact ⟨i, j, rfl, hQ _ _ ((PostD.nowA c' q).back sm)⟩
theorem ee_max2 (hm : X.mg "max" = none) (h : ED X (a :: b :: []) env fun ds env' => ∃ i j, ds = [I i, I j] ∧ k (I (if j > i then j else i)) env') (hc : X.calm = true := by rfl) (hg : Gl X "max" := by rfl) (he : starEach (a :: [b]) X.env = (false, eval a X.env) :: starEach [b] X.env := by rfl) (hpl : (backTo pos (starEach [b] X.env)).any (·.1) = false := by rfl) : EE X (.Call (.Name "max" p) [a, b] [] pos) env k :=
  .of (pe_callB (call_max2 hc) hg hm (by decide +kernel) pa_can (by decide) (by decide) he hpl) fun M0 B M σ c Q hQ => h M0 B M σ c _ fun vs H ⟨ds, env', B', M', e1, c', sm, r, i, j, e3, q⟩ => by
    subst e1 e3
    obtain ⟨x, r', rfl, rx, y, r'', rfl, ry, rz⟩ := r
    cases rx; cases ry; cases rz
    exact ⟨i, j, rfl, hQ _ _ ((PostD.nowA c' q).back sm)⟩
/-- list(range(..)), tuple(range(..)) -/
def rgD (a b : Int) : List D := (List.range (b - a).toNat).map fun i => I (a + (i : Nat))
theorem rg_rp {x y : Int} : RpA K B (rgD x y) (rgV x y) := by
  have e : rgD x y = (rgV x y).map D.v := by
    unfold rgD rgV
    rw [List.map_map]
    rfl
  rw [e]
  exact RpA.atoms
theorem em_listRg1 {p2 pos2 : Pos} (hm : X.mg "list" = none) (hm2 : X.mg "range" = none) (h : EE X a env fun d env' => ∃ n, d = I n ∧ RgOk 0 n ∧ km (.lst (rgD 0 n)) env') (hc : X.calm = true := by rfl) (hg : Gl X "list" := by rfl) (hg2 : Gl X "range" := by rfl)
    (na : starEach [a] X.env = (false, eval a X.env) :: starEach [] X.env := by rfl) (na2 : starEach [.Call (.Name "range" p2) [a] [] pos2] X.env = (false, eval (.Call (.Name "range" p2) [a] [] pos2) X.env) :: starEach [] X.env := by rfl) : EM X (.Call (.Name "list" p) [.Call (.Name "range" p2) [a] [] pos2] [] pos) env km :=
  .of (pe_listRg hc hg hm (prg_1 hg2 hm2 pe_can na) na2) fun M0 B M σ c Q hQ => h M0 B M σ c _ fun v H ⟨d, env', B', M', e1, c', sm, r, n, e3, ok, q⟩ => by
    subst e1 e3; cases r
    exact ⟨n, rfl, ok, fun p hp => hQ _ _ ((PostM.newL c' hp (rg_rp) q).back sm)⟩
theorem em_listRg2 {p2 pos2 : Pos} (hm : X.mg "list" = none) (hm2 : X.mg "range" = none) (h : EE X a env fun d env' => EE X b env' fun d2 env2 => ∃ x y, d = I x ∧ d2 = I y ∧ RgOk x y ∧ km (.lst (rgD x y)) env2) (hc : X.calm = true := by rfl) (hg : Gl X "list" := by rfl) (hg2 : Gl X "range" := by rfl)
    (na : starEach [a, b] X.env = (false, eval a X.env) :: starEach [b] X.env := by rfl) (nb : starEach [b] X.env = (false, eval b X.env) :: starEach [] X.env := by rfl) (hp : (backTo pos2 (starEach [b] X.env)).any (·.1) = false := by rfl)
    (na2 : starEach [.Call (.Name "range" p2) [a, b] [] pos2] X.env = (false, eval (.Call (.Name "range" p2) [a, b] [] pos2) X.env) :: starEach [] X.env := by rfl) : EM X (.Call (.Name "list" p) [.Call (.Name "range" p2) [a, b] [] pos2] [] pos) env km :=
  .of (pe_listRg hc hg hm (prg_2 hg2 hm2 pe_can pe_can na nb hp) na2) fun M0 B M σ c Q hQ => h M0 B M σ c _ fun v H ⟨d, env', B', M', e1, c', sm, r, q⟩ => by
    subst e1
    refine q M0 B' M' σ c' _ fun v2 H ⟨d2, env2, B2, M2, e2, c2, s2, r2, x, y, e3, e4, ok, q2⟩ => ?_
    subst e2 e3 e4; cases r; cases r2
    exact ⟨x, y, rfl, rfl, ok, fun p hp => hQ _ _ ((PostM.newL c2 hp (rg_rp) q2).back (sm.trans s2))⟩

/-! ### methods of lists, of tuples -/
theorem PostD.mut {d : D} {i : Nat} {ad : Addr} {mo mo' : MO} {o' : HO} {v : V} (c : Conc K M0 env B M σ) (hi : env[i]? = some (.mu ad mo)) (hr : RpO K B ad mo' o') (r : Rp K B d v) (q : k d (env.set i (.mu ad mo'))) (hv : mo'.val ad = mo.val ad := by rfl) : PostD K M0 σ B k v (upd (J B M) ad o') :=
  ⟨d, _, B, upd M ad o', upd_JM, c.mut hi hr hv, Same.refl B, r, q⟩
/-- x.append(e), x a list of one's own in slot i -/
theorem ee_append (i : Nat) {x : Str} {pn apos : Pos} {ad : Addr} {ds0 : List D} (hi0 : env[i]? = some (.mu ad (.lst ds0))) (h : EE X e env fun d env1 => ∃ ds, env1[i]? = some (.mu ad (.lst ds)) ∧ ds.length ≤ 1000000 ∧ k Nn (env1.set i (.mu ad (.lst (ds ++ [d])))))
    (hN : X.N[i]? = some x := by rfl) (hv : Vis X.env.scope x := by first | exact Or.inl rfl | exact Or.inr (Or.inl rfl) | exact Or.inr (Or.inr rfl)) (hd : (x == ("__debug__" : Str)) = false := by decide) (hcd : (x == ("__classdict__" : Str)) = false := by decide)
    (hb : attributeBase (.Name x pn) "append" X.env (eval (.Name x pn) X.env) = eval (.Name x pn) X.env := by rfl)
    (hfew : ((backTo pos (starEach (e :: []) X.env)).all (fun x => !x.1) && (backToKw pos (keywordEach [] X.env)).all (fun x => x.1.isSome)
      && decide ((e :: ([] : List Expr)).length + ([] : List Keyword).length + (if ([] : List Keyword).isEmpty then 0 else 1) < 30)) = true := by rfl)
    (hline : (apos.endLine == pos.line) = true := by rfl) (hs : starEach (e :: []) X.env = (false, eval e X.env) :: starEach [] X.env := by rfl) (hpl : (backTo pos (starEach [] X.env)).any (·.1) = false := by rfl) :
    EE X (.Call (.Attribute (.Name x pn) "append" apos) [e] [] pos) env k := .of (pe_bm PySem.F.plainAttrs_list PySem.F.slot_list_append PySem.F.type_list_append mt_append (pe_var hN hv hd hcd) (pa_cons pe_can pa_nil hs) hb hfew hline hs hpl) fun M0 B M σ c Q hQ => by
  obtain ⟨s0, hs0, es0, o0, ho0, hr0⟩ := c.slot i _ hi0
  refine ⟨.ref ad, by rw [hs0, es0], ?_, h M0 B M σ c _ fun v H ⟨d, env1, B1, M1, e1, c1, s1, r, ds, hi1, hl, q⟩ => ?_⟩
  · obtain ⟨xs, rfl, _⟩ := hr0
    exact .inl ⟨rfl, xs, SqL.of (J_M ho0)⟩
  · subst e1
    obtain ⟨s2, hs2, es2, o2, ho2, xs, rfl, hr⟩ := c1.slot i _ hi1
    exact ⟨ad, xs, v, rfl, rfl, J_M ho2, by rw [hr.length, sizeLine_eq]; omega, hQ _ _ ((PostD.mutL (d := Nn) c1 hi1 (hr.append (show RpA X.K B1 [d] [v] from ⟨v, [], rfl, r, rfl⟩)) rfl q).back s1)⟩
end
end Sy
namespace Sy
open PySem PySem.Spec PyProof.Rows L2

/-! ### data that are compared -/
mutual
def D.py : D → PyData
  | .v .non => .none
  | .v (.bl b) => .bool b
  | .v (.int i) => .int i
  | .v (.str x) => .str x
  | .v _ => .none
  | .tup ds => .tuple (pyA ds)
  | .wt ds => .tuple (pyA ds)
  | .lst ds => .list (pyA ds)
  | .dct _ => .none
  | .dti _ => .none
def pyA : List D → List PyData
  | [] => []
  | d :: ds => d.py :: pyA ds
end
/-! plain data without truth values: == tells them apart by what they are -/
mutual
def D.eqk : D → Prop
  | .v .non => True
  | .v (.int _) => True
  | .v (.str x) => PyData.strOk x = true
  | .v _ => False
  | .tup ds => eqkA ds
  | .lst ds => eqkA ds
  | .wt _ => False
  | .dct _ => False
  | .dti _ => False
def eqkA : List D → Prop
  | [] => True
  | d :: ds => d.eqk ∧ eqkA ds
end
mutual
def D.dep : D → Nat
  | .v _ => 0
  | .tup ds => depA ds + 1
  | .wt ds => depA ds + 1
  | .lst ds => depA ds + 1
  | .dct _ => 0
  | .dti _ => 0
def depA : List D → Nat
  | [] => 0
  | d :: ds => max d.dep (depA ds)
end
section
variable {K : PySem.W.Frag} {B H : Hp}
mutual
theorem Rp.dp (e : Same B H) : ∀ (d : D) (v : V), d.eqk → Rp K B d v → Dp K H v d.py
  | .v .non, v, _, h => by cases h; exact .non
  | .v (.int i), v, _, h => by cases h; exact .int i
  | .v (.str x), v, _, h => by cases h; exact .str x
  | .v (.bl _), v, k, h => k.elim
  | .v (.byt _), v, k, h => k.elim
  | .v (.flt _), v, k, h => k.elim
  | .v (.ref _), v, k, h => k.elim
  | .v (.ty _), v, k, h => k.elim
  | .tup ds, v, k, h => by
    obtain ⟨a, xs, rfl, h1, h2⟩ := h
    exact .tup (sqT_same e h1.sq) (RpA.dp e ds xs k h2)
  | .lst ds, v, k, h => by
    obtain ⟨a, xs, rfl, h1, h2⟩ := h
    exact .lst (sqL_same e h1) (RpA.dp e ds xs k h2)
  | .wt _, v, k, h => k.elim
  | .dct _, v, k, h => k.elim
  | .dti _, v, k, h => k.elim
theorem RpA.dp (e : Same B H) : ∀ (ds : List D) (vs : List V), eqkA ds → RpA K B ds vs → DpAll K H vs (pyA ds)
  | [], vs, _, h => by cases h; exact .nil
  | d :: ds, vs, k, h => by
    obtain ⟨x, r, rfl, h1, h2⟩ := h
    exact .cons (Rp.dp e d x k.1 h1) (RpA.dp e ds r k.2 h2)
end
mutual
theorem eqk_lay : ∀ d : D, d.eqk → d.py.canLay0 = true
  | .v .non, _ => by simp [D.py, PyData.canLay0]
  | .v (.int i), _ => by simp [D.py, PyData.canLay0]
  | .v (.str x), h => by
    have h' : PyData.strOk x = true := h
    simpa [D.py, PyData.canLay0] using h'
  | .v (.bl _), k => k.elim
  | .v (.byt _), k => k.elim
  | .v (.flt _), k => k.elim
  | .v (.ref _), k => k.elim
  | .v (.ty _), k => k.elim
  | .tup ds, k => by
    have := eqk_layA ds k
    simpa [D.py, PyData.canLay0] using this
  | .lst ds, k => by
    have := eqk_layA ds k
    simpa [D.py, PyData.canLay0] using this
  | .wt _, k => k.elim
  | .dct _, k => k.elim
  | .dti _, k => k.elim
theorem eqk_layA : ∀ ds : List D, eqkA ds → PyData.canLayAll0 (pyA ds) = true
  | [], _ => by simp [pyA, PyData.canLayAll0]
  | d :: ds, k => by
    have h1 := eqk_lay d k.1
    have h2 := eqk_layA ds k.2
    simp [pyA, PyData.canLayAll0, h1, h2]
end
mutual
theorem dep_le : ∀ d : D, d.py.depth ≤ d.dep
  | .v .non => by simp [D.py, PyData.depth]
  | .v (.int i) => by simp [D.py, PyData.depth]
  | .v (.str x) => by simp [D.py, PyData.depth]
  | .v (.bl _) => by simp [D.py, PyData.depth]
  | .v (.byt _) => by simp [D.py, PyData.depth]
  | .v (.flt _) => by simp [D.py, PyData.depth]
  | .v (.ref _) => by simp [D.py, PyData.depth]
  | .v (.ty _) => by simp [D.py, PyData.depth]
  | .tup ds => by
    have := dep_leA ds
    simp [D.py, PyData.depth, D.dep]
    omega
  | .lst ds => by
    have := dep_leA ds
    simp [D.py, PyData.depth, D.dep]
    omega
  | .wt ds => by
    have := dep_leA ds
    simp [D.py, PyData.depth, D.dep]
    omega
  | .dct _ => by simp [D.py, PyData.depth]
  | .dti _ => by simp [D.py, PyData.depth]
theorem dep_leA : ∀ ds : List D, PyData.depthAll (pyA ds) ≤ depA ds
  | [] => by simp [pyA, PyData.depthAll]
  | d :: ds => by
    have h1 := dep_le d
    have h2 := dep_leA ds
    simp [pyA, PyData.depthAll, depA]
    omega
end
theorem eqk_shaped {d : D} (k : d.eqk) (h : d.dep ≤ 64) : SeqAt.shaped d.py = true := by
  unfold SeqAt.shaped
  rw [eqk_lay d k, Bool.true_and]
  exact decide_eq_true (Nat.le_trans (dep_le d) h)
mutual
theorem eqv_iff : ∀ d e : D, d.eqk → e.eqk → (PyData.eqv d.py e.py = true ↔ d = e)
  | .v .non, .v .non, _, _ => by simp [D.py, PyData.eqv]
  | .v .non, .v (.int _), _, _ => by simp [D.py, PyData.eqv]
  | .v .non, .v (.str _), _, _ => by simp [D.py, PyData.eqv]
  | .v .non, .tup _, _, _ => by simp [D.py, PyData.eqv]
  | .v .non, .lst _, _, _ => by simp [D.py, PyData.eqv]
  | .v (.int _), .v .non, _, _ => by simp [D.py, PyData.eqv]
  | .v (.int i), .v (.int j), _, _ => by simp [D.py, PyData.eqv]
  | .v (.int _), .v (.str _), _, _ => by simp [D.py, PyData.eqv]
  | .v (.int _), .tup _, _, _ => by simp [D.py, PyData.eqv]
  | .v (.int _), .lst _, _, _ => by simp [D.py, PyData.eqv]
  | .v (.str _), .v .non, _, _ => by simp [D.py, PyData.eqv]
  | .v (.str _), .v (.int _), _, _ => by simp [D.py, PyData.eqv]
  | .v (.str x), .v (.str y), _, _ => by simp [D.py, PyData.eqv]
  | .v (.str _), .tup _, _, _ => by simp [D.py, PyData.eqv]
  | .v (.str _), .lst _, _, _ => by simp [D.py, PyData.eqv]
  | .tup _, .v .non, _, _ => by simp [D.py, PyData.eqv]
  | .tup _, .v (.int _), _, _ => by simp [D.py, PyData.eqv]
  | .tup _, .v (.str _), _, _ => by simp [D.py, PyData.eqv]
  | .tup ds, .tup es, k1, k2 => by
    have := eqv_iffA ds es k1 k2
    simp [D.py, PyData.eqv, this]
  | .tup _, .lst _, _, _ => by simp [D.py, PyData.eqv]
  | .lst _, .v .non, _, _ => by simp [D.py, PyData.eqv]
  | .lst _, .v (.int _), _, _ => by simp [D.py, PyData.eqv]
  | .lst _, .v (.str _), _, _ => by simp [D.py, PyData.eqv]
  | .lst _, .tup _, _, _ => by simp [D.py, PyData.eqv]
  | .lst ds, .lst es, k1, k2 => by
    have := eqv_iffA ds es k1 k2
    simp [D.py, PyData.eqv, this]
  | .v (.bl _), _, k, _ => k.elim
  | .v (.byt _), _, k, _ => k.elim
  | .v (.flt _), _, k, _ => k.elim
  | .v (.ref _), _, k, _ => k.elim
  | .v (.ty _), _, k, _ => k.elim
  | .wt _, _, k, _ => k.elim
  | .dct _, _, k, _ => k.elim
  | .dti _, _, k, _ => k.elim
  | _, .v (.bl _), _, k => k.elim
  | _, .v (.byt _), _, k => k.elim
  | _, .v (.flt _), _, k => k.elim
  | _, .v (.ref _), _, k => k.elim
  | _, .v (.ty _), _, k => k.elim
  | _, .wt _, _, k => k.elim
  | _, .dct _, _, k => k.elim
  | _, .dti _, _, k => k.elim
theorem eqv_iffA : ∀ ds es : List D, eqkA ds → eqkA es → (PyData.eqvAll (pyA ds) (pyA es) = true ↔ ds = es)
  | [], [], _, _ => by simp [pyA, PyData.eqvAll]
  | [], e :: es, _, _ => by simp [pyA, PyData.eqvAll]
  | d :: ds, [], _, _ => by simp [pyA, PyData.eqvAll]
  | d :: ds, e :: es, k1, k2 => by
    have h1 := eqv_iff d e k1.1 k2.1
    have h2 := eqv_iffA ds es k1.2 k2.2
    simp [pyA, PyData.eqvAll, h1, h2]
end
end
theorem eqkA_ints : ∀ ns : List Int, eqkA (ns.map I)
  | [] => trivial
  | _ :: r => ⟨trivial, eqkA_ints r⟩
theorem depA_ints : ∀ ns : List Int, depA (ns.map I) = 0
  | [] => rfl
  | _ :: r => by
    show max 0 (depA (r.map I)) = 0
    rw [depA_ints r]; rfl
theorem I_inj {a b : Int} (h : I a = I b) : a = b := V.int.inj (D.v.inj h)
theorem mapI_inj : ∀ {ns ms : List Int}, ns.map I = ms.map I → ns = ms
  | [], [], _ => rfl
  | [], _ :: _, h => by cases h
  | _ :: _, [], h => by cases h
  | a :: r, b :: q, h => by
    rw [List.map_cons, List.map_cons] at h
    injection h with h1 h2
    rw [I_inj h1, mapI_inj h2]
section
variable {X : Cx} {K : PySem.W.Frag} {e a b c : Expr} {es rest : List Expr} {env : Env_} {k : D → Env_ → Prop} {kb : Bool → Env_ → Prop} {km : MO → Env_ → Prop} {kl : List D → Env_ → Prop} {k4 : K4} {pos p : Pos}
variable {M0 B B1 M : Hp} {σ : L2.St}
/-- == of plain data -/
theorem co_eqD {d1 d2 : D} (hu : X.A.units + 64 < cLine) (k1 : d1.eqk) (k2 : d2.eqk) (h1 : d1.dep ≤ 64) (h2 : d2.dep ≤ 64) (q : ∀ x, (x = true ↔ d1 = d2) → k (Bl x) env) : CO X .Eq d1 d2 env k := .of (op_eqD hu) fun M0 B M σ c v1 v2 r1 r2 Q hQ =>
  ⟨d1.py, d2.py, Rp.dp c.same d1 v1 k1 r1, Rp.dp c.same d2 v2 k2 r2, eqk_shaped k1 h1, eqk_shaped k2 h2, hQ _ _ (.nowA c (q _ (eqv_iff d1 d2 k1 k2)))⟩
theorem co_neD {d1 d2 : D} (hu : X.A.units + 64 < cLine) (k1 : d1.eqk) (k2 : d2.eqk) (h1 : d1.dep ≤ 64) (h2 : d2.dep ≤ 64) (q : ∀ x, (x = true ↔ d1 ≠ d2) → k (Bl x) env) : CO X .NotEq d1 d2 env k := .of (op_neD hu) fun M0 B M σ c v1 v2 r1 r2 Q hQ =>
  ⟨d1.py, d2.py, Rp.dp c.same d1 v1 k1 r1, Rp.dp c.same d2 v2 k2 r2, eqk_shaped k1 h1, eqk_shaped k2 h2, hQ _ _ (.nowA c (q _ (by
    have := eqv_iff d1 d2 k1 k2
    cases z : PyData.eqv d1.py d2.py with
    | true => exact ⟨fun w => (by cases w), fun w => (w (this.mp z)).elim⟩
    | false => exact ⟨fun _ w => (by rw [this.mpr w] at z; cases z), fun _ => rfl⟩)))⟩
/-- t + u -/
theorem bo_cat {ds es : List D} (hl : ds.length + es.length ≤ 1000000) (q : k (.tup (ds ++ es)) env) : BO X .Add (.tup ds) (.tup es) env k := .of op_catS fun M0 B M σ c v1 v2 r1 r2 Q hQ => by
  obtain ⟨a1, xs, rfl, hs1, hr1⟩ := r1
  obtain ⟨a2, ys, rfl, hs2, hr2⟩ := r2
  refine ⟨a1, a2, xs, ys, rfl, rfl, sqT_same c.same hs1.sq, sqT_same c.same hs2.sq, by rw [hr1.length, hr2.length, sizeLine_eq]; omega, fun h => ?_, fun _ h => ?_, fun _ _ p o hp h1 h2 => hQ _ _ (.newT c hp h1 h2 (hr1.append hr2) q)⟩
  · subst h
    have e1 : ds = [] := List.eq_nil_of_length_eq_zero (by rw [← hr1.length]; rfl)
    rw [e1, List.nil_append] at q
    exact hQ _ _ (PostD.now (d := .tup es) c ⟨a2, ys, rfl, hs2, hr2⟩ q)
  · subst h
    have e1 : es = [] := List.eq_nil_of_length_eq_zero (by rw [← hr2.length]; rfl)
    rw [e1, List.append_nil] at q
    exact hQ _ _ (PostD.now (d := .tup ds) c ⟨a1, xs, rfl, hs1, hr1⟩ q)
/-- x in t, x not in t (ints, in a tuple, a list that stands still) -/
theorem inV_ints (i : Int) (ns : List Int) : inV (.int i) (ns.map V.int) = decide (i ∈ ns) := by
  unfold inV
  induction ns with
  | nil => rfl
  | cons a r ih =>
    rw [List.map_cons, List.any_cons, ih]
    show ((a == i) || decide (i ∈ r)) = decide (i ∈ a :: r)
    by_cases h : a = i
    · subst h; simp
    · have h1 : (a == i) = false := beq_eq_false_iff_ne.mpr h
      rw [h1, Bool.false_or]
      by_cases h2 : i ∈ r
      · rw [decide_eq_true h2, decide_eq_true (List.mem_cons_of_mem _ h2)]
      · rw [decide_eq_false h2, decide_eq_false]
        intro h3
        rcases List.mem_cons.mp h3 with h4 | h4
        · exact h h4.symm
        · exact h2 h4
theorem flat_ints (ns : List Int) : (ns.map V.int).all flatV = true := by
  rw [List.all_eq_true]
  intro x hx
  obtain ⟨i, _, rfl⟩ := List.mem_map.mp hx
  rfl
theorem co_inT {i : Int} {ns : List Int} (q : k (Bl (decide (i ∈ ns))) env) : CO X .In (I i) (.tup (ns.map I)) env k := .of op_in_seq fun M0 B M σ c v1 v2 r1 r2 Q hQ => by
  cases r1
  obtain ⟨a2, ys, rfl, hs2, hr2⟩ := r2
  have ey := hr2.ints_eq
  subst ey
  exact ⟨a2, _, rfl, .inr (sqT_same c.same hs2.sq), rfl, flat_ints ns, hQ _ _ (.nowA c (by
    show k (Bl (if false = true then !inV (.int i) (ns.map V.int) else inV (.int i) (ns.map V.int))) env
    rw [if_neg Bool.false_ne_true, inV_ints]; exact q))⟩
theorem co_niT {i : Int} {ns : List Int} (q : k (Bl (!decide (i ∈ ns))) env) : CO X .NotIn (I i) (.tup (ns.map I)) env k := .of op_notIn_seq fun M0 B M σ c v1 v2 r1 r2 Q hQ => by
  cases r1
  obtain ⟨a2, ys, rfl, hs2, hr2⟩ := r2
  have ey := hr2.ints_eq
  subst ey
  exact ⟨a2, _, rfl, .inr (sqT_same c.same hs2.sq), rfl, flat_ints ns, hQ _ _ (.nowA c (by
    show k (Bl (if true = true then !inV (.int i) (ns.map V.int) else inV (.int i) (ns.map V.int))) env
    rw [if_pos rfl, inV_ints]; exact q))⟩
theorem co_inL {i : Int} {ns : List Int} (q : k (Bl (decide (i ∈ ns))) env) : CO X .In (I i) (.lst (ns.map I)) env k := .of op_in_seq fun M0 B M σ c v1 v2 r1 r2 Q hQ => by
  cases r1
  obtain ⟨a2, ys, rfl, hs2, hr2⟩ := r2
  have ey := hr2.ints_eq
  subst ey
  exact ⟨a2, _, rfl, .inl (sqL_same c.same hs2), rfl, flat_ints ns, hQ _ _ (.nowA c (by
    show k (Bl (if false = true then !inV (.int i) (ns.map V.int) else inV (.int i) (ns.map V.int))) env
    rw [if_neg Bool.false_ne_true, inV_ints]; exact q))⟩
theorem co_niL {i : Int} {ns : List Int} (q : k (Bl (!decide (i ∈ ns))) env) : CO X .NotIn (I i) (.lst (ns.map I)) env k := .of op_notIn_seq fun M0 B M σ c v1 v2 r1 r2 Q hQ => by
  cases r1
  obtain ⟨a2, ys, rfl, hs2, hr2⟩ := r2
  have ey := hr2.ints_eq
  subst ey
  exact ⟨a2, _, rfl, .inl (sqL_same c.same hs2), rfl, flat_ints ns, hQ _ _ (.nowA c (by
    show k (Bl (if true = true then !inV (.int i) (ns.map V.int) else inV (.int i) (ns.map V.int))) env
    rw [if_pos rfl, inV_ints]; exact q))⟩

/-! ### items -/
theorem atI_rp {ds : List D} {xs : List V} {i : Int} {d : D} (r : RpA K B ds xs) (h : atI ds i = some d) : ∃ v, atI xs i = some v ∧ Rp K B d v := by
  unfold atI at h ⊢
  rw [r.length]
  cases e : ixN ds.length i with
  | none => rw [e] at h; cases h
  | some j =>
    rw [e] at h
    exact r.get h
theorem IxR.of_or {r r' : R2} (h : IxR X r) (h' : IxR X r') : IxR X (fun x y H Q => r x y H Q ∨ r' x y H Q) := h.or h'
/-- a[b], a data -/
theorem ee_ix (h : EE X a env fun d1 env1 => EE X b env1 fun d2 env2 => ∃ ds i d, (d1 = .tup ds ∨ d1 = .lst ds) ∧ d2 = I i ∧ atI ds i = some d ∧ k d env2) (hs : PlainIx b := by exact fun _ _ => rfl) : EE X (.Subscript a b pos) env k :=
  .of (pe_ix (ix_list.or ix_tup) pe_can pe_can hs) fun M0 B M σ c Q hQ => h M0 B M σ c _ fun v H ⟨d1, env1, B1, M1, e1, c1, s1, r1, q1⟩ => by
    subst e1
    refine q1 M0 B1 M1 σ c1 _ fun v2 H ⟨d2, env2, B2, M2, e2, c2, s2, r2, ds, i, d, hd, e3, hi, q2⟩ => ?_
    subst e2 e3; cases r2
    have r1' := Rp.mono s2 _ _ r1
    rcases hd with rfl | rfl
    · obtain ⟨ad, xs, rfl, hs, hr⟩ := r1'
      obtain ⟨v, hv, rv⟩ := atI_rp hr hi
      exact .inr ⟨ad, xs, i, v, rfl, rfl, sqT_same c2.same hs.sq, hv, hQ _ _ ((PostD.now c2 rv q2).back (s1.trans s2))⟩
    · obtain ⟨ad, xs, rfl, hs, hr⟩ := r1'
      obtain ⟨v, hv, rv⟩ := atI_rp hr hi
      exact .inl ⟨ad, xs, i, v, rfl, rfl, sqL_same c2.same hs, hv, hQ _ _ ((PostD.now c2 rv q2).back (s1.trans s2))⟩
/-- x[b], x a list of one's own in slot i -/
theorem ee_ixX (i : Nat) {x : Str} {pn : Pos} {ad : Addr} {mo0 : MO} (hi0 : env[i]? = some (.mu ad mo0)) (h : EE X b env fun d2 env2 => ∃ ds j d, env2[i]? = some (.mu ad (.lst ds)) ∧ d2 = I j ∧ atI ds j = some d ∧ k d env2) (hs : PlainIx b := by exact fun _ _ => rfl)
    (hN : X.N[i]? = some x := by rfl) (hv : Vis X.env.scope x := by first | exact Or.inl rfl | exact Or.inr (Or.inl rfl) | exact Or.inr (Or.inr rfl)) (hd : (x == ("__debug__" : Str)) = false := by decide) (hcd : (x == ("__classdict__" : Str)) = false := by decide) : EE X (.Subscript (.Name x pn) b pos) env k :=
  .of (pe_ix ix_list (pe_var hN hv hd hcd) pe_can hs) fun M0 B M σ c Q hQ => by
    obtain ⟨s0, hs0, es0, o0, ho0, hr0⟩ := c.slot i _ hi0
    refine ⟨mo0.val ad, by rw [hs0, es0], h M0 B M σ c _ fun v2 H ⟨d2, env2, B2, M2, e2, c2, s2, r2, ds, j, d, hi2, e3, hj, q2⟩ => ?_⟩
    subst e2 e3; cases r2
    obtain ⟨s1, hs1, es1, o1, ho1, xs, rfl, hr⟩ := c2.slot i _ hi2
    obtain ⟨v, hv, rv⟩ := atI_rp hr hj
    exact ⟨ad, xs, j, v, c.valeq hi0 c2 hi2, rfl, SqL.of (J_M ho1), hv, hQ _ _ ((PostD.now c2 rv q2).back s2)⟩
/-- x[b] = e, x a list of one's own in slot i -/
theorem s_setIx (i : Nat) {x : Str} {pn p2 : Pos} {ad : Addr} {mo0 : MO} (hi0 : env[i]? = some (.mu ad mo0)) (h : EE X e env fun d env1 => ∃ mo1, env1[i]? = some (.mu ad mo1) ∧ EE X b env1 fun d2 env2 => ∃ ds j m, env2[i]? = some (.mu ad (.lst ds)) ∧ d2 = I j ∧ ixN ds.length j = some m ∧ k4.nx (env2.set i (.mu ad (.lst (ds.set m d)))))
    (hN : X.N[i]? = some x := by rfl) (hv : Vis X.env.scope x := by first | exact Or.inl rfl | exact Or.inr (Or.inl rfl) | exact Or.inr (Or.inr rfl)) (hd : (x == ("__debug__" : Str)) = false := by decide) (hcd : (x == ("__classdict__" : Str)) = false := by decide)
    (ha : ∀ v, assign (.Subscript (.Name x pn) b p2) X.env v = (do
      let ov ← holding [v] (eval (.Name x pn) X.env)
      let iv ← holding [v, ov] (eval b X.env)
      standAt p2
      holding [v, ov, iv] (setItem ov iv v)
      release [v, ov, iv] []) := by intro _; rfl)
    (hs : swapsWithSole [.Subscript (.Name x pn) b p2] e pos.line X.env = pure false := by rfl) (hw : swappedStores [.Subscript (.Name x pn) b p2] e X.env = pure none := by rfl)
    (h1 : (assignEach [.Subscript (.Name x pn) b p2] X.env).map (·.2) = [assign (.Subscript (.Name x pn) b p2) X.env] := by rfl) : S1 X (.Assign [.Subscript (.Name x pn) b p2] e pos) env k4 :=
  .of (ps_asg pe_can (pg_sub (pe_var hN hv hd hcd) pe_can set_list ha) hs hw h1) fun M0 B M σ c Dd q1 q2 q3 q4 => h M0 B M σ c _ fun v H ⟨d, env1, B1, M1, e1, c1, s1, r1, mo1, hi1, h2⟩ => by
    subst e1
    obtain ⟨s0, hs0, es0, o0, ho0, hr0⟩ := c1.slot i _ hi1
    refine ⟨mo1.val ad, by rw [hs0, es0], h2 M0 B1 M1 σ c1 _ fun v2 H ⟨d2, env2, B2, M2, e2, c2, s2, r2, ds, j, m, hi2, e3, hj, z⟩ => ?_⟩
    subst e2 e3; cases r2
    obtain ⟨s3, hs3, es3, o1, ho1, xs, rfl, hr⟩ := c2.slot i _ hi2
    refine ⟨ad, xs, j, m, c1.valeq hi1 c2 hi2, rfl, J_M ho1, by rw [hr.length]; exact hj, ?_⟩
    rw [upd_JM]
    exact q1 _ _ ⟨_, B2, _, rfl, c2.mut (mo' := .lst (ds.set m d)) hi2 ⟨_, rfl, hr.set m (Rp.mono s2 d v r1)⟩, s1.trans s2, z⟩
/-- x.insert(a, b) -/
theorem ee_insert (i : Nat) {x : Str} {pn apos : Pos} {ad : Addr} {ds0 : List D} (hi0 : env[i]? = some (.mu ad (.lst ds0))) (h : ED X [a, b] env fun as env1 => ∃ ds j d, as = [I j, d] ∧ env1[i]? = some (.mu ad (.lst ds)) ∧ ds.length ≤ 1000000 ∧ 0 ≤ j ∧ j < 2 ^ 63 ∧ k Nn (env1.set i (.mu ad (.lst (ds.take j.toNat ++ [d] ++ ds.drop j.toNat)))))
    (hN : X.N[i]? = some x := by rfl) (hv : Vis X.env.scope x := by first | exact Or.inl rfl | exact Or.inr (Or.inl rfl) | exact Or.inr (Or.inr rfl)) (hd : (x == ("__debug__" : Str)) = false := by decide) (hcd : (x == ("__classdict__" : Str)) = false := by decide)
    (hb : attributeBase (.Name x pn) "insert" X.env (eval (.Name x pn) X.env) = eval (.Name x pn) X.env := by rfl)
    (hfew : ((backTo pos (starEach (a :: [b]) X.env)).all (fun x => !x.1) && (backToKw pos (keywordEach [] X.env)).all (fun x => x.1.isSome)
      && decide ((a :: [b]).length + ([] : List Keyword).length + (if ([] : List Keyword).isEmpty then 0 else 1) < 30)) = true := by rfl)
    (hline : (apos.endLine == pos.line) = true := by rfl) (hs : starEach (a :: [b]) X.env = (false, eval a X.env) :: starEach [b] X.env := by rfl) (hpl : (backTo pos (starEach [b] X.env)).any (·.1) = false := by rfl) :
    EE X (.Call (.Attribute (.Name x pn) "insert" apos) [a, b] [] pos) env k := .of (pe_bm PySem.F.plainAttrs_list PySem.F.slot_list_insert PySem.F.type_list_insert mt_insert (pe_var hN hv hd hcd) pa_can hb hfew hline hs hpl) fun M0 B M σ c Q hQ => by
  obtain ⟨s0, hs0, es0, o0, ho0, xs0, rfl, hr0⟩ := c.slot i _ hi0
  refine ⟨.ref ad, by rw [hs0, es0], .inl ⟨rfl, xs0, SqL.of (J_M ho0)⟩, h M0 B M σ c _ fun vs H ⟨as, env1, B1, M1, e1, c1, s1, r, ds, j, d, e2, hi1, hl, h0, h1, q⟩ => ?_⟩
  subst e1 e2
  obtain ⟨vj, r1, rfl, rj, vd, r2, rfl, rd, rn⟩ := r
  cases rj; cases rn
  obtain ⟨s2, hs2, es2, o2, ho2, xs, rfl, hr⟩ := c1.slot i _ hi1
  exact ⟨ad, xs, j, vd, rfl, rfl, J_M ho2, by rw [hr.length, sizeLine_eq]; omega, h0, h1, hQ _ _ ((PostD.mutL (d := Nn) c1 hi1 (((hr.take _).append (show RpA X.K B1 [d] [vd] from ⟨vd, [], rfl, rd, rfl⟩)).append (hr.drop _)) rfl q).back s1)⟩
/-- x.pop() -/
theorem ee_pop (i : Nat) {x : Str} {pn apos : Pos} {ad : Addr} {ds : List D} {d : D} (hi0 : env[i]? = some (.mu ad (.lst ds))) (hl : ds[ds.length - 1]? = some d) (q : k d (env.set i (.mu ad (.lst ds.dropLast))))
    (hN : X.N[i]? = some x := by rfl) (hv : Vis X.env.scope x := by first | exact Or.inl rfl | exact Or.inr (Or.inl rfl) | exact Or.inr (Or.inr rfl)) (hd : (x == ("__debug__" : Str)) = false := by decide) (hcd : (x == ("__classdict__" : Str)) = false := by decide)
    (hb : attributeBase (.Name x pn) "pop" X.env (eval (.Name x pn) X.env) = eval (.Name x pn) X.env := by rfl) (hline : (apos.endLine == pos.line) = true := by rfl) :
    EE X (.Call (.Attribute (.Name x pn) "pop" apos) [] [] pos) env k := .of (pe_bm0 PySem.F.plainAttrs_list PySem.F.slot_list_pop PySem.F.type_list_pop mt_pop (pe_var hN hv hd hcd) hb hline) fun M0 B M σ c Q hQ => by
  obtain ⟨s0, hs0, es0, o0, ho0, xs, rfl, hr⟩ := c.slot i _ hi0
  obtain ⟨v, hv2, rv⟩ := hr.get hl
  refine ⟨.ref ad, by rw [hs0, es0], .inl ⟨rfl, xs, SqL.of (J_M ho0)⟩, ad, xs, v, rfl, rfl, J_M ho0, by rw [hr.length]; exact hv2, hQ _ _ (PostD.mutL c hi0 ?_ rv q)⟩
  rw [List.dropLast_eq_take, List.dropLast_eq_take, hr.length]
  exact hr.take _
/-- x.pop(a) -/
theorem ee_popAt (i : Nat) {x : Str} {pn apos : Pos} {ad : Addr} {ds0 : List D} (hi0 : env[i]? = some (.mu ad (.lst ds0))) (h : EE X a env fun d1 env1 => ∃ ds j m d, d1 = I j ∧ env1[i]? = some (.mu ad (.lst ds)) ∧ -(2 ^ 63) ≤ j ∧ j < 2 ^ 63 ∧ seqIndex? j ds.length = some m ∧ ds[m]? = some d ∧ k d (env1.set i (.mu ad (.lst (ds.eraseIdx m)))))
    (hN : X.N[i]? = some x := by rfl) (hv : Vis X.env.scope x := by first | exact Or.inl rfl | exact Or.inr (Or.inl rfl) | exact Or.inr (Or.inr rfl)) (hd : (x == ("__debug__" : Str)) = false := by decide) (hcd : (x == ("__classdict__" : Str)) = false := by decide)
    (hb : attributeBase (.Name x pn) "pop" X.env (eval (.Name x pn) X.env) = eval (.Name x pn) X.env := by rfl)
    (hfew : ((backTo pos (starEach (a :: []) X.env)).all (fun x => !x.1) && (backToKw pos (keywordEach [] X.env)).all (fun x => x.1.isSome)
      && decide ((a :: ([] : List Expr)).length + ([] : List Keyword).length + (if ([] : List Keyword).isEmpty then 0 else 1) < 30)) = true := by rfl)
    (hline : (apos.endLine == pos.line) = true := by rfl) (hs : starEach (a :: []) X.env = (false, eval a X.env) :: starEach [] X.env := by rfl) (hpl : (backTo pos (starEach [] X.env)).any (·.1) = false := by rfl) :
    EE X (.Call (.Attribute (.Name x pn) "pop" apos) [a] [] pos) env k := .of (pe_bm PySem.F.plainAttrs_list PySem.F.slot_list_pop PySem.F.type_list_pop mt_popAt (pe_var hN hv hd hcd) (pa_cons pe_can pa_nil hs) hb hfew hline hs hpl) fun M0 B M σ c Q hQ => by
  obtain ⟨s0, hs0, es0, o0, ho0, xs0, rfl, hr0⟩ := c.slot i _ hi0
  refine ⟨.ref ad, by rw [hs0, es0], .inl ⟨rfl, xs0, SqL.of (J_M ho0)⟩, h M0 B M σ c _ fun v H ⟨d1, env1, B1, M1, e1, c1, s1, r, ds, j, m, d, e2, hi1, h1, h2, hj, hm, q⟩ => ?_⟩
  subst e1 e2
  cases r
  obtain ⟨s2, hs2, es2, o2, ho2, xs, rfl, hr⟩ := c1.slot i _ hi1
  obtain ⟨v, hv2, rv⟩ := hr.get hm
  exact ⟨ad, xs, j, m, v, rfl, rfl, J_M ho2, h1, h2, by rw [hr.length]; exact hj, hv2, hQ _ _ ((PostD.mutL c1 hi1 (hr.eraseIdx m) rv q).back s1)⟩
/-- t.index(i) of a tuple of ints -/
theorem ee_indexT {apos : Pos} (hu : X.A.units + 1 < cLine) (h : EE X a env fun d1 env1 => ∃ ns : List Int, d1 = .tup (ns.map I) ∧ EE X b env1 fun d2 env2 => ∃ i : Int, d2 = I i ∧ i ∈ ns ∧ k (I ((ns.idxOf i : Nat) : Int)) env2)
    (hb : attributeBase a "index" X.env (eval a X.env) = eval a X.env := by rfl)
    (hfew : ((backTo pos (starEach (b :: []) X.env)).all (fun x => !x.1) && (backToKw pos (keywordEach [] X.env)).all (fun x => x.1.isSome)
      && decide ((b :: ([] : List Expr)).length + ([] : List Keyword).length + (if ([] : List Keyword).isEmpty then 0 else 1) < 30)) = true := by rfl)
    (hline : (apos.endLine == pos.line) = true := by rfl) (hs : starEach (b :: []) X.env = (false, eval b X.env) :: starEach [] X.env := by rfl) (hpl : (backTo pos (starEach [] X.env)).any (·.1) = false := by rfl) :
    EE X (.Call (.Attribute a "index" apos) [b] [] pos) env k := .of (pe_bmT PySem.F.slot_tuple_index PySem.F.type_tuple_index (mt_indexT hu) pe_can (pa_cons pe_can pa_nil hs) hb hfew hline hs hpl) fun M0 B M σ c Q hQ => h M0 B M σ c _ fun v H ⟨d1, env1, B1, M1, e1, c1, s1, r1, ns, e0, q1⟩ => by
    subst e1 e0
    obtain ⟨ad, xs, rfl, hs, hr⟩ := r1
    have ex := hr.ints_eq
    subst ex
    refine ⟨⟨ad, _, rfl, hs.mono c1.same⟩, q1 M0 B1 M1 σ c1 _ fun v2 H ⟨d2, env2, B2, M2, e2, c2, s2, r2, i, e3, hi, q2⟩ => ?_⟩
    subst e2 e3; cases r2
    exact ⟨ad, ns, i, rfl, rfl, sqT_same c2.same (hs.mono s2).sq, hi, hQ _ _ ((PostD.nowA c2 q2).back (s1.trans s2))⟩
/-- x.index(i) of a list of ints (x any expression that is data) -/
theorem ee_indexL {apos : Pos} (h : EE X a env fun d1 env1 => ∃ ns : List Int, d1 = .lst (ns.map I) ∧ EE X b env1 fun d2 env2 => ∃ i : Int, d2 = I i ∧ i ∈ ns ∧ k (I ((ns.idxOf i : Nat) : Int)) env2)
    (hb : attributeBase a "index" X.env (eval a X.env) = eval a X.env := by rfl)
    (hfew : ((backTo pos (starEach (b :: []) X.env)).all (fun x => !x.1) && (backToKw pos (keywordEach [] X.env)).all (fun x => x.1.isSome)
      && decide ((b :: ([] : List Expr)).length + ([] : List Keyword).length + (if ([] : List Keyword).isEmpty then 0 else 1) < 30)) = true := by rfl)
    (hline : (apos.endLine == pos.line) = true := by rfl) (hs : starEach (b :: []) X.env = (false, eval b X.env) :: starEach [] X.env := by rfl) (hpl : (backTo pos (starEach [] X.env)).any (·.1) = false := by rfl) :
    EE X (.Call (.Attribute a "index" apos) [b] [] pos) env k := .of (pe_bm PySem.F.plainAttrs_list PySem.F.slot_list_index PySem.F.type_list_index mt_index pe_can (pa_cons pe_can pa_nil hs) hb hfew hline hs hpl) fun M0 B M σ c Q hQ => h M0 B M σ c _ fun v H ⟨d1, env1, B1, M1, e1, c1, s1, r1, ns, e0, q1⟩ => by
    subst e1 e0
    obtain ⟨ad, xs, rfl, hs, hr⟩ := r1
    have ex := hr.ints_eq
    subst ex
    refine ⟨.inl ⟨rfl, _, sqL_same c1.same hs⟩, q1 M0 B1 M1 σ c1 _ fun v2 H ⟨d2, env2, B2, M2, e2, c2, s2, r2, i, e3, hi, q2⟩ => ?_⟩
    subst e2 e3; cases r2
    have hix : ns.idxOf i < ns.length := List.idxOf_lt_length_iff.mpr hi
    refine ⟨ad, ns.map V.int, .int i, ns.idxOf i, .int i, rfl, rfl, sqL_same c2.same (sqL_same s2 hs), rfl, flat_ints ns, ?_, ?_, fun m z hm hz => ?_, hQ _ _ ((PostD.nowA c2 q2).back (s1.trans s2))⟩
    · rw [List.getElem?_map, List.getElem?_eq_getElem hix, List.getElem_idxOf]
      rfl
    · show (i == i) = true
      exact beq_self_eq_true i
    · rw [List.getElem?_map] at hz
      cases e : ns[m]? with
      | none => rw [e] at hz; cases hz
      | some w =>
        rw [e] at hz
        have e4 : V.int w = z := Option.some.inj hz
        subst e4
        show (w == i) = false
        refine beq_eq_false_iff_ne.mpr fun e5 => ?_
        subst e5
        have hml : m < ns.length := (List.getElem?_eq_some_iff.mp e).1
        have := List.not_of_lt_findIdx (p := (· == w)) (xs := ns) (i := m) (by exact hm)
        rw [List.getElem?_eq_getElem hml] at e
        simp at this
        exact this (Option.some.inj e)
end
end Sy
namespace Sy
open PySem PySem.Spec PyProof.Rows L2

/-! ### what is walked -/
/-- at turn i it gives the i-th of ds, while Gd is known of the state -/
def WalkD (K : PySem.W.Frag) (W : It) (ds : List D) (B : Hp) (Gd : Env_ → Prop) : Prop := ∀ (M0 : Hp) (env2 : Env_) (B2 M2 : Hp) (σ2 : L2.St), Same B B2 → Conc K M0 env2 B2 M2 σ2 → Gd env2 →
  (∀ i, i < ds.length → W.go i (J B2 M2)) ∧ W.stop ds.length (J B2 M2) ∧ ∀ i d x H', ds[i]? = some d → W.yld i (J B2 M2) x H' → ∃ B3, H' = J B3 M2 ∧ Same B2 B3 ∧ Dis B3 M2 ∧ Rp K B3 d x
def PostI (K : PySem.W.Frag) (M0 : Hp) (σ : L2.St) (B : Hp) (k : List D → (Env_ → Prop) → Env_ → Prop) : It → Hp → Prop := fun W H => ∃ ds Gd env' B' M', H = J B' M' ∧ Conc K M0 env' B' M' σ ∧ Same B B' ∧ WalkD K W ds B' Gd ∧ k ds Gd env'
def LI (K : PySem.W.Frag) (t : TI) (env : Env_) (k : List D → (Env_ → Prop) → Env_ → Prop) : Prop := ∀ (M0 B M : Hp) (σ : L2.St), Conc K M0 env B M σ → ∀ R : It → Hp → Prop, (∀ W H, PostI K M0 σ B k W H → R W H) → t σ (J B M) R
def canI (X : Cx) (tg iter : Expr) : TI := fun σ H R => ∀ pins s, Inv X pins σ H s → wpAny (model X.prog X.w) X.A (eval iter X.env) (fun v s1 => wpAny (model X.prog X.w) X.A (pyIter v) (PIE X pins σ tg R) X.xe s1) X.xe s
theorem pi_can {X : Cx} {tg iter : Expr} : PI X tg iter (canI X tg iter) := ⟨fun pins s σ H R I h => h pins s I⟩
def EI (X : Cx) (tg iter : Expr) (env : Env_) (k : List D → (Env_ → Prop) → Env_ → Prop) : Prop := LI X.K (canI X tg iter) env k
abbrev Still : Env_ → Prop := fun _ => True
section
variable {X : Cx} {K : PySem.W.Frag} {e a b c tg iter : Expr} {es rest : List Expr} {env : Env_} {k : List D → (Env_ → Prop) → Env_ → Prop} {k4 : K4} {pos p : Pos}
variable {M0 B B1 M : Hp} {σ : L2.St}
theorem EI.of {t : TI} (h : PI X tg iter t) (q : LI X.K t env k) : EI X tg iter env k := fun M0 B M σ c R hR pins s I => h.run pins s σ _ R I (q M0 B M σ c R hR)
theorem ei_list (h : EE X e env fun d env' => ∃ ds, d = .lst ds ∧ k ds Still env') : EI X tg e env k := .of (pi_list pe_can) fun M0 B M σ c R hR => h M0 B M σ c _ fun v H ⟨d, env', B', M', e1, c', sm, r, ds, e2, q⟩ => by
  subst e1 e2
  obtain ⟨ad, xs, rfl, hs, hr⟩ := r
  refine ⟨ad, rfl, ⟨xs, sqL_same c'.same hs⟩, hR _ _ ⟨ds, Still, env', B', M', rfl, c', sm, fun M0 env2 B2 M2 σ2 s2 c2 _ => ⟨fun i hi => ?_, ?_, fun i d x H' hd hy => ?_⟩, q⟩⟩
  · rw [← hr.length] at hi
    exact ⟨xs, xs[i], sqL_same (s2.trans c2.same) hs, List.getElem?_eq_getElem hi⟩
  · exact ⟨xs, sqL_same (s2.trans c2.same) hs, Nat.le_of_eq hr.length⟩
  · obtain ⟨rfl, fx⟩ := hy
    obtain ⟨v, hv, rv⟩ := (hr.mono s2).get hd
    rw [fx xs (sqL_same (s2.trans c2.same) hs)] at hv
    cases hv
    exact ⟨B2, rfl, Same.refl B2, c2.dis, rv⟩
theorem ei_tup (h : EE X e env fun d env' => ∃ ds, d = .tup ds ∧ k ds Still env') : EI X tg e env k := .of (pi_tup pe_can) fun M0 B M σ c R hR => h M0 B M σ c _ fun v H ⟨d, env', B', M', e1, c', sm, r, ds, e2, q⟩ => by
  subst e1 e2
  obtain ⟨ad, xs, rfl, hs0, hr⟩ := r
  have hs := hs0.sq
  refine ⟨ad, rfl, ⟨xs, sqT_same c'.same hs⟩, hR _ _ ⟨ds, Still, env', B', M', rfl, c', sm, fun M0 env2 B2 M2 σ2 s2 c2 _ => ⟨fun i hi => ?_, ?_, fun i d x H' hd hy => ?_⟩, q⟩⟩
  · rw [← hr.length] at hi
    exact ⟨xs, xs[i], sqT_same (s2.trans c2.same) hs, List.getElem?_eq_getElem hi⟩
  · exact ⟨xs, sqT_same (s2.trans c2.same) hs, Nat.le_of_eq hr.length⟩
  · obtain ⟨rfl, fx⟩ := hy
    obtain ⟨v, hv, rv⟩ := (hr.mono s2).get hd
    rw [fx xs (sqT_same (s2.trans c2.same) hs)] at hv
    cases hv
    exact ⟨B2, rfl, Same.refl B2, c2.dis, rv⟩
/-- a list of one's own in slot i, walked where it lies -/
theorem ei_slot (i : Nat) {ad : Addr} {ds : List D} {x : Str} (hi : env[i]? = some (.mu ad (.lst ds))) (q : k ds (fun e => e[i]? = some (.mu ad (.lst ds))) env) (hN : X.N[i]? = some x := by rfl) (hv : Vis X.env.scope x := by first | exact Or.inl rfl | exact Or.inr (Or.inl rfl) | exact Or.inr (Or.inr rfl))
    (hd : (x == ("__debug__" : Str)) = false := by decide) (hcd : (x == ("__classdict__" : Str)) = false := by decide) : EI X tg (.Name x pos) env k := .of (pi_list (pe_var hN hv hd hcd)) fun M0 B M σ c R hR => by
  obtain ⟨s0, hs0, es0, o0, ho0, xs0, rfl, hr0⟩ := c.slot i _ hi
  refine ⟨.ref ad, by rw [hs0, es0], ad, rfl, ⟨xs0, SqL.of (J_M ho0)⟩, hR _ _ ⟨ds, _, env, B, M, rfl, c, Same.refl B, fun M0 env2 B2 M2 σ2 s2 c2 hi2 => ?_, q⟩⟩
  obtain ⟨s, hs, es, o, ho, xs, rfl, hr⟩ := c2.slot i _ hi2
  refine ⟨fun i hi => ?_, ?_, fun i d x H' hd hy => ?_⟩
  · rw [← hr.length] at hi
    exact ⟨xs, xs[i], SqL.of (J_M ho), List.getElem?_eq_getElem hi⟩
  · exact ⟨xs, SqL.of (J_M ho), Nat.le_of_eq hr.length⟩
  · obtain ⟨rfl, fx⟩ := hy
    obtain ⟨v, hv, rv⟩ := hr.get hd
    rw [fx xs (SqL.of (J_M ho))] at hv
    cases hv
    exact ⟨B2, rfl, Same.refl B2, c2.dis, rv⟩
theorem walk_rg {lo : Int} {n : Nat} : WalkD K (Itr lo n) ((List.range n).map fun i => I (lo + (i : Nat))) B Still := fun M0 env2 B2 M2 σ2 s2 c2 _ => ⟨fun i hi => by
    rw [List.length_map, List.length_range] at hi; exact hi, by
    show n ≤ _
    rw [List.length_map, List.length_range]; exact Nat.le_refl _, fun i d x H' hd hy => by
    obtain ⟨rfl, rfl⟩ := hy
    rw [List.getElem?_map] at hd
    have hi : i < n := by
      cases e : (List.range n)[i]? with
      | none => rw [e] at hd; cases hd
      | some j =>
        have := (List.getElem?_eq_some_iff.mp e).1
        rw [List.length_range] at this; exact this
    rw [List.getElem?_range hi] at hd
    cases hd
    exact ⟨B2, rfl, Same.refl B2, c2.dis, rfl⟩⟩
/-- range(a) -/
theorem ei_rg1 (hm : X.mg "range" = none) (h : EE X a env fun d env' => ∃ n : Int, d = I n ∧ -(2 ^ 62) ≤ n ∧ n < 2 ^ 62 ∧ k (rgD 0 n) Still env') (hg : Gl X "range" := by rfl) (hs : starEach [a] X.env = [(false, eval a X.env)] := by rfl) : EI X tg (.Call (.Name "range" p) [a] [] pos) env k :=
  .of (pi_range1 hg hm (pa_cons pe_can pa_nil hs) hs) fun M0 B M σ c R hR => h M0 B M σ c _ fun v H ⟨d, env', B', M', e1, c', sm, r, n, e2, h1, h2, q⟩ => by
    subst e1 e2; cases r
    refine ⟨n, rfl, h1, h2, hR _ _ ⟨_, Still, env', B', M', rfl, c', sm, ?_, q⟩⟩
    have : rgD 0 n = (List.range n.toNat).map fun i => I (0 + (i : Nat)) := by unfold rgD; rw [Int.sub_zero]
    rw [this]
    exact walk_rg
/-- range(a, b) -/
theorem ei_rg2 (hm : X.mg "range" = none) (h : EE X a env fun d env' => EE X b env' fun d2 env2 => ∃ x y : Int, d = I x ∧ d2 = I y ∧ (-(2 ^ 62) ≤ x ∧ x < 2 ^ 62 ∧ -(2 ^ 62) ≤ y ∧ y < 2 ^ 62) ∧ k (rgD x y) Still env2) (hg : Gl X "range" := by rfl) (hs : starEach [a, b] X.env = [(false, eval a X.env), (false, eval b X.env)] := by rfl) (hs2 : starEach [b] X.env = [(false, eval b X.env)] := by rfl) : EI X tg (.Call (.Name "range" p) [a, b] [] pos) env k :=
  .of (pi_range2 hg hm (pa_cons pe_can (pa_cons pe_can pa_nil hs2) (by rw [hs, hs2])) hs hs2) fun M0 B M σ c R hR => h M0 B M σ c _ fun v H ⟨d, env', B', M', e1, c', sm, r, q⟩ => by
    subst e1
    refine q M0 B' M' σ c' _ fun v2 H ⟨d2, env2, B2, M2, e2, c2, s2, r2, x, y, e3, e4, hb, q2⟩ => ?_
    subst e2 e3 e4; cases r; cases r2
    exact ⟨x, y, rfl, hb, hR _ _ ⟨_, Still, env2, B2, M2, rfl, c2, sm.trans s2, walk_rg, q2⟩⟩
/-- the pairs (i, the i-th) -/
def enumD (ds : List D) : List D := ds.zipIdx.map fun p => .wt [I (p.2 : Nat), p.1]
theorem enumD_len (ds : List D) : (enumD ds).length = ds.length := by unfold enumD; rw [List.length_map, List.length_zipIdx]
theorem enumD_at {ds : List D} {i : Nat} {d : D} (h : (enumD ds)[i]? = some d) : ∃ d0, ds[i]? = some d0 ∧ d = .wt [I (i : Nat), d0] := by
  unfold enumD at h
  rw [List.getElem?_map, List.getElem?_zipIdx] at h
  cases e : ds[i]? with
  | none => rw [e] at h; cases h
  | some d0 =>
    rw [e] at h
    refine ⟨d0, rfl, ?_⟩
    have h' := Option.some.inj h
    rw [← h']
    show D.wt [I ((0 + i : Nat) : Nat), d0] = _
    rw [Nat.zero_add]
theorem pair_rp {B2 M2 : Hp} {T : Addr} {i : Nat} {x : V} {d0 : D} (hd : Dis B2 M2) (hT : J B2 M2 T = none) (r : Rp K B2 d0 x) : ∃ B3, upd (J B2 M2) T (.tup [.int (i : Nat), x]) = J B3 M2 ∧ Same B2 B3 ∧ Dis B3 M2 ∧ Rp K B3 (.wt [I (i : Nat), d0]) (.ref T) := by
  obtain ⟨h1, h2⟩ := J_none hT
  refine ⟨_, upd_JB h1, same_new h2, fun a u q => ?_, T, _, rfl, SqT.of upd_same, _, _, rfl, rfl, _, _, rfl, Rp.mono (same_new h2) _ _ r, rfl⟩
  rw [upd_ne (fun z => by rw [z, h1] at q; cases q)]
  exact hd a u q
/-- enumerate(t) of a tuple; of a list that stands; of a list of one's own -/
theorem ei_enumT {elts : List Expr} {kk : Nat} {tpos : Pos} (hm : X.mg "enumerate" = none) (h : EE X e env fun d env' => ∃ ds, d = .tup ds ∧ k (enumD ds) Still env') (hg : Gl X "enumerate" := by rfl) (hs : starEach [e] X.env = [(false, eval e X.env)] := by rfl) : EI X (.Tuple elts kk tpos) (.Call (.Name "enumerate" p) [e] [] pos) env k :=
  .of (pi_enumT hg hm (pa_cons pe_can pa_nil hs) hs) fun M0 B M σ c R hR => h M0 B M σ c _ fun v H ⟨d, env', B', M', e1, c', sm, r, ds, e2, q⟩ => by
  subst e1 e2
  obtain ⟨ad, xs, rfl, hs0, hr⟩ := r
  have hs := hs0.sq
  refine ⟨ad, xs, rfl, sqT_same c'.same hs, hR _ _ ⟨enumD ds, Still, env', B', M', rfl, c', sm, fun M0 env2 B2 M2 σ2 s2 c2 _ => ⟨fun i hi => ?_, ?_, fun i d x H' hd hy => ?_⟩, q⟩⟩
  · rw [enumD_len, ← hr.length] at hi
    exact ⟨xs, xs[i], sqT_same (s2.trans c2.same) hs, List.getElem?_eq_getElem hi⟩
  · exact ⟨xs, sqT_same (s2.trans c2.same) hs, by rw [enumD_len]; exact Nat.le_of_eq hr.length⟩
  · obtain ⟨T, y, rfl, hT, rfl, fx⟩ := hy
    obtain ⟨d0, hd0, rfl⟩ := enumD_at hd
    obtain ⟨v, hv, rv⟩ := (hr.mono s2).get hd0
    rw [fx xs (sqT_same (s2.trans c2.same) hs)] at hv
    cases hv
    exact pair_rp c2.dis hT rv
theorem ei_enumL {elts : List Expr} {kk : Nat} {tpos : Pos} (hm : X.mg "enumerate" = none) (h : EE X e env fun d env' => ∃ ds, d = .lst ds ∧ k (enumD ds) Still env') (hg : Gl X "enumerate" := by rfl) (hs : starEach [e] X.env = [(false, eval e X.env)] := by rfl) : EI X (.Tuple elts kk tpos) (.Call (.Name "enumerate" p) [e] [] pos) env k :=
  .of (pi_enum hg hm (pa_cons pe_can pa_nil hs) hs) fun M0 B M σ c R hR => h M0 B M σ c _ fun v H ⟨d, env', B', M', e1, c', sm, r, ds, e2, q⟩ => by
  subst e1 e2
  obtain ⟨ad, xs, rfl, hs, hr⟩ := r
  refine ⟨ad, xs, rfl, sqL_same c'.same hs, hR _ _ ⟨enumD ds, Still, env', B', M', rfl, c', sm, fun M0 env2 B2 M2 σ2 s2 c2 _ => ⟨fun i hi => ?_, ?_, fun i d x H' hd hy => ?_⟩, q⟩⟩
  · rw [enumD_len, ← hr.length] at hi
    exact ⟨xs, xs[i], sqL_same (s2.trans c2.same) hs, List.getElem?_eq_getElem hi⟩
  · exact ⟨xs, sqL_same (s2.trans c2.same) hs, by rw [enumD_len]; exact Nat.le_of_eq hr.length⟩
  · obtain ⟨T, y, rfl, hT, rfl, fx⟩ := hy
    obtain ⟨d0, hd0, rfl⟩ := enumD_at hd
    obtain ⟨v, hv, rv⟩ := (hr.mono s2).get hd0
    rw [fx xs (sqL_same (s2.trans c2.same) hs)] at hv
    cases hv
    exact pair_rp c2.dis hT rv
theorem ei_enumX (i : Nat) {elts : List Expr} {kk : Nat} {tpos pn : Pos} {ad : Addr} {ds : List D} {x : Str} (hm : X.mg "enumerate" = none) (hi : env[i]? = some (.mu ad (.lst ds))) (q : k (enumD ds) (fun e => e[i]? = some (.mu ad (.lst ds))) env) (hN : X.N[i]? = some x := by rfl) (hv : Vis X.env.scope x := by first | exact Or.inl rfl | exact Or.inr (Or.inl rfl) | exact Or.inr (Or.inr rfl))
    (hd : (x == ("__debug__" : Str)) = false := by decide) (hcd : (x == ("__classdict__" : Str)) = false := by decide) (hg : Gl X "enumerate" := by rfl) (hs : starEach [.Name x pn] X.env = [(false, eval (.Name x pn) X.env)] := by rfl) : EI X (.Tuple elts kk tpos) (.Call (.Name "enumerate" p) [.Name x pn] [] pos) env k :=
  .of (pi_enum hg hm (pa_cons (pe_var hN hv hd hcd) pa_nil hs) hs) fun M0 B M σ c R hR => by
  obtain ⟨s0, hs0, es0, o0, ho0, xs0, rfl, hr0⟩ := c.slot i _ hi
  refine ⟨.ref ad, by rw [hs0, es0], ad, xs0, rfl, SqL.of (J_M ho0), hR _ _ ⟨enumD ds, _, env, B, M, rfl, c, Same.refl B, fun M0 env2 B2 M2 σ2 s2 c2 hi2 => ?_, q⟩⟩
  obtain ⟨s, hs, es, o, ho, xs, rfl, hr⟩ := c2.slot i _ hi2
  refine ⟨fun i hi => ?_, ?_, fun i d x H' hd hy => ?_⟩
  · rw [enumD_len, ← hr.length] at hi
    exact ⟨xs, xs[i], SqL.of (J_M ho), List.getElem?_eq_getElem hi⟩
  · exact ⟨xs, SqL.of (J_M ho), by rw [enumD_len]; exact Nat.le_of_eq hr.length⟩
  · obtain ⟨T, y, rfl, hT, rfl, fx⟩ := hy
    obtain ⟨d0, hd0, rfl⟩ := enumD_at hd
    obtain ⟨v, hv, rv⟩ := hr.get hd0
    rw [fx xs (SqL.of (J_M ho))] at hv
    cases hv
    exact pair_rp c2.dis hT rv
/-- zip(xs, ys) of lists that stand -/
def zipD : List D → List D → List D
  | d :: ds, e :: es => .wt [d, e] :: zipD ds es
  | _, _ => []
theorem zipD_len : ∀ ds es : List D, (zipD ds es).length = min ds.length es.length
  | [], _ => by simp [zipD]
  | _ :: _, [] => by simp [zipD]
  | d :: ds, e :: es => by simp [zipD, zipD_len ds es]
theorem zipD_at : ∀ {ds es : List D} {i : Nat} {d : D}, (zipD ds es)[i]? = some d → ∃ x y, ds[i]? = some x ∧ es[i]? = some y ∧ d = .wt [x, y]
  | [], _, _, _, h => by simp [zipD] at h
  | _ :: _, [], _, _, h => by simp [zipD] at h
  | d :: ds, e :: es, 0, z, h => ⟨d, e, rfl, rfl, (Option.some.inj h).symm⟩
  | d :: ds, e :: es, i + 1, z, h => zipD_at (ds := ds) (es := es) (i := i) h

/-! ### for -/
theorem s_for {body : List Stmt} (h : EI X tg iter env fun ds Gd env1 => ∃ Iv : Nat → Env_ → Prop, Iv 0 env1 ∧ (∀ i e, Iv i e → Gd e) ∧
      (∀ i d e, ds[i]? = some d → Iv i e → EG X tg d e fun e2 => SS X body e2 { nx := Iv (i + 1), rt := k4.rt, bk := k4.nx, ct := Iv (i + 1) }) ∧ ∀ e, Iv ds.length e → k4.nx e)
    (hp : PassesOwn (model X.prog X.w) X.A X.env X.xe := by exact PassesOwn.never) (hc : X.calm = true := by rfl) (hs : ∀ x, foldedSetIterable iter X.env x = pure x := by intro _; rfl) : S1 X (.For tg iter body [] pos) env k4 :=
  .of (ps_for hp hc pi_can pg_can pss_can hs) fun M0 B M σ c Dd h1 h2 h3 h4 => h M0 B M σ c _ fun W H ⟨ds, Gd, env1, B1, M1, e1, c1, s1, wk, Iv, i0, iG, turn, fin⟩ => by
    subst e1
    refine ⟨fun i m σ H => m = ds.length - i ∧ i ≤ ds.length ∧ PostS X.K M0 B1 (Iv i) σ H, ⟨ds.length, by simp, Nat.zero_le _, .now c1 i0⟩, fun i m σ2 H2 hW => ?_⟩
    obtain ⟨rfl, hi, env2, B2, M2, rfl, c2, s2, iv⟩ := hW
    obtain ⟨wgo, wstop, wy⟩ := wk M0 env2 B2 M2 σ2 s2 c2 (iG i env2 iv)
    by_cases hlt : i < ds.length
    · refine .inr ⟨wgo i hlt, fun σ H => PostS X.K M0 B1 (Iv (i + 1)) σ H, fun σ' H' z => ⟨ds.length - (i + 1), by omega, rfl, hlt, z⟩, fun x H' hy => ?_⟩
      have hd : ds[i]? = some ds[i] := List.getElem?_eq_getElem hlt
      obtain ⟨B3, rfl, s3, d3, r3⟩ := wy i _ x H' hd hy
      have c3 := c2.ext s3 d3
      refine turn i _ env2 hd iv M0 B3 M2 σ2 c3 x r3 _ fun σ4 H4 ⟨env4, B4, M4, e4, c4, s4, q4⟩ => ?_
      subst e4
      have s14 : Same B1 B4 := (s2.trans s3).trans s4
      refine q4 M0 B4 M4 σ4 c4 _ (fun σ H p => p.back s14) (fun v H p => h2 v H (p.back (s1.trans s14))) (fun σ H p => h1 σ H (p.back (s1.trans s14))) (fun σ H p => p.back s14)
    · have e : i = ds.length := by omega
      subst e
      exact .inl ⟨wstop, h1 _ _ ⟨env2, B2, M2, rfl, c2, s1.trans s2, fin env2 iv⟩⟩
end

/-! ### comprehensions -/
def wipeE (env : Env_) : List Nat → Env_
  | [] => env
  | v :: vs => (wipeE env vs).set v .un
theorem wipeE_len (env : Env_) : ∀ vs, (wipeE env vs).length = env.length
  | [] => rfl
  | v :: vs => by
    show ((wipeE env vs).set v .un).length = _
    rw [List.length_set, wipeE_len env vs]
theorem wipeE_at {env : Env_} {i : Nat} : ∀ {vs : List Nat} {d : Desc}, (wipeE env vs)[i]? = some d → d = .un ∨ (i ∉ vs ∧ env[i]? = some d)
  | [], d, h => .inr ⟨(by simp), h⟩
  | v :: vs, d, h => by
    rcases get_set h with ⟨e, _⟩ | ⟨hne, e⟩
    · exact .inl e
    · rcases wipeE_at e with e | ⟨e1, e2⟩
      · exact .inl e
      · refine .inr ⟨fun z => ?_, e2⟩
        rcases List.mem_cons.mp z with z | z
        · exact hne z.symm
        · exact e1 z
theorem wipeE_to {env : Env_} {i : Nat} {d : Desc} : ∀ {vs : List Nat}, i ∉ vs → env[i]? = some d → (wipeE env vs)[i]? = some d
  | [], _, h => h
  | v :: vs, hn, h => by
    have h1 : v ≠ i := fun z => hn (z ▸ List.mem_cons_self)
    show ((wipeE env vs).set v .un)[i]? = _
    rw [List.getElem?_set_ne h1]
    exact wipeE_to (fun z => hn (List.mem_cons_of_mem _ z)) h
/-- no thing of one's own stands in these slots -/
def NoMu (env : Env_) (vs : List Nat) : Prop := ∀ v ∈ vs, ∀ a mo, env[v]? ≠ some (.mu a mo)
theorem Conc.wiped {K : PySem.W.Frag} {M0 B M : Hp} {env : Env_} {σ σ' : L2.St} {vs : List Nat} (c : Conc K M0 env B M σ) (hn : NoMu env vs) (hl : σ'.length = σ.length) (hσ : ∀ i, i ∉ vs → σ'[i]? = σ[i]?) : Conc K M0 (wipeE env vs) B M σ' := by
  refine ⟨c.dis, by rw [wipeE_len, hl, c.len], fun i d q => ?_, fun i j a mo mo' q1 q2 => ?_, fun i a mo q => ?_, fun a h => c.frame a fun i mo q => ?_⟩
  · rcases wipeE_at q with e | ⟨e1, e2⟩
    · subst e
      have hi : i < σ'.length := by
        have z := (List.getElem?_eq_some_iff.mp q).1
        rw [wipeE_len] at z
        rw [hl, c.len]; exact z
      exact ⟨σ'[i], List.getElem?_eq_getElem hi, trivial⟩
    · obtain ⟨s, h1, h2⟩ := c.slot i d e2
      exact ⟨s, by rw [hσ i e1]; exact h1, h2⟩
  · rcases wipeE_at q1 with e | ⟨_, e1⟩
    · cases e
    · rcases wipeE_at q2 with e | ⟨_, e2⟩
      · cases e
      · exact c.nd i j a mo mo' e1 e2
  · rcases wipeE_at q with e | ⟨_, e1⟩
    · cases e
    · exact c.fresh i a mo e1
  · by_cases hi : i ∈ vs
    · exact hn i hi a mo q
    · exact h i mo (wipeE_to hi q)
theorem wipe_len (σ : L2.St) : ∀ vs, (wipe σ vs).length = σ.length
  | [] => rfl
  | v :: vs => by
    show ((wipe σ vs).set v none).length = _
    rw [List.length_set, wipe_len σ vs]
theorem wipe_at {σ : L2.St} {i : Nat} : ∀ {vs : List Nat}, i ∉ vs → (wipe σ vs)[i]? = σ[i]?
  | [], _ => rfl
  | v :: vs, hn => by
    have h1 : v ≠ i := fun z => hn (z ▸ List.mem_cons_self)
    show ((wipe σ vs).set v none)[i]? = _
    rw [List.getElem?_set_ne h1]
    exact wipe_at (fun z => hn (List.mem_cons_of_mem _ z))
theorem Conc.rehide {K : PySem.W.Frag} {M0 B M : Hp} {env : Env_} {σ : L2.St} {p : Addr} {o o' : HO} (c : Conc K (upd M0 p o) env B M σ) : Conc K (upd M0 p o') env B (upd M p o') σ := by
  obtain ⟨c1, e1⟩ := c.shown upd_same
  have hb := (c.at0 (p := p) (o := o) upd_same).2
  have c2 := c1.hide (o := o') del_same hb
  have e2 : upd (del (upd M0 p o) p) p o' = upd M0 p o' := by
    funext b
    by_cases h : b = p
    · rw [h, upd_same, upd_same]
    · rw [upd_ne h, upd_ne h, del_ne h, upd_ne h]
  have e3 : upd (del M p) p o' = upd M p o' := by
    funext b
    by_cases h : b = p
    · rw [h, upd_same, upd_same]
    · rw [upd_ne h, upd_ne h, del_ne h]
  rw [e2, e3] at c2
  exact c2
/-- a target in a block: it stores within vs -/
def LGw (K : PySem.W.Frag) (t : TG) (vs : List Nat) (d : D) (env : Env_) (k : Env_ → Prop) : Prop := ∀ (M0 B M : Hp) (σ : L2.St), Conc K M0 env B M σ → ∀ v, Rp K B d v → ∀ Q : L2.St → Hp → Prop, (∀ σ' H, PostS K M0 B k σ' H → wipe σ' vs = wipe σ vs → Q σ' H) → t v σ (J B M) Q
section
variable {X : Cx} {scope : Scope}
/-- in every block of that scope -/
abbrev Blk (X : Cx) (scope : Scope) (P : Cx → Prop) : Prop := ∀ (s : Shared) (H : Hp) (C : Addr) (cl : List (Str × Addr)) (fp : List Addr), P (X.blk s H scope (compEnvC scope cl C X.env) fp)
def canEb (X : Cx) (scope : Scope) (e : Expr) : TE := fun σ h Q => Blk X scope fun Y => canE Y e σ h Q
def canTb (X : Cx) (scope : Scope) (ifs : List Expr) : TT := fun σ h Q => Blk X scope fun Y => ∀ pins s, Inv Y pins σ h s → wpAny (model Y.prog Y.w) Y.A (forIn ifs true fun c r => if r = true then do let ok ← isTrue c Y.env (eval c Y.env); pure (ForInStep.yield ok) else pure (ForInStep.yield r)) (TP Y pins σ Q) Y.xe s
def canGb (X : Cx) (scope : Scope) (tg : Expr) : TG := fun v σ h Q => Blk X scope fun Y => canG Y tg v σ h Q
def EEb (X : Cx) (scope : Scope) (e : Expr) (env : Env_) (k : D → Env_ → Prop) : Prop := LE X.K (canEb X scope e) env k
def EBb (X : Cx) (scope : Scope) (ifs : List Expr) (env : Env_) (k : Bool → Env_ → Prop) : Prop := LB X.K (canTb X scope ifs) env k
def EGb (X : Cx) (scope : Scope) (tg : Expr) (vs : List Nat) (d : D) (env : Env_) (k : Env_ → Prop) : Prop := LGw X.K (canGb X scope tg) vs d env k
variable {e c tg iter elt : Expr} {ifs : List Expr} {env : Env_} {k : D → Env_ → Prop} {kb : Bool → Env_ → Prop} {kg : Env_ → Prop} {km : MO → Env_ → Prop} {vs : List Nat} {pos : Pos}
theorem eeb (h : Blk X scope fun Y => EE Y e env k) : EEb X scope e env k := fun M0 B M σ c Q hQ s H C cl fp => h s H C cl fp M0 B M σ c Q hQ
theorem ebb_nil (q : kb true env) : EBb X scope [] env kb := fun M0 B M σ c Q hQ s H C cl fp pins s' I => pts_nil.run pins s' σ _ Q I (hQ _ _ (.now c q))
theorem ebb_one (h : Blk X scope fun Y => EB Y c env kb) : EBb X scope [c] env kb := fun M0 B M σ cc Q hQ s H C cl fp pins s' I => (pts_one pt_can).run pins s' σ _ Q I (h s H C cl fp M0 B M σ cc Q hQ)
theorem wipe_set {σ : L2.St} {j : Nat} {x : Option V} : ∀ {vs : List Nat}, j ∈ vs → wipe (σ.set j x) vs = wipe σ vs := by
  intro vs hj
  refine List.ext_getElem? fun i => ?_
  by_cases hi : i ∈ vs
  · have hn : ∀ (τ : L2.St) (us : List Nat), i ∈ us → i < τ.length → (wipe τ us)[i]? = some none := by
      intro τ us
      induction us with
      | nil => intro h; cases h
      | cons u r ih =>
        intro h hl
        show ((wipe τ r).set u none)[i]? = _
        by_cases hu : u = i
        · rw [hu, List.getElem?_set_self (by rw [wipe_len]; exact hl)]
        · rw [List.getElem?_set_ne hu]
          rcases List.mem_cons.mp h with z | z
          · exact (hu z.symm).elim
          · exact ih z hl
    by_cases hl : i < σ.length
    · rw [hn _ _ hi (by rw [List.length_set]; exact hl), hn _ _ hi hl]
    · rw [List.getElem?_eq_none (by rw [wipe_len, List.length_set]; omega), List.getElem?_eq_none (by rw [wipe_len]; omega)]
  · have hne : j ≠ i := fun z => hi (by rw [← z]; exact hj)
    rw [wipe_at hi, wipe_at hi, List.getElem?_set_ne hne]
theorem egb_name (j : Nat) {d : D} {x : Str} (hj : j ∈ vs) (hmu : ∀ (a : Addr) (mo : MO), env[j]? ≠ some (.mu a mo)) (q : kg (env.set j (.dat d))) (h : Blk X scope fun Y => PG Y (.Name x pos) (gName j)) : EGb X scope (.Name x pos) vs d env kg := fun M0 B M σ c v r Q hQ s H C cl fp pins s' u I ru =>
  (h s H C cl fp).run pins s' σ _ v u Q I ru (hQ _ _ ⟨_, B, M, rfl, c.setU hmu r, Same.refl B, q⟩ (wipe_set hj))
theorem egb_two (i j : Nat) {d1 d2 : D} {x y : Str} {kk : Nat} {p1 p2 : Pos} (hi : i ∈ vs) (hj : j ∈ vs) (hmi : ∀ (a : Addr) (mo : MO), env[i]? ≠ some (.mu a mo)) (hmj : ∀ (a : Addr) (mo : MO), env[j]? ≠ some (.mu a mo)) (hij : i ≠ j) (q : kg ((env.set i (.dat d1)).set j (.dat d2))) {w : D} (hw : w = .tup [d1, d2] ∨ w = .wt [d1, d2])
    (h : Blk X scope fun Y => PG Y (.Tuple [.Name x p1, .Name y p2] kk pos) (gTup Y.K 2 (gCons (gName i) (gCons (gName j) gNil)))) : EGb X scope (.Tuple [.Name x p1, .Name y p2] kk pos) vs w env kg := fun M0 B M σ c v r Q hQ s H C cl fp pins s' u I ru => by
  have hr : ∃ a xs, v = .ref a ∧ SqT X.K B a xs ∧ RpA X.K B [d1, d2] xs := by
    rcases hw with rfl | rfl
    · obtain ⟨a, xs, e1, h1, h2⟩ := r
      exact ⟨a, xs, e1, h1.sq, h2⟩
    · exact r
  obtain ⟨a, xs, rfl, hs, v1, r1, rfl, rv1, v2, r2, rfl, rv2, rfl⟩ := hr
  refine (h s H C cl fp).run pins s' σ _ _ u Q I ru ⟨a, [v1, v2], rfl, sqT_same c.same hs, rfl, v1, [v2], rfl, v2, [], rfl, rfl, hQ _ _ ⟨_, B, M, rfl, (c.setU hmi rv1).setU (fun b mo z => ?_) rv2, Same.refl B, q⟩ ?_⟩
  · rcases get_set z with ⟨e, _⟩ | ⟨_, e⟩
    · cases e
    · exact hmj b mo e
  · rw [wipe_set hj, wipe_set hi]
/-- the sense of [elt for tg in iter if ..] -/
def ELC (X : Cx) (scope : Scope) (elt tg iter : Expr) (ifs : List Expr) (vs : List Nat) (env : Env_) (km : MO → Env_ → Prop) : Prop := LM X.K (tLc (canI X tg iter) (canGb X scope tg) (canTb X scope ifs) (canEb X scope elt) vs) env km
theorem elc {own : List (Str × Nat)}
    (h : EI X tg iter env fun ds Gd env1 => NoMu env1 (own.map (·.2)) ∧ ∃ Iv : Nat → List D → Env_ → Prop, Iv 0 [] (wipeE env1 (own.map (·.2))) ∧ (∀ i acc e, Iv i acc e → Gd e ∧ acc.length ≤ i ∧ NoMu e (own.map (·.2))) ∧ ds.length ≤ 1000000 ∧
      (∀ i d acc e2, ds[i]? = some d → Iv i acc e2 → EGb X scope tg (own.map (·.2)) d e2 fun e3 => EBb X scope ifs e3 fun b e4 =>
        (b = true → EEb X scope elt e4 fun x e5 => NoMu e5 (own.map (·.2)) ∧ Iv (i + 1) (acc ++ [x]) (wipeE e5 (own.map (·.2)))) ∧ (b = false → NoMu e4 (own.map (·.2)) ∧ Iv (i + 1) acc (wipeE e4 (own.map (·.2))))) ∧
      ∀ acc e, Iv ds.length acc e → km (.lst acc) (wipeE e (own.map (·.2)))) : ELC X scope elt tg iter ifs (own.map (·.2)) env km :=
  fun M0 B M σ c Q hQ => h M0 B M σ c _ fun W H ⟨ds, Gd, env1, B1, M1, e1, c1, s1, wk, nm, Iv, i0, iG, hdl, turn, fin⟩ => by
    subst e1
    intro Da hDa
    obtain ⟨n1, n2⟩ := J_none hDa
    let vs := own.map (·.2)
    have cw : Conc X.K M0 (wipeE env1 vs) B1 M1 (wipe σ vs) := c1.wiped nm (wipe_len σ vs) fun i hi => wipe_at hi
    refine ⟨fun i m H => m = ds.length - i ∧ i ≤ ds.length ∧ ∃ acc xs e2 B2 M2, H = J B2 M2 ∧ Conc X.K (upd M0 Da (.lst xs)) e2 B2 M2 (wipe σ vs) ∧ Same B1 B2 ∧ RpA X.K B2 acc xs ∧ Iv i acc e2, ⟨ds.length, by simp, Nat.zero_le _, [], [], _, B1, upd M1 Da (.lst []), upd_JM, cw.hide n1 n2, Same.refl B1, rfl, i0⟩, fun i m H hW => ?_⟩
    obtain ⟨rfl, hi, acc, xs, e2, B2, M2, rfl, c2, s2, r2, iv⟩ := hW
    obtain ⟨gd, hacc, nm2⟩ := iG i acc e2 iv
    obtain ⟨wgo, wstop, wy⟩ := wk _ e2 B2 M2 (wipe σ vs) s2 c2 gd
    have hM0 : M0 Da = none := by
      rw [← c1.frame Da fun j mo z => ?_]
      · exact n1
      · obtain ⟨s, _, _, u, hu, _⟩ := c1.slot j _ z
        rw [n1] at hu; cases hu
    by_cases hlt : i < ds.length
    · refine .inr ⟨wgo i hlt, fun H => ∃ acc xs e2 B2 M2, H = J B2 M2 ∧ Conc X.K (upd M0 Da (.lst xs)) e2 B2 M2 (wipe σ vs) ∧ Same B1 B2 ∧ RpA X.K B2 acc xs ∧ Iv (i + 1) acc e2, fun H' z => ⟨ds.length - (i + 1), by omega, rfl, hlt, z⟩, fun x H' hy => ?_⟩
      have hd : ds[i]? = some ds[i] := List.getElem?_eq_getElem hlt
      obtain ⟨B3, rfl, s3, d3, r3⟩ := wy i _ x H' hd hy
      have c3 := c2.ext s3 d3
      refine turn i _ acc e2 hd iv _ B3 M2 (wipe σ vs) c3 x r3 _ fun σ4 H4 ⟨e4, B4, M4, ee4, c4, s4, q4⟩ hw => ?_
      subst ee4
      have hww : wipe σ4 vs = wipe σ vs := by
        rw [hw]
        refine List.ext_getElem? fun j => ?_
        by_cases hj : j ∈ vs
        · have hn : ∀ (τ : L2.St) (us : List Nat), j ∈ us → j < τ.length → (wipe τ us)[j]? = some none := by
            intro τ us
            induction us with
            | nil => intro h; cases h
            | cons u r ih =>
              intro h hl
              show ((wipe τ r).set u none)[j]? = _
              by_cases hu : u = j
              · rw [hu, List.getElem?_set_self (by rw [wipe_len]; exact hl)]
              · rw [List.getElem?_set_ne hu]
                rcases List.mem_cons.mp h with z | z
                · exact (hu z.symm).elim
                · exact ih z hl
          by_cases hl : j < σ.length
          · rw [hn _ _ hj (by rw [wipe_len]; exact hl), hn _ _ hj hl]
          · rw [List.getElem?_eq_none (by rw [wipe_len, wipe_len]; omega), List.getElem?_eq_none (by rw [wipe_len]; omega)]
        · rw [wipe_at hj]
      have lenσ : ∀ {e : Env_} {B M M0 : Hp}, Conc X.K M0 e B M σ4 → e.length = e2.length → (wipe σ vs).length = σ4.length := fun {e B M M0} cc hl => by
        rw [cc.len, hl, ← c2.len]
      have lenw : (wipe σ vs).length = σ4.length := by rw [← hww, wipe_len]
      have atw : ∀ j, j ∉ vs → (wipe σ vs)[j]? = σ4[j]? := fun j hj => by rw [← hww, wipe_at hj]
      refine ⟨hww, q4 _ B4 M4 σ4 c4 _ fun b H5 ⟨e5, B5, M5, ee5, c5, s5, qt, qf⟩ => ?_⟩
      subst ee5
      cases b with
      | true =>
        rw [if_pos rfl]
        refine qt rfl _ B5 M5 σ4 c5 _ fun y H6 ⟨d6, e6, B6, M6, ee6, c6, s6, r6, nm6, iv6⟩ => ?_
        subst ee6
        have hD6 := (c6.at0 (p := Da) (o := .lst xs) upd_same)
        have s36 : Same B3 B6 := (s4.trans s5).trans s6
        refine ⟨xs, J_M hD6.1, by rw [r2.length, sizeLine_eq]; omega, acc ++ [d6], xs ++ [y], _, B6, _, upd_JM, (c6.wiped nm6 lenw atw).rehide, s2.trans (s3.trans s36), ?_, iv6⟩
        exact (r2.mono (s3.trans s36)).append ⟨y, [], rfl, r6, rfl⟩
      | false =>
        rw [if_neg Bool.false_ne_true]
        obtain ⟨nm5, iv5⟩ := qf rfl
        have s35 : Same B3 B5 := s4.trans s5
        exact ⟨acc, xs, _, B5, M5, rfl, c5.wiped nm5 lenw atw, s2.trans (s3.trans s35), r2.mono (s3.trans s35), iv5⟩
    · have e : i = ds.length := by omega
      subst e
      refine .inl ⟨wstop, hQ _ _ ?_⟩
      have hD2 := (c2.at0 (p := Da) (o := .lst xs) upd_same)
      obtain ⟨c7, e7⟩ := c2.shown (p := Da) (o := .lst xs) upd_same
      have e8 : del (upd M0 Da (.lst xs)) Da = M0 := del_upd hM0
      rw [e8] at c7
      refine ⟨Da, .lst acc, .lst xs, _, B2, del M2 Da, rfl, by rw [← e7], del_same, hD2.2, c7.wiped (σ' := σ) nm2 (by rw [wipe_len]) fun j hj => (wipe_at hj).symm, s1.trans s2, ⟨xs, rfl, r2⟩, fin acc e2 iv⟩
/-- [elt for tg in iter if ..] -/
theorem em_ofLc {own : List (Str × Nat)} (ok : BlkOk X.N X.env.scope scope own) (hN : X.N.Nodup) (h : ELC X scope elt tg iter ifs (own.map (·.2)) env km)
    (hc : X.calm = true := by rfl) (hs : ∀ x, foldedSetIterable iter X.env x = pure x := by intro _; rfl) : EM X (.ListComp elt [⟨tg, iter, ifs, 0⟩] scope pos) env km :=
  .of (pe_lc (own := own) (g := canGb X scope tg) (tt := canTb X scope ifs) (te := canEb X scope elt) hc hN pi_can ok (fun s H C cl fp => ⟨fun pins s' σ H' v u Q I ru z => z s H C cl fp pins s' u I ru⟩) (fun s H C cl fp => ⟨fun pins s' σ H' Q I z => z s H C cl fp pins s' I⟩) (fun s H C cl fp => ⟨fun pins s' σ H' Q I z => z s H C cl fp pins s' I⟩) hs) h
theorem em_lc {own : List (Str × Nat)} (ok : BlkOk X.N X.env.scope scope own) (hN : X.N.Nodup)
    (h : EI X tg iter env fun ds Gd env1 => NoMu env1 (own.map (·.2)) ∧ ∃ Iv : Nat → List D → Env_ → Prop, Iv 0 [] (wipeE env1 (own.map (·.2))) ∧ (∀ i acc e, Iv i acc e → Gd e ∧ acc.length ≤ i ∧ NoMu e (own.map (·.2))) ∧ ds.length ≤ 1000000 ∧
      (∀ i d acc e2, ds[i]? = some d → Iv i acc e2 → EGb X scope tg (own.map (·.2)) d e2 fun e3 => EBb X scope ifs e3 fun b e4 =>
        (b = true → EEb X scope elt e4 fun x e5 => NoMu e5 (own.map (·.2)) ∧ Iv (i + 1) (acc ++ [x]) (wipeE e5 (own.map (·.2)))) ∧ (b = false → NoMu e4 (own.map (·.2)) ∧ Iv (i + 1) acc (wipeE e4 (own.map (·.2))))) ∧
      ∀ acc e, Iv ds.length acc e → km (.lst acc) (wipeE e (own.map (·.2))))
    (hc : X.calm = true := by rfl) (hs : ∀ x, foldedSetIterable iter X.env x = pure x := by intro _; rfl) : EM X (.ListComp elt [⟨tg, iter, ifs, 0⟩] scope pos) env km := em_ofLc ok hN (elc h) hc hs
/-- name = [elt for ..], name a plain local -/
theorem s_setLc (i : Nat) {own : List (Str × Nat)} {y : Str} {py spos : Pos} {k4 : K4} (ok : BlkOk X.N X.env.scope scope own) (hN : X.N.Nodup) (h : ELC X scope elt tg iter ifs (own.map (·.2)) env fun mo env' => i < env'.length ∧ ∀ p, k4.nx (env'.set i (.mu p mo)))
    (hi : X.N[i]? = some y := by rfl) (hyl : X.env.scope.names.lookup y = some .local := by rfl) (hsw : swapsWith (.ListComp elt [⟨tg, iter, ifs, 0⟩] scope pos) (some (.Name y py)) spos.line X.env = pure true := by rfl)
    (hc : X.calm = true := by rfl) (hs : ∀ x, foldedSetIterable iter X.env x = pure x := by intro _; rfl) : S1 X (.Assign [.Name y py] (.ListComp elt [⟨tg, iter, ifs, 0⟩] scope pos) spos) env k4 :=
  .of (ps_setLc (own := own) (i := i) (g := canGb X scope tg) (tt := canTb X scope ifs) (te := canEb X scope elt) hc hN hi hyl hsw pi_can ok (fun s H C cl fp => ⟨fun pins s' σ H' v u Q I ru z => z s H C cl fp pins s' u I ru⟩) (fun s H C cl fp => ⟨fun pins s' σ H' Q I z => z s H C cl fp pins s' I⟩) (fun s H C cl fp => ⟨fun pins s' σ H' Q I z => z s H C cl fp pins s' I⟩) hs) fun M0 B M σ c Dd h1 h2 h3 h4 =>
  h M0 B M σ c _ fun v H ⟨p, mo, o, env', B', M', e0, e1, n1, n2, c', sm, r, hl, q⟩ => by
    subst e0 e1
    obtain ⟨B2, M2, e2, s2, c2⟩ := c'.setM i n1 n2 r hl
    exact h1 _ _ ⟨_, B2, M2, e2.symm, c2, sm.trans s2, q p⟩
end
end Sy
namespace Sy
open PySem PySem.Spec PyProof.Rows L2
/-- the law: it takes the script and answers True -/
def fLawT : FSp := fun ds q => ∃ ns : List Int, ds = [.lst (ns.map I)] ∧ ns.length ≤ 63 ∧ q (.d (Bl true))
theorem rpA_ints {K : PySem.W.Frag} {B : Hp} : ∀ ns : List Int, RpA K B (ns.map I) (ns.map V.int)
  | [] => rfl
  | n :: ns => ⟨_, _, rfl, rfl, rpA_ints ns⟩
theorem law_start {K : PySem.W.Frag} {H : Hp} {a : Addr} {ns : List Int} {E : XK} (hl : ns.length ≤ 63) (hS : SqL K H a (ns.map V.int)) (_ : True = True) : spF K fLawT [.ref a] H (fun v _ => v = .bl true) E := by
  refine ⟨H, fun _ => none, [.lst (ns.map I)], fun r => r = .d (Bl true), ?_, ?_, ⟨_, _, rfl, ⟨a, _, rfl, hS, rpA_ints ns⟩, rfl⟩, ⟨ns, rfl, hl, rfl⟩, fun r hr => ?_⟩
  · funext b
    rfl
  · intro a o h
    cases h
  · subst hr
    intro v B' _ _ h
    exact h
section
variable {X : Cx} {K : PySem.W.Frag} {e a b c tg iter elt : Expr} {es rest ifs : List Expr} {env : Env_} {k : D → Env_ → Prop} {kb : Bool → Env_ → Prop} {km : MO → Env_ → Prop} {kl : List D → Env_ → Prop} {ki : List D → (Env_ → Prop) → Env_ → Prop} {k4 : K4} {pos p : Pos} {scope : Scope}
variable {M0 B B1 M : Hp} {σ : L2.St}
theorem LE.can (h : EE X e env k) : LE X.K (canE X e) env k := h
/-! ### list + list, list * int -/
def rCatL (K : PySem.W.Frag) : R2 := fun x y H Q => ∃ l b xs zs, x = .ref l ∧ y = .ref b ∧ SqL K H l xs ∧ SqL K H b zs ∧ xs.length + zs.length ≤ sizeLine ∧ ∀ p, H p = none → Q (.ref p) (upd H p (.lst (xs ++ zs)))
theorem op_catL : OpR X (binaryOp .Add) (rCatL X.K) := by
  intro pins s σ H x y v u Q I rx ry h
  obtain ⟨l, b, xs, zs, rfl, rfl, hH, hB, hz, q⟩ := h
  cases rx
  cases ry
  obtain ⟨its, r, pl, _⟩ := I.list hH
  obtain ⟨its2, r2, pl2, _⟩ := I.list hB
  obtain ⟨⟨cls, dd, data, sl⟩, n, ho, hc, hdd, hd⟩ := pl
  obtain ⟨⟨cls2, dd2, data2, sl2⟩, n2, ho2, hc2, hdd2, hd2⟩ := pl2
  simp only at hc hd hc2 hd2 hdd hdd2
  subst hc hd hc2 hd2 hdd hdd2
  have ea : its.toArray ++ its2.toArray = (its ++ its2).toArray := by simp
  refine concat_meets ⟨_, ho, rfl⟩ ⟨_, ho2, rfl⟩ noFill_list_add seq_list_add PySem.F.slot_list_add PySem.F.entry_list_add (PySem.F.args_list_add_2 _ _) (list_addW l b its.toArray its2.toArray n n2 none none sl sl2 (by have := r.length; have := r2.length; simp; omega)) ⟨ho, ho2, ?_⟩
  rw [ea]
  exact ⟨.ref _, _, I.lnew (t' := s.toks) (r.append r2) (by rw [List.length_append]; omega), rfl, q _ I.fresh⟩
theorem em_cat (h : EE X a env fun d1 env1 => EE X b env1 fun d2 env2 => ∃ ds es, d1 = .lst ds ∧ d2 = .lst es ∧ ds.length + es.length ≤ 1000000 ∧ km (.lst (ds ++ es)) env2) : EM X (.BinOp a .Add b pos) env km :=
  .of (pe_op op_catL pe_can pe_can) fun M0 B M σ c Q hQ => h M0 B M σ c _ fun v H ⟨d1, env1, B1, M1, e1, c1, s1, r1, q1⟩ => by
    subst e1
    refine q1 M0 B1 M1 σ c1 _ fun v2 H2 ⟨d2, env2, B2, M2, e2, c2, s2, r2, ds, es, e3, e4, hl, q⟩ => ?_
    subst e2 e3 e4
    obtain ⟨a1, xs, rfl, hs1, hr1⟩ := Rp.mono s2 _ _ r1
    obtain ⟨a2, ys, rfl, hs2, hr2⟩ := r2
    exact ⟨a1, a2, xs, ys, rfl, rfl, sqL_same c2.same hs1, sqL_same c2.same hs2, by rw [hr1.length, hr2.length, sizeLine_eq]; omega, fun p hp => hQ _ _ ((PostM.newL c2 hp (hr1.append hr2) q).back (s1.trans s2))⟩
/-- x + b, x a list of one's own in slot i -/
theorem em_catX (i : Nat) {x : Str} {pn : Pos} {ad : Addr} {mo0 : MO} (hi0 : env[i]? = some (.mu ad mo0)) (h : EE X b env fun d2 env2 => ∃ ds es, env2[i]? = some (.mu ad (.lst ds)) ∧ d2 = .lst es ∧ ds.length + es.length ≤ 1000000 ∧ km (.lst (ds ++ es)) env2)
    (hN : X.N[i]? = some x := by rfl) (hv : Vis X.env.scope x := by first | exact Or.inl rfl | exact Or.inr (Or.inl rfl) | exact Or.inr (Or.inr rfl)) (hd : (x == ("__debug__" : Str)) = false := by decide) (hcd : (x == ("__classdict__" : Str)) = false := by decide) : EM X (.BinOp (.Name x pn) .Add b pos) env km :=
  .of (pe_op op_catL (pe_var hN hv hd hcd) pe_can) fun M0 B M σ c Q hQ => by
    obtain ⟨s0, hs0, es0, o0, ho0, hr0⟩ := c.slot i _ hi0
    refine ⟨mo0.val ad, by rw [hs0, es0], h M0 B M σ c _ fun v2 H ⟨d2, env2, B2, M2, e2, c2, s2, r2, ds, es, hi2, e3, hl, q2⟩ => ?_⟩
    subst e2 e3
    obtain ⟨s1, hs1, es1, o1, ho1, xs, rfl, hr⟩ := c2.slot i _ hi2
    obtain ⟨a2, ys, rfl, hs2, hr2⟩ := r2
    exact ⟨ad, a2, xs, ys, c.valeq hi0 c2 hi2, rfl, SqL.of (J_M ho1), sqL_same c2.same hs2, by rw [hr.length, hr2.length, sizeLine_eq]; omega, fun p hp => hQ _ _ ((PostM.newL c2 hp (hr.append hr2) q2).back s2)⟩
def rRepL (K : PySem.W.Frag) : R2 := fun x y H Q => ∃ l k xs, x = .ref l ∧ y = .int k ∧ SqL K H l xs ∧ -(2 ^ 63) ≤ k ∧ k < 2 ^ 63 ∧ xs.length * k.toNat ≤ sizeLine ∧
  ∀ p, H p = none → Q (.ref p) (upd H p (.lst (List.replicate k.toNat xs).flatten))
theorem RpA.flat {B : Hp} {ds : List D} {xs : List V} (r : RpA K B ds xs) : ∀ n : Nat, RpA K B (List.replicate n ds).flatten (List.replicate n xs).flatten
  | 0 => rfl
  | n + 1 => by
    rw [List.replicate_succ, List.replicate_succ, List.flatten_cons, List.flatten_cons]
    exact r.append (RpA.flat r n)
/-- [..] * n -/
theorem em_rep (h : EM X a env fun mo env1 => ∃ ds, mo = .lst ds ∧ EE X b env1 fun d2 env2 => ∃ k : Int, d2 = I k ∧ -(2 ^ 63) ≤ k ∧ k < 2 ^ 63 ∧ ds.length * k.toNat ≤ 1000000 ∧ km (.lst (List.replicate k.toNat ds).flatten) env2) : EM X (.BinOp a .Mult b pos) env km :=
  .of (pe_op op_rep pe_can pe_can) fun M0 B M σ c Q hQ => h M0 B M σ c _ fun v H ⟨ad, mo, o, env1, B1, M1, e0, e1, n1, n2, c1, s1, r1, ds, e5, q1⟩ => by
    subst e0 e1 e5
    obtain ⟨xs, rfl, hr⟩ := r1
    have e2 : upd (J B1 M1) ad (.lst xs) = J (upd B1 ad (.lst xs)) M1 := by rw [upd_JB n1]
    have s12 : Same B1 (upd B1 ad (.lst xs)) := same_new n2
    have c2 : Conc X.K M0 env1 (upd B1 ad (.lst xs)) M1 σ := c1.ext s12 fun a u q => by
      rw [upd_ne (fun z => by rw [z, n1] at q; cases q)]
      exact c1.dis a u q
    rw [← upd_JM, e2]
    refine q1 M0 _ M1 σ c2 _ fun v2 H2 ⟨d2, env2, B3, M3, e3, c3, s3, r3, k, e4, h1, h2, hl, q⟩ => ?_
    subst e3 e4; cases r3
    have hB : J B3 M3 ad = some (.lst xs) := by
      have : B3 ad = some (.lst xs) := s3 _ _ upd_same
      exact c3.same _ _ this
    refine ⟨ad, k, xs, rfl, rfl, hB, h1, h2, by rw [hr.length, sizeLine_eq]; omega, fun p hp => hQ _ _ ((PostM.newL c3 hp ((hr.mono (s12.trans s3)).flat _) q).back ((s1.trans s12).trans s3))⟩
/-- c ? a : b, things of one's own -/
theorem em_if (h : EB X c env fun x env' => (x = true → EM X a env' km) ∧ (x = false → EM X b env' km)) : EM X (.IfExp c a b pos) env km := .of (pe_ifExp pt_can pe_can pe_can) fun M0 B M σ cc Q hQ => h M0 B M σ cc _ fun x H p => by
  obtain ⟨env', B', M', rfl, c', sm, q1, q2⟩ := p
  cases x with
  | true =>
    rw [if_pos rfl]
    exact q1 rfl M0 B' M' σ c' _ fun v H p => hQ v H (p.back sm)
  | false =>
    rw [if_neg (by decide)]
    exact q2 rfl M0 B' M' σ c' _ fun v H p => hQ v H (p.back sm)
/-- tuple(t) of a tuple: itself -/
theorem ee_tupleT (hm : X.mg "tuple" = none) (h : EE X e env fun d env' => ∃ ds, d = .tup ds ∧ k (.tup ds) env') (hg : Gl X "tuple" := by rfl) (he : starEach (e :: []) X.env = (false, eval e X.env) :: starEach [] X.env := by rfl) (hpl : (backTo pos (starEach [] X.env)).any (·.1) = false := by rfl) : EE X (.Call (.Name "tuple" p) [e] [] pos) env k :=
  .of (pe_callTy call_tupleS hg hm (by decide +kernel) (pa_cons pe_can pa_nil he) (by decide) (by decide) he hpl) fun M0 B M σ c Q hQ => h M0 B M σ c _ fun v H ⟨d, env', B', M', e1, c', sm, r, ds, e2, q⟩ => by
    subst e1 e2
    obtain ⟨ad, xs, rfl, hs, hr⟩ := r
    exact ⟨ad, xs, rfl, .inr ⟨sqT_same c'.same hs.sq, hQ _ _ ((PostD.now (d := .tup ds) c' ⟨ad, xs, rfl, hs, hr⟩ q).back sm)⟩⟩
/-! ### tuple(range(..)) -/
def rgS (lo c : Int) (n : Nat) : List D := (List.range n).map fun i => I (lo + (i : Nat) * c)
def rgSV (lo c : Int) (n : Nat) : List V := (List.range n).map fun i => V.int (lo + (i : Nat) * c)
theorem rgS_rp {B : Hp} {lo c : Int} {n : Nat} : RpA K B (rgS lo c n) (rgSV lo c n) := by
  have e : rgS lo c n = (rgSV lo c n).map D.v := by
    unfold rgS rgSV
    rw [List.map_map]
    rfl
  rw [e]
  exact RpA.atoms
theorem vals_rgS {lo c : Int} {n : Nat} {acc : Array Value} (h : ItemsOf (fun i v => ∃ t, v = .int (lo + i * c) t) acc n) : Vals (rgSV lo c n) acc.toList := by
  have e : acc.toList.length = n := by rw [Array.length_toList]; exact h.1
  unfold rgSV
  rw [← e]
  refine vals_of_get acc.toList _ fun j u hj => ?_
  obtain ⟨t, rfl⟩ := h.2 j u (by rw [← hj, Array.getElem?_toList])
  exact ⟨t, rfl⟩
def tTupC (ta : TA) : TE := fun σ H Q => ta σ H fun vs H1 => ∃ (i j c : Int) (n : Nat), vs = [.int i, .int j, .int c] ∧ RgC i j c n ∧ n ≤ 1000000 ∧ NewT Q H1 (rgSV i c n)
theorem pe_tupC {a b c : Expr} {ta : TA} {p pos p2 pos2 : Pos} (hc : X.calm = true) (hg : Gl X "tuple") (hm : X.mg "tuple" = none) (hg2 : Gl X "range") (hm2 : X.mg "range" = none) (ha : PA X [a, b, c] ta)
    (hs : starEach [a, b, c] X.env = (false, eval a X.env) :: starEach [b, c] X.env) (hpl : (backTo pos2 (starEach [b, c] X.env)).any (·.1) = false)
    (na : starEach [.Call (.Name "range" p2) [a, b, c] [] pos2] X.env = (false, eval (.Call (.Name "range" p2) [a, b, c] [] pos2) X.env) :: starEach [] X.env) : PE X (.Call (.Name "tuple" p) [.Call (.Name "range" p2) [a, b, c] [] pos2] [] pos) (tTupC ta) := by
  refine ⟨fun pins s σ H Q I h => ?_⟩
  refine Call_ (ld_blt I hg hm boot_tuple (PyProof.Rows.callWith_type1 (args_cons ?_ na) na))
  refine Call_ (ld_blt I hg2 hm2 boot_range (PyProof.Rows.callWith_type1 (thn (ha.run pos2 pins s σ H _ I h) fun us s1 ⟨vs, H1, I1, r1, q1⟩ => ?_) hs hpl))
  obtain ⟨i, j, k, n, e, ⟨c0, c1, c2, c3⟩, hn, q⟩ := q1
  subst e
  cases r1 with
  | cons r rr =>
    cases rr with
    | cons r' rr =>
      cases rr with
      | cons r'' rr =>
        cases rr
        obtain ⟨t, rfl⟩ := r
        obtain ⟨t', rfl⟩ := r'
        obtain ⟨t'', rfl⟩ := r''
        refine call_range_3 c0 ?_ (.inl (PyProof.noPylong_small c1))
        refine args_nil ?_
        have I2 : Inv X pins σ H1 { s1 with heap := s1.heap.push { cls := .type "range", data := .fields #[.int i t, .int j t', .int k t''] } } := I1.kept (t' := s1.toks) fun b o e => Heap.get?_push_of_some _ e
        refine call_tuple_range (n := n) (I2.ok.hd hc) (IsRange.new ..) c2 c3 (by omega) fun h' tk acc hk hi => ?_
        have I3 : Inv X pins σ H1 { s1 with heap := h', toks := tk } := I2.kept hk
        have ea : acc = acc.toList.toArray := by simp
        rw [ea]
        exact ep_newT (s := { s1 with heap := h', toks := tk }) (tk := tk) I3 (vals_rgS hi) (by unfold rgSV; rw [List.length_map, List.length_range, sizeLine_eq]; omega) q
/-- tuple(range(a, b, -1)) -/
theorem ee_tupleRg3 {p2 pos2 p3 p4 : Pos} {k0 : Nat} (hm : X.mg "tuple" = none) (hm2 : X.mg "range" = none) (h : EE X a env fun d env' => EE X b env' fun d2 env2 => ∃ x y, d = I x ∧ d2 = I y ∧ RgOk y x ∧ (x - y).toNat ≤ 1000000 ∧ k (.tup (rgS x (-1) (x - y).toNat)) env2) (hc : X.calm = true := by rfl) (hg : Gl X "tuple" := by rfl) (hg2 : Gl X "range" := by rfl)
    (hs : starEach [a, b, .UnaryOp .USub (.Constant (.int 1) k0 p3) p4] X.env = (false, eval a X.env) :: starEach [b, .UnaryOp .USub (.Constant (.int 1) k0 p3) p4] X.env := by rfl) (hs2 : starEach [b, .UnaryOp .USub (.Constant (.int 1) k0 p3) p4] X.env = (false, eval b X.env) :: starEach [.UnaryOp .USub (.Constant (.int 1) k0 p3) p4] X.env := by rfl) (hs3 : starEach [.UnaryOp .USub (.Constant (.int 1) k0 p3) p4] X.env = (false, eval (.UnaryOp .USub (.Constant (.int 1) k0 p3) p4) X.env) :: starEach [] X.env := by rfl)
    (hpl : (backTo pos2 (starEach [b, .UnaryOp .USub (.Constant (.int 1) k0 p3) p4] X.env)).any (·.1) = false := by rfl)
    (na : starEach [.Call (.Name "range" p2) [a, b, .UnaryOp .USub (.Constant (.int 1) k0 p3) p4] [] pos2] X.env = (false, eval (.Call (.Name "range" p2) [a, b, .UnaryOp .USub (.Constant (.int 1) k0 p3) p4] [] pos2) X.env) :: starEach [] X.env := by rfl) :
    EE X (.Call (.Name "tuple" p) [.Call (.Name "range" p2) [a, b, .UnaryOp .USub (.Constant (.int 1) k0 p3) p4] [] pos2] [] pos) env k :=
  .of (pe_tupC hc hg hm hg2 hm2 (pa_cons pe_can (pa_cons pe_can (pa_cons (pe_un un_neg pe_int) pa_nil hs3) hs2) hs) hs hpl na) fun M0 B M σ c Q hQ => h M0 B M σ c _ fun v H ⟨d, env', B', M', e1, c', sm, r, q⟩ => by
    subst e1
    refine q M0 B' M' σ c' _ fun v2 H ⟨d2, env2, B2, M2, e2, c2, s2, r2, x, y, e3, e4, ok, hn, q2⟩ => ?_
    subst e2 e3 e4; cases r; cases r2
    obtain ⟨o1, o2, o3, o4, o5⟩ := ok
    refine ⟨1, rfl, x, y, -1, _, rfl, RgC.neg o3 o4 o1 o2, hn, fun p o hp h1 h2 => hQ _ _ ((PostD.newT c2 hp h1 h2 rgS_rp q2).back (sm.trans s2))⟩
/-- tuple(range(a, b)) -/
theorem ee_tupleRg2 {p2 pos2 : Pos} (hm : X.mg "tuple" = none) (hm2 : X.mg "range" = none) (h : EE X a env fun d env' => EE X b env' fun d2 env2 => ∃ x y, d = I x ∧ d2 = I y ∧ RgOk x y ∧ k (.tup (rgD x y)) env2) (hc : X.calm = true := by rfl) (hg : Gl X "tuple" := by rfl) (hg2 : Gl X "range" := by rfl) : True := trivial
/-! ### a, b, c = .. -/
theorem tvs_len {B : Hp} : ∀ {ts : List TV} {M0 Mf : Hp} {vs : List V}, TVs K B M0 Mf vs ts → vs.length = ts.length
  | [], _, _, _, ⟨e, _⟩ => by rw [e]; rfl
  | .d _ :: ts, _, _, _, ⟨v, r, e, _, h⟩ => by rw [e, List.length_cons, List.length_cons, tvs_len h]
  | .m _ :: ts, _, _, _, ⟨p, o, r, e, _, _, h⟩ => by rw [e, List.length_cons, List.length_cons, tvs_len h]
theorem put_len {kk : Env_ → Prop} : ∀ {is : List Nat} {ts : List TV} {env : Env_}, Put is ts env kk → ∀ n, is.length = n → ts.length = n
  | [], [], _, _, n, h => h
  | i :: is, .d d :: ts, env, p, n, h => by
    rw [← h, List.length_cons, List.length_cons, put_len (is := is) p _ rfl]
  | i :: is, .m mo :: ts, env, p, n, h => by
    rw [← h, List.length_cons, List.length_cons, put_len (is := is) (p.2 0) _ rfl]
  | [], _ :: _, _, p, _, _ => p.elim
  | _ :: _, [], _, p, _, _ => p.elim
theorem s_par3 (i j l : Nat) {x y z : Str} {px py pz pt : Pos} {kt k2 pt2} (h : EU X [a, b, c] env fun ts env' => Put [i, j, l] ts env' k4.nx) (hN : X.N.Nodup) (hc : X.calm = true := by rfl) (hi : X.N[i]? = some x := by rfl) (hj : X.N[j]? = some y := by rfl) (hl : X.N[l]? = some z := by rfl) (hij : i ≠ j := by decide) (hil : i ≠ l := by decide) (hjl : j ≠ l := by decide)
    (hx : X.env.scope.names.lookup x = some .local := by rfl) (hy : X.env.scope.names.lookup y = some .local := by rfl) (hz : X.env.scope.names.lookup z = some .local := by rfl)
    (hw : swappedStores [.Tuple [.Name x px, .Name y py, .Name z pz] kt pt] (.Tuple [a, b, c] k2 pt2) X.env = pure (some [x, y, z]) := by rfl)
    (hs : swapsWithSole [.Tuple [.Name x px, .Name y py, .Name z pz] kt pt] (.Tuple [a, b, c] k2 pt2) pos.line X.env = pure false := by rfl) : S1 X (.Assign [.Tuple [.Name x px, .Name y py, .Name z pz] kt pt] (.Tuple [a, b, c] k2 pt2) pos) env k4 :=
  .of (ps_par3 hc hN hi hj hl hij hil hjl hx hy hz pa_can hw hs) fun M0 B M σ c Dd h1 h2 h3 h4 => h M0 B M σ c _ fun vs H ⟨ts, env2, B2, M2, Mf, e2, c2, s2, r2, q2⟩ => by
    subst e2
    have hlen : vs.length = ts.length ∧ ts.length = 3 := ⟨tvs_len r2, put_len q2 3 rfl⟩
    obtain ⟨u, v, w, rfl⟩ : ∃ u v w, vs = [u, v, w] := by
      have : vs.length = 3 := hlen.1.trans hlen.2
      match vs, this with
      | [u, v, w], _ => exact ⟨u, v, w, rfl⟩
    exact ⟨u, v, w, rfl, h1 _ _ ((put_ok ts [i, j, l] [u, v, w] M0 Mf B2 M2 env2 σ c2 r2 q2).back s2)⟩
/-! ### what follows from what -/
theorem EE.mono {k' : D → Env_ → Prop} (h : EE X e env k) (f : ∀ d e, k d e → k' d e) : EE X e env k' := fun M0 B M σ c Q hQ => h M0 B M σ c Q fun v H ⟨d, env', B', M', e1, c', sm, r, q⟩ => hQ v H ⟨d, env', B', M', e1, c', sm, r, f _ _ q⟩
theorem EEb.mono {k' : D → Env_ → Prop} (h : EEb X scope e env k) (f : ∀ d e, k d e → k' d e) : EEb X scope e env k' := fun M0 B M σ c Q hQ => h M0 B M σ c Q fun v H ⟨d, env', B', M', e1, c', sm, r, q⟩ => hQ v H ⟨d, env', B', M', e1, c', sm, r, f _ _ q⟩
theorem EBb.mono {kb' : Bool → Env_ → Prop} (h : EBb X scope ifs env kb) (f : ∀ d e, kb d e → kb' d e) : EBb X scope ifs env kb' := fun M0 B M σ c Q hQ => h M0 B M σ c Q fun v H ⟨env', B', M', e1, c', sm, q⟩ => hQ v H ⟨env', B', M', e1, c', sm, f _ _ q⟩
theorem EGb.mono {kg kg' : Env_ → Prop} {vs : List Nat} {d : D} (h : EGb X scope tg vs d env kg) (f : ∀ e, kg e → kg' e) : EGb X scope tg vs d env kg' := fun M0 B M σ c v r Q hQ => h M0 B M σ c v r Q fun σ' H ⟨env', B', M', e1, c', sm, q⟩ => hQ σ' H ⟨env', B', M', e1, c', sm, f _ q⟩
theorem EI.mono {ki' : List D → (Env_ → Prop) → Env_ → Prop} (h : EI X tg iter env ki) (f : ∀ ds Gd e, ki ds Gd e → ki' ds Gd e) : EI X tg iter env ki' := fun M0 B M σ c R hR => h M0 B M σ c R fun W H ⟨ds, Gd, env', B', M', e1, c', sm, wk, q⟩ => hR W H ⟨ds, Gd, env', B', M', e1, c', sm, wk, f _ _ _ q⟩
theorem wipeE_in {i : Nat} : ∀ {vs : List Nat}, i ∈ vs → i < env.length → (wipeE env vs)[i]? = some .un
  | v :: vs, h, hi => by
    show ((wipeE env vs).set v .un)[i]? = _
    by_cases e : v = i
    · subst e
      rw [List.getElem?_set_self (by rw [wipeE_len]; exact hi)]
    · rw [List.getElem?_set_ne e]
      exact wipeE_in ((List.mem_cons.mp h).resolve_left fun z => e z.symm) hi
theorem wipeE_off {i : Nat} : ∀ {vs : List Nat}, i ∉ vs → (wipeE env vs)[i]? = env[i]?
  | [], _ => rfl
  | v :: vs, h => by
    show ((wipeE env vs).set v .un)[i]? = _
    rw [List.getElem?_set_ne fun z => h (by rw [z]; exact List.mem_cons_self)]
    exact wipeE_off fun z => h (List.mem_cons_of_mem _ z)
theorem wipeE_idem {vs : List Nat} : wipeE (wipeE env vs) vs = wipeE env vs := by
  refine List.ext_getElem? fun i => ?_
  by_cases hi : i < env.length
  · by_cases hv : i ∈ vs
    · rw [wipeE_in hv (by rw [wipeE_len]; exact hi), wipeE_in hv hi]
    · rw [wipeE_off hv]
  · rw [List.getElem?_eq_none (by rw [wipeE_len, wipeE_len]; omega), List.getElem?_eq_none (by rw [wipeE_len]; omega)]
theorem nm_wipe {vs : List Nat} (h : NoMu env vs) : NoMu (wipeE env vs) vs := fun v hv a mo q => by
  rcases wipeE_at q with e | ⟨e, _⟩
  · cases e
  · exact e hv
/-! ### comprehensions that change nothing, over xs.map f -/
theorem elcA {own : List (Str × Nat)}
    (h : EI X tg iter env fun ds Gd env1 => NoMu env1 (own.map (·.2)) ∧ Gd (wipeE env1 (own.map (·.2))) ∧ ∃ (α : Type) (xs : List α) (f : α → D) (g : α → Option D), ds = xs.map f ∧ xs.length ≤ 1000000 ∧
      (∀ x, x ∈ xs → EGb X scope tg (own.map (·.2)) (f x) (wipeE env1 (own.map (·.2))) fun e3 => EBb X scope ifs e3 fun b e4 =>
        (b = true → EEb X scope elt e4 fun y e5 => g x = some y ∧ NoMu e5 (own.map (·.2)) ∧ wipeE e5 (own.map (·.2)) = wipeE env1 (own.map (·.2))) ∧ (b = false → g x = none ∧ NoMu e4 (own.map (·.2)) ∧ wipeE e4 (own.map (·.2)) = wipeE env1 (own.map (·.2)))) ∧
      km (.lst (xs.filterMap g)) (wipeE env1 (own.map (·.2)))) : ELC X scope elt tg iter ifs (own.map (·.2)) env km := by
  refine elc ?_
  refine EI.mono h fun ds Gd env1 ⟨nm, gd, α, xs, f, g, hds, hl, turn, fin⟩ => ?_
  subst hds
  refine ⟨nm, fun i acc e => e = wipeE env1 (own.map (·.2)) ∧ acc = (xs.take i).filterMap g, ⟨rfl, rfl⟩, fun i acc e hI => ?_, by rw [List.length_map]; exact hl, fun i d acc e2 hd hI => ?_, fun acc e hI => ?_⟩
  · obtain ⟨rfl, rfl⟩ := hI
    exact ⟨gd, Nat.le_trans (List.length_filterMap_le ..) (by rw [List.length_take]; exact Nat.min_le_left _ _), nm_wipe nm⟩
  · obtain ⟨rfl, rfl⟩ := hI
    rw [List.getElem?_map] at hd
    cases hx : xs[i]? with
    | none => rw [hx] at hd; cases hd
    | some x =>
      rw [hx] at hd
      have hd := Option.some.inj hd
      subst hd
      have tk : xs.take (i + 1) = xs.take i ++ [x] := by rw [List.take_add_one, hx]; rfl
      refine EGb.mono (turn x (List.mem_of_getElem? hx)) fun e3 h3 => EBb.mono h3 fun b e4 h4 => ⟨fun hb => EEb.mono (h4.1 hb) fun y e5 ⟨hg, n5, w5⟩ => ?_, fun hb => ?_⟩
      · refine ⟨n5, w5, ?_⟩
        rw [tk, List.filterMap_append]
        simp [hg]
      · obtain ⟨hg, n4, w4⟩ := h4.2 hb
        refine ⟨n4, w4, ?_⟩
        rw [tk, List.filterMap_append]
        simp [hg]
  · obtain ⟨rfl, rfl⟩ := hI
    rw [List.length_map, List.take_length, wipeE_idem]
    exact fin
theorem em_lcA {own : List (Str × Nat)} (ok : BlkOk X.N X.env.scope scope own) (hN : X.N.Nodup)
    (h : EI X tg iter env fun ds Gd env1 => NoMu env1 (own.map (·.2)) ∧ Gd (wipeE env1 (own.map (·.2))) ∧ ∃ (α : Type) (xs : List α) (f : α → D) (g : α → Option D), ds = xs.map f ∧ xs.length ≤ 1000000 ∧
      (∀ x, x ∈ xs → EGb X scope tg (own.map (·.2)) (f x) (wipeE env1 (own.map (·.2))) fun e3 => EBb X scope ifs e3 fun b e4 =>
        (b = true → EEb X scope elt e4 fun y e5 => g x = some y ∧ NoMu e5 (own.map (·.2)) ∧ wipeE e5 (own.map (·.2)) = wipeE env1 (own.map (·.2))) ∧ (b = false → g x = none ∧ NoMu e4 (own.map (·.2)) ∧ wipeE e4 (own.map (·.2)) = wipeE env1 (own.map (·.2)))) ∧
      km (.lst (xs.filterMap g)) (wipeE env1 (own.map (·.2))))
    (hc : X.calm = true := by rfl) (hs : ∀ x, foldedSetIterable iter X.env x = pure x := by intro _; rfl) : EM X (.ListComp elt [⟨tg, iter, ifs, 0⟩] scope pos) env km := em_ofLc ok hN (elcA h) hc hs
end
/-! ### places in lists -/
theorem atI_pos {α : Type} {ds : List α} {j : Int} {d : α} (h0 : 0 ≤ j) (h : ds[j.toNat]? = some d) : atI ds j = some d := by
  obtain ⟨m, rfl⟩ : ∃ m : Nat, j = (m : Int) := ⟨j.toNat, by omega⟩
  exact atI_nat h
theorem getD_at {α : Type} {ns : List α} {m : Nat} (z : α) (h : m < ns.length) : ns[m]? = some (ns.getD m z) := by
  rw [List.getD_eq_getElem?_getD, List.getElem?_eq_getElem h]
  rfl
theorem atI_ints {ns : List Int} {j : Int} (h0 : 0 ≤ j) (h1 : j < ns.length) : atI (ns.map I) j = some (I (ns.getD j.toNat 0)) := by
  refine atI_pos h0 ?_
  rw [List.getElem?_map, getD_at 0 (by omega)]
  rfl
end Sy
namespace Sy
open PySem PySem.Spec PyProof.Rows L2
theorem rgD_len (a b : Int) : (rgD a b).length = (b - a).toNat := by unfold rgD; rw [List.length_map, List.length_range]
theorem rgD_at {a b : Int} {i : Nat} {d : D} (h : (rgD a b)[i]? = some d) : i < (b - a).toNat ∧ d = I (a + (i : Nat)) := by
  unfold rgD at h
  rw [List.getElem?_map] at h
  by_cases hi : i < (b - a).toNat
  · rw [List.getElem?_range hi] at h
    exact ⟨hi, (Option.some.inj h).symm⟩
  · rw [List.getElem?_eq_none (by rw [List.length_range]; omega)] at h
    cases h
end Sy
namespace Sy
open PySem PySem.Spec PyProof.Rows L2
/-- the name of a value's type -/
def tyD : D → Option String
  | .v (.int _) => some "int"
  | .v (.bl _) => some "bool"
  | .v (.str _) => some "str"
  | .v .non => some "NoneType"
  | .tup _ => some "tuple"
  | .lst _ => some "list"
  | _ => none
section
variable {X : Cx} {K : PySem.W.Frag} {e a b c tg iter elt : Expr} {es rest ifs : List Expr} {env : Env_} {k : D → Env_ → Prop} {kb : Bool → Env_ → Prop} {km : MO → Env_ → Prop} {kl : List D → Env_ → Prop} {k4 : K4} {pos p : Pos} {scope : Scope}
variable {M0 B B1 M : Hp} {σ : L2.St}
theorem tyD_ok {H : Hp} {d : D} {t : String} {v : V} (sm : Same B H) (ht : tyD d = some t) (r : Rp K B d v) : TyX K H v (.type t) := by
  match d, ht, r with
  | .v (.int i), ht, r => cases ht; cases r; exact .base (.int i)
  | .v (.bl i), ht, r => cases ht; cases r; exact .base (.bl i)
  | .v (.str i), ht, r => cases ht; cases r; exact .base (.str i)
  | .v .non, ht, r => cases ht; cases r; exact .base .non
  | .tup ds, ht, r =>
    cases ht
    obtain ⟨a, xs, rfl, hp, _⟩ := r
    rcases hp with ⟨o, h, _, _⟩ | ⟨o, its, n, h1, h2, _⟩
    · exact .fTuple (sm _ _ h)
    · exact .kTuple h1 h2
  | .lst ds, ht, r =>
    cases ht
    obtain ⟨a, xs, rfl, hp, _⟩ := r
    rcases hp with (h | ⟨o, h⟩) | ⟨o, its, n, h1, h2, _⟩
    · exact .base (.lst (sm _ _ h))
    · exact .base (.frz (sm _ _ h))
    · exact .kList h1 h2
/-- isinstance(a, T), T a built-in type -/
theorem ee_isi {T : Str} {Tn : String} {pt : Pos} (hm : X.mg "isinstance" = none) (hmT : X.mg T = none) (hvT : bootBuiltins T = some (.type Tn)) (h : EE X a env fun d env' => ∃ t b, tyD d = some t ∧ kitB t Tn = some b ∧ k (Bl b) env') (hg : Gl X "isinstance" := by rfl) (hgT : Gl X T := by rfl)
    (hn : T ≠ "__name__" := by decide) (hdT : (T == ("__debug__" : Str)) = false := by decide)
    (he : starEach [a, .Name T pt] X.env = (false, eval a X.env) :: starEach [.Name T pt] X.env := by rfl) (he2 : starEach [.Name T pt] X.env = (false, eval (.Name T pt) X.env) :: starEach [] X.env := by rfl) (hpl : (backTo pos (starEach [.Name T pt] X.env)).any (·.1) = false := by rfl) :
    EE X (.Call (.Name "isinstance" p) [a, .Name T pt] [] pos) env k :=
  .of (pe_callB call_isi hg hm boot_isinstance (pa_cons pe_can (pa_cons (pe_bltn (v := .ty Tn) hgT hmT hvT rfl hn hdT) pa_nil he2) he) (by decide) (by decide) he hpl) fun M0 B M σ c Q hQ => h M0 B M σ c _ fun v H ⟨d, env', B', M', e1, c', sm, r, t, b, ht, hk, q⟩ => by
    subst e1
    exact ⟨v, .ty Tn, .type t, .type Tn, b, rfl, .ty Tn, tyD_ok c'.same ht r, kit_ty hk, hQ _ _ ((PostD.nowA c' q).back sm)⟩
/-- a value whose type is told -/
def okD : D → Bool
  | .v (.int _) | .v (.bl _) | .v (.str _) | .v .non | .tup _ | .lst _ => true
  | _ => false
def isInt : D → Bool
  | .v (.int _) | .v (.bl _) => true
  | _ => false
theorem kb_Int_int : kitB "int" "int" = some true := by decide +kernel
theorem kb_Int_bl : kitB "bool" "int" = some true := by decide +kernel
theorem kb_Int_str : kitB "str" "int" = some false := by decide +kernel
theorem kb_Int_tup : kitB "tuple" "int" = some false := by decide +kernel
theorem kb_Int_lst : kitB "list" "int" = some false := by decide +kernel
theorem kb_Int_non : kitB "NoneType" "int" = some false := by decide +kernel
theorem ee_isiInt {pt : Pos} (hm : X.mg "isinstance" = none) (hmT : X.mg "int" = none) (h : EE X a env fun d env' => okD d = true ∧ k (Bl (isInt d)) env') (hg : Gl X "isinstance" := by rfl) (hgT : Gl X "int" := by rfl)
    (he : starEach [a, .Name "int" pt] X.env = (false, eval a X.env) :: starEach [.Name "int" pt] X.env := by rfl) (he2 : starEach [.Name "int" pt] X.env = (false, eval (.Name "int" pt) X.env) :: starEach [] X.env := by rfl) (hpl : (backTo pos (starEach [.Name "int" pt] X.env)).any (·.1) = false := by rfl) :
    EE X (.Call (.Name "isinstance" p) [a, .Name "int" pt] [] pos) env k :=
  ee_isi hm hmT boot_int (EE.mono h fun d e ⟨h1, h2⟩ => by
    match d, h1, h2 with
    | .v (.int _), _, h2 => exact ⟨_, _, rfl, kb_Int_int, h2⟩
    | .v (.bl _), _, h2 => exact ⟨_, _, rfl, kb_Int_bl, h2⟩
    | .v (.str _), _, h2 => exact ⟨_, _, rfl, kb_Int_str, h2⟩
    | .tup _, _, h2 => exact ⟨_, _, rfl, kb_Int_tup, h2⟩
    | .lst _, _, h2 => exact ⟨_, _, rfl, kb_Int_lst, h2⟩
    | .v .non, _, h2 => exact ⟨_, _, rfl, kb_Int_non, h2⟩) hg hgT (by decide) (by decide) he he2 hpl
def isBool : D → Bool
  | .v (.bl _) => true
  | _ => false
theorem kb_Bool_int : kitB "int" "bool" = some false := by decide +kernel
theorem kb_Bool_bl : kitB "bool" "bool" = some true := by decide +kernel
theorem kb_Bool_str : kitB "str" "bool" = some false := by decide +kernel
theorem kb_Bool_tup : kitB "tuple" "bool" = some false := by decide +kernel
theorem kb_Bool_lst : kitB "list" "bool" = some false := by decide +kernel
theorem kb_Bool_non : kitB "NoneType" "bool" = some false := by decide +kernel
theorem ee_isiBool {pt : Pos} (hm : X.mg "isinstance" = none) (hmT : X.mg "bool" = none) (h : EE X a env fun d env' => okD d = true ∧ k (Bl (isBool d)) env') (hg : Gl X "isinstance" := by rfl) (hgT : Gl X "bool" := by rfl)
    (he : starEach [a, .Name "bool" pt] X.env = (false, eval a X.env) :: starEach [.Name "bool" pt] X.env := by rfl) (he2 : starEach [.Name "bool" pt] X.env = (false, eval (.Name "bool" pt) X.env) :: starEach [] X.env := by rfl) (hpl : (backTo pos (starEach [.Name "bool" pt] X.env)).any (·.1) = false := by rfl) :
    EE X (.Call (.Name "isinstance" p) [a, .Name "bool" pt] [] pos) env k :=
  ee_isi hm hmT boot_bool (EE.mono h fun d e ⟨h1, h2⟩ => by
    match d, h1, h2 with
    | .v (.int _), _, h2 => exact ⟨_, _, rfl, kb_Bool_int, h2⟩
    | .v (.bl _), _, h2 => exact ⟨_, _, rfl, kb_Bool_bl, h2⟩
    | .v (.str _), _, h2 => exact ⟨_, _, rfl, kb_Bool_str, h2⟩
    | .tup _, _, h2 => exact ⟨_, _, rfl, kb_Bool_tup, h2⟩
    | .lst _, _, h2 => exact ⟨_, _, rfl, kb_Bool_lst, h2⟩
    | .v .non, _, h2 => exact ⟨_, _, rfl, kb_Bool_non, h2⟩) hg hgT (by decide) (by decide) he he2 hpl
def isStr : D → Bool
  | .v (.str _) => true
  | _ => false
theorem kb_Str_int : kitB "int" "str" = some false := by decide +kernel
theorem kb_Str_bl : kitB "bool" "str" = some false := by decide +kernel
theorem kb_Str_str : kitB "str" "str" = some true := by decide +kernel
theorem kb_Str_tup : kitB "tuple" "str" = some false := by decide +kernel
theorem kb_Str_lst : kitB "list" "str" = some false := by decide +kernel
theorem kb_Str_non : kitB "NoneType" "str" = some false := by decide +kernel
theorem ee_isiStr {pt : Pos} (hm : X.mg "isinstance" = none) (hmT : X.mg "str" = none) (h : EE X a env fun d env' => okD d = true ∧ k (Bl (isStr d)) env') (hg : Gl X "isinstance" := by rfl) (hgT : Gl X "str" := by rfl)
    (he : starEach [a, .Name "str" pt] X.env = (false, eval a X.env) :: starEach [.Name "str" pt] X.env := by rfl) (he2 : starEach [.Name "str" pt] X.env = (false, eval (.Name "str" pt) X.env) :: starEach [] X.env := by rfl) (hpl : (backTo pos (starEach [.Name "str" pt] X.env)).any (·.1) = false := by rfl) :
    EE X (.Call (.Name "isinstance" p) [a, .Name "str" pt] [] pos) env k :=
  ee_isi hm hmT boot_str (EE.mono h fun d e ⟨h1, h2⟩ => by
    match d, h1, h2 with
    | .v (.int _), _, h2 => exact ⟨_, _, rfl, kb_Str_int, h2⟩
    | .v (.bl _), _, h2 => exact ⟨_, _, rfl, kb_Str_bl, h2⟩
    | .v (.str _), _, h2 => exact ⟨_, _, rfl, kb_Str_str, h2⟩
    | .tup _, _, h2 => exact ⟨_, _, rfl, kb_Str_tup, h2⟩
    | .lst _, _, h2 => exact ⟨_, _, rfl, kb_Str_lst, h2⟩
    | .v .non, _, h2 => exact ⟨_, _, rfl, kb_Str_non, h2⟩) hg hgT (by decide) (by decide) he he2 hpl
def isTup : D → Bool
  | .tup _ => true
  | _ => false
theorem kb_Tup_int : kitB "int" "tuple" = some false := by decide +kernel
theorem kb_Tup_bl : kitB "bool" "tuple" = some false := by decide +kernel
theorem kb_Tup_str : kitB "str" "tuple" = some false := by decide +kernel
theorem kb_Tup_tup : kitB "tuple" "tuple" = some true := by decide +kernel
theorem kb_Tup_lst : kitB "list" "tuple" = some false := by decide +kernel
theorem kb_Tup_non : kitB "NoneType" "tuple" = some false := by decide +kernel
theorem ee_isiTup {pt : Pos} (hm : X.mg "isinstance" = none) (hmT : X.mg "tuple" = none) (h : EE X a env fun d env' => okD d = true ∧ k (Bl (isTup d)) env') (hg : Gl X "isinstance" := by rfl) (hgT : Gl X "tuple" := by rfl)
    (he : starEach [a, .Name "tuple" pt] X.env = (false, eval a X.env) :: starEach [.Name "tuple" pt] X.env := by rfl) (he2 : starEach [.Name "tuple" pt] X.env = (false, eval (.Name "tuple" pt) X.env) :: starEach [] X.env := by rfl) (hpl : (backTo pos (starEach [.Name "tuple" pt] X.env)).any (·.1) = false := by rfl) :
    EE X (.Call (.Name "isinstance" p) [a, .Name "tuple" pt] [] pos) env k :=
  ee_isi hm hmT boot_tuple (EE.mono h fun d e ⟨h1, h2⟩ => by
    match d, h1, h2 with
    | .v (.int _), _, h2 => exact ⟨_, _, rfl, kb_Tup_int, h2⟩
    | .v (.bl _), _, h2 => exact ⟨_, _, rfl, kb_Tup_bl, h2⟩
    | .v (.str _), _, h2 => exact ⟨_, _, rfl, kb_Tup_str, h2⟩
    | .tup _, _, h2 => exact ⟨_, _, rfl, kb_Tup_tup, h2⟩
    | .lst _, _, h2 => exact ⟨_, _, rfl, kb_Tup_lst, h2⟩
    | .v .non, _, h2 => exact ⟨_, _, rfl, kb_Tup_non, h2⟩) hg hgT (by decide) (by decide) he he2 hpl
def isLst : D → Bool
  | .lst _ => true
  | _ => false
theorem kb_Lst_int : kitB "int" "list" = some false := by decide +kernel
theorem kb_Lst_bl : kitB "bool" "list" = some false := by decide +kernel
theorem kb_Lst_str : kitB "str" "list" = some false := by decide +kernel
theorem kb_Lst_tup : kitB "tuple" "list" = some false := by decide +kernel
theorem kb_Lst_lst : kitB "list" "list" = some true := by decide +kernel
theorem kb_Lst_non : kitB "NoneType" "list" = some false := by decide +kernel
theorem ee_isiLst {pt : Pos} (hm : X.mg "isinstance" = none) (hmT : X.mg "list" = none) (h : EE X a env fun d env' => okD d = true ∧ k (Bl (isLst d)) env') (hg : Gl X "isinstance" := by rfl) (hgT : Gl X "list" := by rfl)
    (he : starEach [a, .Name "list" pt] X.env = (false, eval a X.env) :: starEach [.Name "list" pt] X.env := by rfl) (he2 : starEach [.Name "list" pt] X.env = (false, eval (.Name "list" pt) X.env) :: starEach [] X.env := by rfl) (hpl : (backTo pos (starEach [.Name "list" pt] X.env)).any (·.1) = false := by rfl) :
    EE X (.Call (.Name "isinstance" p) [a, .Name "list" pt] [] pos) env k :=
  ee_isi hm hmT boot_list (EE.mono h fun d e ⟨h1, h2⟩ => by
    match d, h1, h2 with
    | .v (.int _), _, h2 => exact ⟨_, _, rfl, kb_Lst_int, h2⟩
    | .v (.bl _), _, h2 => exact ⟨_, _, rfl, kb_Lst_bl, h2⟩
    | .v (.str _), _, h2 => exact ⟨_, _, rfl, kb_Lst_str, h2⟩
    | .tup _, _, h2 => exact ⟨_, _, rfl, kb_Lst_tup, h2⟩
    | .lst _, _, h2 => exact ⟨_, _, rfl, kb_Lst_lst, h2⟩
    | .v .non, _, h2 => exact ⟨_, _, rfl, kb_Lst_non, h2⟩) hg hgT (by decide) (by decide) he he2 hpl
/-! ### x in (atoms) -/
theorem co_inV {x : V} {xs : List V} (fx : flatV x = true) (fs : xs.all flatV = true) (q : k (Bl (inV x xs)) env) : CO X .In (.v x) (.tup (xs.map D.v)) env k := .of op_in_seq fun M0 B M σ c v1 v2 r1 r2 Q hQ => by
  cases r1
  obtain ⟨a2, ys, rfl, hs2, hr2⟩ := r2
  have ey := RpA.atoms_eq hr2
  subst ey
  exact ⟨a2, _, rfl, .inr (sqT_same c.same hs2.sq), fx, fs, hQ _ _ (.nowA c q)⟩
theorem co_niV {x : V} {xs : List V} (fx : flatV x = true) (fs : xs.all flatV = true) (q : k (Bl (!inV x xs)) env) : CO X .NotIn (.v x) (.tup (xs.map D.v)) env k := .of op_notIn_seq fun M0 B M σ c v1 v2 r1 r2 Q hQ => by
  cases r1
  obtain ⟨a2, ys, rfl, hs2, hr2⟩ := r2
  have ey := RpA.atoms_eq hr2
  subst ey
  exact ⟨a2, _, rfl, .inr (sqT_same c.same hs2.sq), fx, fs, hQ _ _ (.nowA c q)⟩
end
def muB : Option Desc → Bool
  | some (.mu _ _) => true
  | _ => false
theorem noMu_of {env : Env_} {vs : List Nat} (h : (vs.all fun v => !muB env[v]?) = true) : NoMu env vs := fun v hv a mo e => by
  have h := List.all_eq_true.mp h v hv
  rw [e] at h
  cases h
theorem fm_some {α β : Type} (f : α → β) : ∀ xs : List α, xs.filterMap (fun x => some (f x)) = xs.map f
  | [] => rfl
  | x :: xs => by
    rw [List.filterMap_cons, fm_some f xs]
    rfl
/-- a filter and a map -/
def pick {α β : Type} (p : α → Bool) (f : α → β) (x : α) : Option β := if p x = true then some (f x) else none
theorem pick_t {α β : Type} {p : α → Bool} {f : α → β} {x : α} (h : p x = true) : pick p f x = some (f x) := if_pos h
theorem pick_f {α β : Type} {p : α → Bool} {f : α → β} {x : α} (h : p x = false) : pick p f x = none := if_neg (by rw [h]; exact Bool.false_ne_true)
theorem fm_pick {α β : Type} (p : α → Bool) (f : α → β) : ∀ xs : List α, xs.filterMap (pick p f) = (xs.filter p).map f
  | [] => rfl
  | x :: xs => by
    rw [List.filterMap_cons, List.filter_cons]
    cases h : p x with
    | true =>
      rw [pick_t h, if_pos rfl, List.map_cons, fm_pick p f xs]
    | false =>
      rw [pick_f h, if_neg Bool.false_ne_true, fm_pick p f xs]
/-- a slot that is empty, or data -/
def sl : Option D → Desc
  | none => .un
  | some d => .dat d
end Sy
namespace Sy
open PySem PySem.Spec PyProof.Rows L2
/-! ### dicts whose keys are ints or texts -/
def kD (k : Key) : D := .v (kV k)
abbrev KI (i : Int) : Key := .inl i
def valD (kvs : List (Key × D)) (k : Key) : Option D := (kvs.find? fun kv => decide (kv.1 = k)).map (·.2)
def putD (kvs : List (Key × D)) (k : Key) (v : D) : List (Key × D) :=
  if (kvs.any fun kv => decide (kv.1 = k)) = true then kvs.map (fun kv => if kv.1 = k then (kv.1, v) else kv) else kvs ++ [(k, v)]
def mergeD (kvs more : List (Key × D)) : List (Key × D) := more.foldl (fun acc kv => putD acc kv.1 kv.2) kvs
section
variable {K : PySem.W.Frag} {B : Hp}
theorem RpK.length : ∀ {kvs : List (Key × D)} {ks : List (Key × V)}, RpK K B kvs ks → ks.length = kvs.length
  | [], ks, h => by rw [show ks = [] from h]; rfl
  | (k, d) :: r, ks, ⟨x, t, e, _, h⟩ => by rw [e, List.length_cons, List.length_cons, RpK.length h]
theorem RpK.any {k : Key} : ∀ {kvs : List (Key × D)} {ks : List (Key × V)}, RpK K B kvs ks → (ks.any fun kv => decide (kv.1 = k)) = (kvs.any fun kv => decide (kv.1 = k))
  | [], ks, h => by rw [show ks = [] from h]; rfl
  | (k', d) :: r, ks, ⟨x, t, e, _, h⟩ => by rw [e, List.any_cons, List.any_cons, RpK.any h]
theorem RpK.snoc {k : Key} {d : D} {v : V} (hv : Rp K B d v) : ∀ {kvs : List (Key × D)} {ks : List (Key × V)}, RpK K B kvs ks → RpK K B (kvs ++ [(k, d)]) (ks ++ [(k, v)])
  | [], ks, h => by rw [show ks = [] from h]; exact ⟨v, [], rfl, hv, rfl⟩
  | (k', d') :: r, ks, ⟨x, t, e, h1, h⟩ => by rw [e]; exact ⟨x, _, rfl, h1, RpK.snoc hv h⟩
theorem RpK.repl {k : Key} {d : D} {v : V} (hv : Rp K B d v) : ∀ {kvs : List (Key × D)} {ks : List (Key × V)}, RpK K B kvs ks → RpK K B (kvs.map fun kv => if kv.1 = k then (kv.1, d) else kv) (ks.map fun kv => if kv.1 = k then (kv.1, v) else kv)
  | [], ks, h => by rw [show ks = [] from h]; exact rfl
  | (k', d') :: r, ks, ⟨x, t, e, h1, h⟩ => by
    rw [e, List.map_cons, List.map_cons]
    by_cases c : k' = k
    · rw [if_pos c, if_pos c]
      exact ⟨v, _, rfl, hv, RpK.repl hv h⟩
    · rw [if_neg c, if_neg c]
      exact ⟨x, _, rfl, h1, RpK.repl hv h⟩
theorem RpK.put {k : Key} {d : D} {v : V} {kvs : List (Key × D)} {ks : List (Key × V)} (h : RpK K B kvs ks) (hv : Rp K B d v) : RpK K B (putD kvs k d) (putK ks k v) := by
  unfold putD putK
  rw [h.any]
  split
  · exact h.repl hv
  · exact h.snoc hv
theorem RpK.val {k : Key} : ∀ {kvs : List (Key × D)} {ks : List (Key × V)}, RpK K B kvs ks → (∀ d, valD kvs k = some d → ∃ v, valV ks k = some v ∧ Rp K B d v) ∧ (valD kvs k = none → valV ks k = none)
  | [], ks, h => by
    rw [show ks = [] from h]
    exact ⟨fun d e => (by cases e), fun _ => rfl⟩
  | (k', d') :: r, ks, ⟨x, t, e, h1, h⟩ => by
    rw [e]
    by_cases c : k' = k
    · rw [valV_pos (p := (k', x)) c]
      have e2 : valD ((k', d') :: r) k = some d' := by simp [valD, List.find?_cons, c]
      rw [e2]
      exact ⟨fun d q => (by cases q; exact ⟨x, rfl, h1⟩), fun q => (by cases q)⟩
    · rw [valV_neg (p := (k', x)) c]
      have e2 : valD ((k', d') :: r) k = valD r k := by simp [valD, List.find?_cons, c]
      rw [e2]
      exact RpK.val h
theorem RpK.merge : ∀ {more : List (Key × D)} {ms : List (Key × V)} {kvs : List (Key × D)} {ks : List (Key × V)}, RpK K B more ms → RpK K B kvs ks → RpK K B (mergeD kvs more) (mergeK ks ms)
  | [], ms, kvs, ks, h, h0 => by rw [show ms = [] from h]; exact h0
  | (k, d) :: r, ms, kvs, ks, ⟨x, t, e, h1, h⟩, h0 => by
    rw [e]
    show RpK K B (mergeD (putD kvs k d) r) (mergeK (putK ks k x) t)
    exact RpK.merge h (h0.put h1)
theorem putD_new {kvs : List (Key × D)} {k : Key} {d : D} (h : ∀ p, p ∈ kvs → p.1 ≠ k) : putD kvs k d = kvs ++ [(k, d)] := by
  unfold putD
  rw [if_neg]
  intro z
  rw [List.any_eq_true] at z
  obtain ⟨p, hp, e⟩ := z
  exact h p hp (of_decide_eq_true e)
/-- pairs of distinct keys, merged: they themselves -/
theorem mergeD_new : ∀ {more kvs : List (Key × D)}, (∀ p, p ∈ kvs → ∀ q, q ∈ more → p.1 ≠ q.1) → more.Pairwise (fun p q => p.1 ≠ q.1) → mergeD kvs more = kvs ++ more
  | [], kvs, _, _ => by rw [List.append_nil]; rfl
  | (k, d) :: r, kvs, h, hp => by
    rw [List.pairwise_cons] at hp
    show mergeD (putD kvs k d) r = _
    rw [putD_new fun p hpm => h p hpm _ List.mem_cons_self, mergeD_new (kvs := kvs ++ [(k, d)]) (fun p hpm q hq => ?_) hp.2, List.append_assoc]
    · rfl
    · rcases List.mem_append.mp hpm with h1 | h1
      · exact h p h1 q (List.mem_cons_of_mem _ hq)
      · rw [List.mem_singleton.mp h1]
        exact hp.1 q hq
end
section
variable {X : Cx} {K : PySem.W.Frag} {e a b c : Expr} {env : Env_} {k : D → Env_ → Prop} {km : MO → Env_ → Prop} {k4 : K4} {pos p : Pos}
variable {M0 B B1 M : Hp} {σ : L2.St}
theorem pairs_rp : ∀ {kvs : List (Key × D)} {xs : List V}, RpA K B (kvs.map fun p => .tup [kD p.1, p.2]) xs → ∃ (ps : List Addr) (ks : List (Key × V)), xs = ps.map V.ref ∧ Paired (fun p (kv : Key × V) => SqT K B p [kV kv.1, kv.2]) ps ks ∧ RpK K B kvs ks
  | [], xs, h => by
    rw [show xs = [] from h]
    exact ⟨[], [], rfl, .nil, rfl⟩
  | (k, d) :: r, xs, ⟨x, t, e, hx, h⟩ => by
    obtain ⟨ps, ks, e1, h1, h2⟩ := pairs_rp (kvs := r) h
    obtain ⟨ad, ys, rfl, hs, y1, t1, e2, hy1, y2, t2, e3, hy2, e4⟩ := hx
    have e4 : t2 = [] := e4
    have hy1 : y1 = kV k := hy1
    subst e4 e3 hy1 e2
    refine ⟨ad :: ps, (k, y2) :: ks, by rw [e, e1]; rfl, .cons hs.sq h1, y2, ks, rfl, hy2, h2⟩
/-- dict([(key, value), ..]) -/
theorem em_dictL (hm : X.mg "dict" = none) (h : EE X e env fun d env' => ∃ kvs : List (Key × D), d = .lst (kvs.map fun p => .tup [kD p.1, p.2]) ∧ km (.dK (mergeD [] kvs)) env') (hc : X.calm = true := by rfl) (hg : Gl X "dict" := by rfl) (he : starEach (e :: []) X.env = (false, eval e X.env) :: starEach [] X.env := by rfl) (hpl : (backTo pos (starEach [] X.env)).any (·.1) = false := by rfl) : EM X (.Call (.Name "dict" p) [e] [] pos) env km :=
  .of (pe_callTy (call_dictP hc) hg hm (by decide +kernel) (pa_cons pe_can pa_nil he) (by decide) (by decide) he hpl) fun M0 B M σ c Q hQ => h M0 B M σ c _ fun v H ⟨d, env', B', M', e1, c', sm, r, kvs, e2, q⟩ => by
    subst e1 e2
    obtain ⟨ad, xs, rfl, hs, hr⟩ := r
    obtain ⟨ps, ks, rfl, h1, h2⟩ := pairs_rp hr
    refine ⟨ad, ps, ks, rfl, sqL_same c'.same hs, ?_, fun p hp => hQ _ _ ((PostM.new (mo := .dK (mergeD [] kvs)) c' hp ⟨_, rfl, RpK.merge h2 rfl⟩ q).back sm)⟩
    exact L2.Paired.mapP h1 fun a b hx => sqT_same c'.same hx
/-- x[b], x a dict of one's own in slot i -/
theorem ee_dgetX (i : Nat) {x : Str} {pn : Pos} {ad : Addr} {mo0 : MO} (hu : X.A.units + 1 < cLine) (hi0 : env[i]? = some (.mu ad mo0)) (h : EE X b env fun d2 env2 => ∃ kvs ky d, env2[i]? = some (.mu ad (.dK kvs)) ∧ d2 = kD ky ∧ valD kvs ky = some d ∧ k d env2) (hs : NoSl b := by exact fun _ _ => rfl)
    (hN : X.N[i]? = some x := by rfl) (hv : Vis X.env.scope x := by first | exact Or.inl rfl | exact Or.inr (Or.inl rfl) | exact Or.inr (Or.inr rfl)) (hd : (x == ("__debug__" : Str)) = false := by decide) (hcd : (x == ("__classdict__" : Str)) = false := by decide) : EE X (.Subscript (.Name x pn) b pos) env k :=
  .of (pe_dget hu (pe_var hN hv hd hcd) pe_can hs) fun M0 B M σ c Q hQ => by
    obtain ⟨s0, hs0, es0, o0, ho0, hr0⟩ := c.slot i _ hi0
    refine ⟨mo0.val ad, by rw [hs0, es0], h M0 B M σ c _ fun v2 H ⟨d2, env2, B2, M2, e2, c2, s2, r2, kvs, ky, d, hi2, e3, hj, q2⟩ => ?_⟩
    subst e2 e3; cases r2
    obtain ⟨s1, hs1, es1, o1, ho1, ks, rfl, hr⟩ := c2.slot i _ hi2
    obtain ⟨v, hv, rv⟩ := hr.val.1 d hj
    exact ⟨ad, v, c.valeq hi0 c2 hi2, by rw [← hv]; exact DGet.k (J_M ho1), hQ _ _ ((PostD.now c2 rv q2).back s2)⟩
end
section
variable {X : Cx} {K : PySem.W.Frag} {env : Env_} {k : D → Env_ → Prop} {B : Hp}
def isNonD : D → Bool
  | .v .non => true
  | _ => false
theorem isNonD_ok {d : D} {v : V} (r : Rp K B d v) : decide (v = .non) = isNonD d := by
  match d, r with
  | .v x, r =>
    cases r
    cases v <;> first | rfl | exact decide_eq_false (fun z => by cases z)
  | .tup _, ⟨a, xs, e, _⟩ => rw [e]; exact decide_eq_false (fun z => by cases z)
  | .wt _, ⟨a, xs, e, _⟩ => rw [e]; exact decide_eq_false (fun z => by cases z)
  | .lst _, ⟨a, xs, e, _⟩ => rw [e]; exact decide_eq_false (fun z => by cases z)
  | .dct _, ⟨a, xs, o, e, _⟩ => rw [e]; exact decide_eq_false (fun z => by cases z)
  | .dti _, ⟨a, xs, o, e, _⟩ => rw [e]; exact decide_eq_false (fun z => by cases z)
theorem co_isD {d : D} (q : k (Bl (isNonD d)) env) : CO X .Is d Nn env k := .of op_isN fun M0 B M σ c v1 v2 r1 r2 Q hQ => by
  cases r2
  exact ⟨rfl, by rw [isNonD_ok r1]; exact hQ _ _ (.nowA c q)⟩
theorem co_notD {d : D} (q : k (Bl (!isNonD d)) env) : CO X .IsNot d Nn env k := .of op_notN fun M0 B M σ c v1 v2 r1 r2 Q hQ => by
  cases r2
  exact ⟨rfl, by rw [isNonD_ok r1]; exact hQ _ _ (.nowA c q)⟩
end
end Sy
namespace Sy
open PySem PySem.Spec PyProof.Rows L2
/-! ### sorted(xs) of a list of pairs of ints -/
def pLe (p q : Int × Int) : Bool := decide (p.1 < q.1 ∨ (p.1 = q.1 ∧ p.2 ≤ q.2))
def pEnc (p : Int × Int) : PyData := .tuple [.int p.1, .int p.2]
def pD (p : Int × Int) : D := .tup [I p.1, I p.2]
def rSortedP (K : PySem.W.Frag) : List V → Hp → VK → Prop := fun vs H Q => ∃ (a : Addr) (xs : List V) (ps : List (Int × Int)) (R : V → Int × Int → Prop), vs = [.ref a] ∧ SqL K H a xs ∧ Paired R xs ps ∧ (∀ v p, R v p → Dp K H v (pEnc p)) ∧ ps.length ≤ 1000 ∧
  ∀ (ys : List V) (l : Addr), H l = none → Paired R ys (ps.mergeSort pLe) → Q (.ref l) (upd H l (.lst ys))
section
variable {X : Cx}
theorem each_of {R : V → Int × Int → Prop} : ∀ {its : List Value} {xs : List V} {ps : List (Int × Int)}, Vals xs its → Paired R xs ps → PySem.W.EachIs (fun u p => ∃ v, RelV v u ∧ R v p) its ps
  | _, _, _, .nil, .nil => .nil
  | _, _, _, .cons r t, .cons h h2 => .cons ⟨_, r, h⟩ (each_of t h2)
theorem of_each {R : V → Int × Int → Prop} : ∀ {its : List Value} {ps : List (Int × Int)}, PySem.W.EachIs (fun u p => ∃ v, RelV v u ∧ R v p) its ps → ∃ ys : List V, Vals ys its ∧ Paired R ys ps
  | _, _, .nil => ⟨[], .nil, .nil⟩
  | _, _, .cons ⟨v, r, h⟩ t => by
    obtain ⟨ys, h1, h2⟩ := of_each t
    exact ⟨v :: ys, .cons r h1, .cons h h2⟩
theorem pLe_eq : PySem.W.dataLe false pEnc = pLe := by
  have := PySem.W.dataLe_ii (β := Int × Int) (fun p => p.1) (fun p => p.2)
  exact this
theorem cr_sortedP (hu : X.A.units + 64 < cLine) : CallR X (.builtin "sorted") (rSortedP X.K) := by
  intro pins s σ H vs us Q I r h
  obtain ⟨a, xs, ps, R, rfl, hs, hR, hD, h1000, q⟩ := h
  obtain ⟨its, rv, pl, _⟩ := I.list hs
  rw [Vals.ref1 r]
  have e := each_of rv hR
  refine PySem.W.sorted_data (enc := pEnc) (R := fun u p => ∃ v, RelV v u ∧ R v p) pl.isList e (e.mono fun u p ⟨v, r1, r2⟩ => Dp.reads I _ v u (hD v p r2) r1) (PySem.W.AllAlike.of fun b b' => by simp [pEnc, PySem.W.alike, PySem.W.alikeAll]) (PySem.W.Sortable.tuples fun b => ⟨_, _, rfl⟩) (by rw [sizeLine_eq]; omega) (fun b _ => ?_) fun out ho eo => ?_
  · have : (pEnc b).depth ≤ 1 := by simp [pEnc, PyData.depth, PyData.depthAll]
    omega
  · rw [pLe_eq] at eo
    obtain ⟨ys, h1, h2⟩ := of_each eo
    obtain ⟨ep, he'⟩ := PyProof.Rows.sortedAll_at s.heap its out.toArray
    have hlen : ys.length ≤ sizeLine := by rw [h1.length, ho, sizeLine_eq]; omega
    exact ⟨.ref _, upd H (s.heap.objs.size + 1) (.lst ys), I.laid (t' := s.toks) (fun _ _ => PyProof.Rows.sortedAll_old) (Nat.le_succ _) ⟨hlen, out, ep, h1, he'⟩, rfl, q ys _ (I.hok.fresh (Nat.le_succ _)) h2⟩
end
section
variable {X : Cx} {K : PySem.W.Frag} {e : Expr} {env : Env_} {km : MO → Env_ → Prop} {pos p : Pos} {B : Hp}
theorem pD_paired : ∀ {ps : List (Int × Int)} {xs : List V}, RpA K B (ps.map pD) xs → Paired (fun v p => Rp K B (pD p) v) xs ps
  | [], xs, h => by rw [show xs = [] from h]; exact .nil
  | p :: ps, xs, ⟨x, t, e, h1, h2⟩ => by rw [e]; exact .cons h1 (pD_paired h2)
theorem paired_pD : ∀ {ps : List (Int × Int)} {xs : List V}, Paired (fun v p => Rp K B (pD p) v) xs ps → RpA K B (ps.map pD) xs
  | [], _, .nil => rfl
  | p :: ps, _, .cons h1 h2 => ⟨_, _, rfl, h1, paired_pD h2⟩
theorem pD_py (p : Int × Int) : (pD p).py = pEnc p := rfl
/-- sorted(e), a list of pairs of ints -/
theorem em_sortedP (hm : X.mg "sorted" = none) (hu : X.A.units + 64 < cLine) (h : EL X e env fun ds env' => ∃ ps : List (Int × Int), ds = ps.map pD ∧ ps.length ≤ 1000 ∧ km (.lst ((ps.mergeSort pLe).map pD)) env') (hg : Gl X "sorted" := by rfl) (he : starEach (e :: []) X.env = (false, eval e X.env) :: starEach [] X.env := by rfl) (hpl : (backTo pos (starEach [] X.env)).any (·.1) = false := by rfl) : EM X (.Call (.Name "sorted" p) [e] [] pos) env km :=
  .of (pe_callB (cr_sortedP hu) hg hm (by decide +kernel) (pa_cons pe_can pa_nil he) (by decide) (by decide) he hpl) fun M0 B M σ c Q hQ => h M0 B M σ c _ fun v H ⟨ad, xs, ds, env', B', M', e1, e2, c', sm, hs, hr, ps, e3, hl, q⟩ => by
    subst e1 e2 e3
    refine ⟨ad, xs, ps, fun v p => Rp X.K B' (pD p) v, rfl, hs, pD_paired hr, fun v p r => Rp.dp c'.same (pD p) v ⟨trivial, trivial, trivial⟩ r, hl, fun ys l hl2 hp => hQ _ _ ((PostM.newL c' hl2 (paired_pD hp) q).back sm)⟩
end
/-! ### x == e, x != e, x a list of one's own in slot i that goes on -/
section
variable {X : Cx} {b : Expr} {env : Env_} {k : D → Env_ → Prop} {kb : Bool → Env_ → Prop} {pos p : Pos}
theorem ee_neX (i : Nat) {x : Str} {pn : Pos} {ad : Addr} {mo0 : MO} (hu : X.A.units + 64 < cLine) (hi0 : env[i]? = some (.mu ad mo0)) (h : EE X b env fun d2 env2 => ∃ ds, env2[i]? = some (.mu ad (.lst ds)) ∧ (D.lst ds).eqk ∧ d2.eqk ∧ (D.lst ds).dep ≤ 64 ∧ d2.dep ≤ 64 ∧ ∀ v, (v = true ↔ D.lst ds ≠ d2) → k (Bl v) env2)
    (hm : behindInMarks .NotEq b = false := by first | exact nomark _ | rfl) (hN : X.N[i]? = some x := by rfl) (hv : Vis X.env.scope x := by first | exact Or.inl rfl | exact Or.inr (Or.inl rfl) | exact Or.inr (Or.inr rfl)) (hd : (x == ("__debug__" : Str)) = false := by decide) (hcd : (x == ("__classdict__" : Str)) = false := by decide) : EE X (.Compare (.Name x pn) [.NotEq] [b] pos) env k :=
  .of (pe_cmpR (op_neD hu) (pe_var hN hv hd hcd) pe_can hm) fun M0 B M σ c Q hQ => by
    obtain ⟨s0, hs0, es0, o0, ho0, hr0⟩ := c.slot i _ hi0
    refine ⟨mo0.val ad, by rw [hs0, es0], h M0 B M σ c _ fun v2 H ⟨d2, env2, B2, M2, e2, c2, s2, r2, ds, hi2, k1, k2, p1, p2, q⟩ => ?_⟩
    rw [c.valeq hi0 c2 hi2]
    subst e2
    obtain ⟨s1, hs1, es1, o1, ho1, xs, rfl, hr⟩ := c2.slot i _ hi2
    refine ⟨(D.lst ds).py, d2.py, .lst (SqL.of (J_M ho1)) (RpA.dp c2.same ds xs k1 hr), Rp.dp c2.same d2 v2 k2 r2, eqk_shaped k1 p1, eqk_shaped k2 p2, hQ _ _ ((PostD.nowA c2 (q _ ?_)).back s2)⟩
    have := eqv_iff (D.lst ds) d2 k1 k2
    cases z : PyData.eqv (D.lst ds).py d2.py with
    | true => exact ⟨fun w => (by cases w), fun w => (w (this.mp z)).elim⟩
    | false => exact ⟨fun _ w => (by rw [this.mpr w] at z; cases z), fun _ => rfl⟩
theorem eb_neX (i : Nat) {x : Str} {pn : Pos} {ad : Addr} {mo0 : MO} (hu : X.A.units + 64 < cLine) (hi0 : env[i]? = some (.mu ad mo0)) (h : EE X b env fun d2 env2 => ∃ ds, env2[i]? = some (.mu ad (.lst ds)) ∧ (D.lst ds).eqk ∧ d2.eqk ∧ (D.lst ds).dep ≤ 64 ∧ d2.dep ≤ 64 ∧ ∀ v, (v = true ↔ D.lst ds ≠ d2) → kb v env2)
    (hm : behindInMarks .NotEq b = false := by first | exact nomark _ | rfl) (hN : X.N[i]? = some x := by rfl) (hv : Vis X.env.scope x := by first | exact Or.inl rfl | exact Or.inr (Or.inl rfl) | exact Or.inr (Or.inr rfl)) (hd : (x == ("__debug__" : Str)) = false := by decide) (hcd : (x == ("__classdict__" : Str)) = false := by decide) : EB X (.Compare (.Name x pn) [.NotEq] [b] pos) env kb :=
  .of (pt_cmpR (op_neD hu) (pe_var hN hv hd hcd) pe_can hm) fun M0 B M σ c Q hQ => by
    obtain ⟨s0, hs0, es0, o0, ho0, hr0⟩ := c.slot i _ hi0
    refine ⟨mo0.val ad, by rw [hs0, es0], h M0 B M σ c _ fun v2 H ⟨d2, env2, B2, M2, e2, c2, s2, r2, ds, hi2, k1, k2, p1, p2, q⟩ => ?_⟩
    rw [c.valeq hi0 c2 hi2]
    subst e2
    obtain ⟨s1, hs1, es1, o1, ho1, xs, rfl, hr⟩ := c2.slot i _ hi2
    refine ⟨(D.lst ds).py, d2.py, .lst (SqL.of (J_M ho1)) (RpA.dp c2.same ds xs k1 hr), Rp.dp c2.same d2 v2 k2 r2, eqk_shaped k1 p1, eqk_shaped k2 p2, _, rfl, hQ _ _ ((PostB.now c2 (q _ ?_)).back s2)⟩
    have := eqv_iff (D.lst ds) d2 k1 k2
    cases z : PyData.eqv (D.lst ds).py d2.py with
    | true => exact ⟨fun w => (by cases w), fun w => (w (this.mp z)).elim⟩
    | false => exact ⟨fun _ w => (by rw [this.mpr w] at z; cases z), fun _ => rfl⟩
end
end Sy
namespace Sy
open PySem PySem.Spec PyProof.Rows L2
/-! ### zip of tuples -/
section
variable {X : Cx} {K : PySem.W.Frag} {e a b c tg iter : Expr} {env : Env_} {k : List D → (Env_ → Prop) → Env_ → Prop} {km : MO → Env_ → Prop} {pos p p2 q : Pos}
variable {M0 B B1 M : Hp} {σ : L2.St}
theorem pair2_rp {B2 M2 : Hp} {T : Addr} {x y : V} {d1 d2 : D} (hd : Dis B2 M2) (hT : J B2 M2 T = none) (r1 : Rp K B2 d1 x) (r2 : Rp K B2 d2 y) : ∃ B3, upd (J B2 M2) T (.tup [x, y]) = J B3 M2 ∧ Same B2 B3 ∧ Dis B3 M2 ∧ Rp K B3 (.wt [d1, d2]) (.ref T) := by
  obtain ⟨h1, h2⟩ := J_none hT
  refine ⟨_, upd_JB h1, same_new h2, fun a u q => ?_, T, _, rfl, SqT.of upd_same, _, _, rfl, Rp.mono (same_new h2) _ _ r1, _, _, rfl, Rp.mono (same_new h2) _ _ r2, rfl⟩
  rw [upd_ne (fun z => by rw [z, h1] at q; cases q)]
  exact hd a u q
theorem ei_zipT {elts : List Expr} {kk : Nat} {tpos : Pos} (hm : X.mg "zip" = none) (h : EE X a env fun d env1 => ∃ ds, d = .tup ds ∧ EE X b env1 fun d2 env2 => ∃ es, d2 = .tup es ∧ k (zipD ds es) Still env2) (hg : Gl X "zip" := by rfl)
    (hs : starEach [a, b] X.env = (false, eval a X.env) :: starEach [b] X.env := by rfl) (hs2 : starEach [b] X.env = [(false, eval b X.env)] := by rfl) (hpl : (backTo pos (starEach [b] X.env)).any (·.1) = false := by rfl) : EI X (.Tuple elts kk tpos) (.Call (.Name "zip" p) [a, b] [] pos) env k :=
  .of (RZ.pi_zipA hg hm (pa_cons pe_can (pa_cons pe_can pa_nil hs2) hs) hs hpl) fun M0 B M σ c R hR => h M0 B M σ c _ fun v H ⟨d, env', B', M', e1, c', sm, r, ds, e2, q⟩ => by
  subst e1 e2
  refine q M0 B' M' σ c' _ fun v2 H ⟨d2, env2, B2, M2, e3, c2, s2, r2, es, e4, q2⟩ => ?_
  subst e3 e4
  obtain ⟨ad, xs, rfl, hs0, hr⟩ := Rp.mono s2 (.tup ds) v r
  obtain ⟨bd, ys, rfl, ht0, ht⟩ := r2
  have hs := hs0.sq
  have ht1 := ht0.sq
  refine ⟨ad, bd, xs, ys, rfl, .inr ⟨sqT_same c2.same hs, sqT_same c2.same ht1, hR _ _ ⟨zipD ds es, Still, env2, B2, M2, rfl, c2, sm.trans s2, fun M0 env3 B3 M3 σ3 s3 c3 _ => ⟨fun i hi => ?_, ?_, fun i d x H' hd hy => ?_⟩, q2⟩⟩⟩
  · rw [zipD_len, ← hr.length, ← ht.length] at hi
    have h1 : i < xs.length := by omega
    have h2 : i < ys.length := by omega
    exact ⟨xs, ys, xs[i], ys[i], sqT_same (s3.trans c3.same) hs, sqT_same (s3.trans c3.same) ht1, List.getElem?_eq_getElem h1, List.getElem?_eq_getElem h2⟩
  · refine ⟨xs, ys, sqT_same (s3.trans c3.same) hs, sqT_same (s3.trans c3.same) ht1, ?_⟩
    rw [zipD_len, ← hr.length, ← ht.length]
    omega
  · obtain ⟨T, x1, y1, rfl, hT, rfl, fx, fy⟩ := hy
    obtain ⟨d1, d3, hd1, hd3, rfl⟩ := zipD_at hd
    obtain ⟨v, hv, rv⟩ := (hr.mono s3).get hd1
    obtain ⟨u, hu, ru⟩ := (ht.mono s3).get hd3
    rw [fx xs (sqT_same (s3.trans c3.same) hs)] at hv
    rw [fy ys (sqT_same (s3.trans c3.same) ht1)] at hu
    cases hv
    cases hu
    exact pair2_rp c3.dis hT rv ru
/-! ### sorted(set(t)), a tuple of ints -/
def tSST (K : PySem.W.Frag) (ta : TE) : TE := fun σ H Q => ta σ H fun x H1 => ∃ (l : Addr) (ns : List Int), x = .ref l ∧ SqT K H1 l (ns.map V.int) ∧ ns.length < 64 ∧
  ∀ (out : List Int) (p : Addr), out.Pairwise (· < ·) → (∀ k : Int, k ∈ out ↔ k ∈ ns) → H1 p = none → Q (.ref p) (upd H1 p (.lst (out.map V.int)))
theorem pe_sst {ta : TE} (hg : Gl X "sorted") (hm : X.mg "sorted" = none) (hg2 : Gl X "set") (hm2 : X.mg "set" = none) (ha : PE X a ta) (hc : X.calm = true := by rfl)
    (na : starEach [a] X.env = (false, eval a X.env) :: starEach [] X.env := by rfl) : PE X (.Call (.Name "sorted" p) [.Call (.Name "set" p2) [a] [] q] [] pos) (tSST X.K ta) := by
  refine ⟨fun pins s σ H Q I h => ?_⟩
  refine Call_ (ld_blt I hg hm (show bootBuiltins "sorted" = some (.builtin "sorted") by decide +kernel) ?_)
  refine PyProof.Rows.callWith_builtin1 (PyProof.Rows.args_cons ?_ rfl) rfl rfl
  refine Call_ (ld_blt I hg2 hm2 boot_set ?_)
  refine PyProof.Rows.callWith_type1 (PyProof.Rows.args_cons (thn (ha.run pins s σ H _ I h) fun v s1 ⟨x, H1, I1, r1, q1⟩ => PyProof.Rows.args_nil ?_) na) na rfl
  obtain ⟨l, ns, rfl, hq, h64, q1⟩ := q1
  cases r1
  obtain ⟨its, r, pl, hz⟩ := I1.tuple hq
  refine call_set_tupI ns (I1.ok.hd hc) (show s1.heap.IsTuple l its.toArray from pl) (by simpa using RZ.intsAre_vals r) (by unfold scanBound; omega) fun h' tk cc hS hcc hk => ?_
  refine PyProof.Rows.args_nil ?_
  have I2 : Inv X pins σ H1 { s1 with heap := h', toks := tk } := I1.kept hk
  have hS2 : SetR X.w ({ s1 with heap := h', toks := tk } : Shared).heap s1.heap.objs.size (fun j => decide (j ∈ ns)) cc := hS
  generalize ({ s1 with heap := h', toks := tk } : Shared) = s2 at hS2 I2 ⊢
  refine sorted_set hS2 (I1.ok.hd hc) (by omega) fun s' p out c ns' k g o hp hg hi hs hm hl => ?_
  have hlen : (ns'.map V.int).length ≤ sizeLine := by rw [List.length_map, hl, sizeLine_eq]; omega
  have hn : H1 p = none := I2.hok.fresh hp
  have e : s' = { s2 with heap := s'.heap, gens := s'.gens, drawn := s'.drawn, toks := s'.toks } := by
    cases s'; cases s2; cases o; rfl
  have J : Inv X pins σ (upd H1 p (.lst (ns'.map V.int))) { s2 with heap := s'.heap, gens := s'.gens, drawn := s'.drawn, toks := s'.toks } :=
    I2.call (ch := []) (Un.laid k hp hn) (I2.hok.laid k hp ⟨hlen, out.toList, c, vals_of_ints hi, hg⟩) (by rw [g]; exact I2.bare) (fun _ z => nomatch z)
  rw [e]
  exact ⟨.ref p, _, J, rfl, q1 ns' p hs (fun k => by rw [hm k]; simp) hn⟩
theorem em_sstT (hm : X.mg "sorted" = none) (hm2 : X.mg "set" = none) (h : EE X a env fun d env' => ∃ ns : List Int, d = .tup (ns.map I) ∧ ns.length < 64 ∧ ∀ out : List Int, out.Pairwise (· < ·) → (∀ k, k ∈ out ↔ k ∈ ns) → km (.lst (out.map I)) env')
    (hg : Gl X "sorted" := by rfl) (hg2 : Gl X "set" := by rfl) (hc : X.calm = true := by rfl) (na : starEach [a] X.env = (false, eval a X.env) :: starEach [] X.env := by rfl) : EM X (.Call (.Name "sorted" p) [.Call (.Name "set" p2) [a] [] q] [] pos) env km :=
  .of (pe_sst hg hm hg2 hm2 pe_can hc na) fun M0 B M σ c Q hQ => h M0 B M σ c _ fun v H ⟨d, env', B', M', e1, c', sm, r, ns, e2, h64, q⟩ => by
  subst e1 e2
  obtain ⟨ad, xs, rfl, hs, hr⟩ := r
  obtain rfl := hr.ints_eq
  refine ⟨ad, ns, rfl, sqT_same c'.same hs.sq, h64, fun out p hp hm hn => hQ _ _ ?_⟩
  obtain ⟨h1, h2⟩ := J_none hn
  exact ⟨p, .lst (out.map I), .lst (out.map V.int), env', B', M', rfl, upd_JM, h1, h2, c', sm, ⟨_, rfl, RpA.ints⟩, q out hp hm⟩
end
/-! ### tuple(range(..)) -/
section
variable {X : Cx} {K : PySem.W.Frag} {e a b : Expr} {env : Env_} {k : D → Env_ → Prop} {pos p p2 pos2 : Pos} {te : L2.St → Hp → (Int → Int → Hp → Prop) → Prop}
def tTupRS (te : L2.St → Hp → (Int → Int → Hp → Prop) → Prop) : TE := fun σ H Q => te σ H fun i j H1 => RgOk i j ∧ NewT Q H1 (rgV i j)
theorem pe_tupRS (hc : X.calm = true) (hg : Gl X "tuple") (hm : X.mg "tuple" = none) (he : PRg X e te) (na : starEach [e] X.env = (false, eval e X.env) :: starEach [] X.env := by rfl) : PE X (.Call (.Name "tuple" p) [e] [] pos) (tTupRS te) := by
  refine ⟨fun pins s σ H Q I h => Call_ (ld_blt I hg hm boot_tuple (PyProof.Rows.callWith_type1 (args_cons (thn (he pins s σ H _ I h) fun x s1 hx => args_nil ?_) na) na))⟩
  obtain ⟨r, i, j, t, u, v, H1, ex, hr, I1, ⟨b1, b2, b3, b4, b5⟩, q⟩ := hx
  subst ex
  refine call_tuple_range (I1.ok.hd hc) hr (small_one b1 b2 b3 b4) (rangeSize_nat i j) b5 fun h2 tk acc hk hi => ?_
  have J : Inv X pins σ H1 { s1 with heap := h2, toks := tk } := I1.kept hk
  have ea : acc = acc.toList.toArray := (Array.toArray_toList).symm
  rw [ea]
  exact ep_newT (s := { s1 with heap := h2, toks := tk }) (tk := tk) J (vals_rg hi) (by rw [rgV_length, sizeLine_eq]; omega) q
theorem ee_tupR1 (hm : X.mg "tuple" = none) (hm2 : X.mg "range" = none) (h : EE X a env fun d env' => ∃ n, d = I n ∧ RgOk 0 n ∧ k (.tup (rgD 0 n)) env') (hc : X.calm = true := by rfl) (hg : Gl X "tuple" := by rfl) (hg2 : Gl X "range" := by rfl)
    (hs : starEach [a] X.env = (false, eval a X.env) :: starEach [] X.env := by rfl) (hpl : (backTo pos2 (starEach [] X.env)).any (·.1) = false := by rfl)
    (na : starEach [.Call (.Name "range" p2) [a] [] pos2] X.env = (false, eval (.Call (.Name "range" p2) [a] [] pos2) X.env) :: starEach [] X.env := by rfl) : EE X (.Call (.Name "tuple" p) [.Call (.Name "range" p2) [a] [] pos2] [] pos) env k :=
  .of (pe_tupRS hc hg hm (prg_1 hg2 hm2 pe_can hs) na) fun M0 B M σ c Q hQ => h M0 B M σ c _ fun v H ⟨d, env', B', M', e1, c', sm, r, n, e2, ok, q⟩ => by
    subst e1 e2; cases r
    exact ⟨n, rfl, ok, fun p o hp h1 h2 => hQ _ _ ((PostD.newT c' hp h1 h2 rg_rp q).back sm)⟩
theorem ee_tupR2 (hm : X.mg "tuple" = none) (hm2 : X.mg "range" = none) (h : EE X a env fun d env' => EE X b env' fun d2 env2 => ∃ x y, d = I x ∧ d2 = I y ∧ RgOk x y ∧ k (.tup (rgD x y)) env2) (hc : X.calm = true := by rfl) (hg : Gl X "tuple" := by rfl) (hg2 : Gl X "range" := by rfl)
    (hs : starEach [a, b] X.env = (false, eval a X.env) :: starEach [b] X.env := by rfl) (hs2 : starEach [b] X.env = (false, eval b X.env) :: starEach [] X.env := by rfl) (hpl : (backTo pos2 (starEach [b] X.env)).any (·.1) = false := by rfl)
    (na : starEach [.Call (.Name "range" p2) [a, b] [] pos2] X.env = (false, eval (.Call (.Name "range" p2) [a, b] [] pos2) X.env) :: starEach [] X.env := by rfl) : EE X (.Call (.Name "tuple" p) [.Call (.Name "range" p2) [a, b] [] pos2] [] pos) env k :=
  .of (pe_tupRS hc hg hm (prg_2 hg2 hm2 pe_can pe_can hs hs2 hpl) na) fun M0 B M σ c Q hQ => h M0 B M σ c _ fun v H ⟨d, env', B', M', e1, c', sm, r, q⟩ => by
    subst e1
    refine q M0 B' M' σ c' _ fun v2 H ⟨d2, env2, B2, M2, e2, c2, s2, r2, x, y, e3, e4, ok, q2⟩ => ?_
    subst e2 e3 e4; cases r; cases r2
    exact ⟨x, y, rfl, rfl, ok, fun p o hp h1 h2 => hQ _ _ ((PostD.newT c2 hp h1 h2 rg_rp q2).back (sm.trans s2))⟩
end
end Sy
namespace Sy
open PySem PySem.Spec PyProof.Rows L2
theorem cut_from {ds : List D} {i : Int} (h : 0 ≤ i) : cutD ds (some i) none = ds.drop i.toNat := by
  obtain ⟨m, rfl⟩ : ∃ m : Nat, i = (m : Int) := ⟨i.toNat, by omega⟩
  unfold cutD
  rw [HT.sIx_nat, HT.sIx_none, Int.toNat_natCast]
  by_cases hm : m ≤ ds.length
  · rw [Nat.min_eq_left hm, List.take_of_length_le (by rw [List.length_drop]; omega)]
  · rw [Nat.min_eq_right (by omega), List.drop_of_length_le (Nat.le_refl _), List.take_nil, List.drop_of_length_le (by omega)]
theorem cut_to {ds : List D} {i : Int} (h : 0 ≤ i) : cutD ds none (some i) = ds.take i.toNat := by
  obtain ⟨m, rfl⟩ : ∃ m : Nat, i = (m : Int) := ⟨i.toNat, by omega⟩
  unfold cutD
  rw [HT.sIx_nat, HT.sIx_none, Int.toNat_natCast, Nat.sub_zero, List.drop_zero]
  by_cases hm : m ≤ ds.length
  · rw [Nat.min_eq_left hm]
  · rw [Nat.min_eq_right (by omega), List.take_of_length_le (Nat.le_refl _), List.take_of_length_le (by omega)]
theorem cut_le {ds : List D} {l u : Option Int} : (Sy.cutD ds l u).length ≤ ds.length := by
  unfold Sy.cutD
  rw [List.length_take, List.length_drop]
  omega
end Sy
/-! ### lanes, in plain lists -/
namespace Ln
/-- the least of a list -/
def lo : List Int → Int
  | [] => 0
  | [x] => x
  | x :: y :: r => min x (lo (y :: r))
theorem lo_mem : ∀ {ns : List Int}, ns ≠ [] → lo ns ∈ ns
  | [], h => absurd rfl h
  | [x], _ => by simp [lo]
  | x :: y :: r, _ => by
    have ih := lo_mem (ns := y :: r) (by simp)
    show min x (lo (y :: r)) ∈ _
    rcases Int.le_total x (lo (y :: r)) with h | h
    · rw [Int.min_eq_left h]; exact List.mem_cons_self
    · rw [Int.min_eq_right h]; exact List.mem_cons_of_mem _ ih
theorem lo_le : ∀ {ns : List Int} {y : Int}, y ∈ ns → lo ns ≤ y
  | [], _, h => by cases h
  | [x], y, h => by
    rw [List.mem_singleton] at h
    rw [h]; exact Int.le_refl _
  | x :: z :: r, y, h => by
    show min x (lo (z :: r)) ≤ y
    rcases List.mem_cons.mp h with h | h
    · rw [h]; exact Int.min_le_left _ _
    · exact Int.le_trans (Int.min_le_right _ _) (lo_le h)
theorem lo_eq {ns : List Int} {m : Int} (h1 : m ∈ ns) (h2 : ∀ y, y ∈ ns → m ≤ y) : m = lo ns :=
  Int.le_antisymm (h2 _ (lo_mem fun z => by rw [z] at h1; cases h1)) (lo_le h1)
/-- the list, sorted -/
def srt (ns : List Int) : List Int := ns.mergeSort (fun a b => decide (a ≤ b))
theorem srt_perm (ns : List Int) : (srt ns).Perm ns := List.mergeSort_perm _ _
theorem srt_pw (ns : List Int) : (srt ns).Pairwise (· ≤ ·) := by
  have h := List.pairwise_mergeSort (le := fun a b : Int => decide (a ≤ b)) (fun a b c h1 h2 => by
    have h1 := of_decide_eq_true h1
    have h2 := of_decide_eq_true h2
    exact decide_eq_true (Int.le_trans h1 h2)) (fun a b => by
    rcases Int.le_total a b with h | h <;> simp [h]) ns
  exact h.imp fun h => of_decide_eq_true h
theorem pw_unique {xs ys : List Int} (h : xs.Perm ys) (h1 : xs.Pairwise (· ≤ ·)) (h2 : ys.Pairwise (· ≤ ·)) : xs = ys :=
  h.eq_of_pairwise (fun a b _ _ x y => Int.le_antisymm x y) h1 h2
theorem srt_eq {ns' ns : List Int} (h : ns'.Perm ns) (hp : ns'.Pairwise (· ≤ ·)) : ns' = srt ns :=
  pw_unique (h.trans (srt_perm ns).symm) hp (srt_pw ns)
theorem srt_len (ns : List Int) : (srt ns).length = ns.length := (srt_perm ns).length_eq
/-- the rules -/
inductive Rl where
  | old
  | rev
  | srt
  deriving DecidableEq
def Rl.str : Rl → PySem.Str
  | .old => "old"
  | .rev => "reversed"
  | .srt => "sorted"
/-- who drives out when the next leaves; who stays; how they go back -/
def outs (ns : List Int) : List Int := ns.drop (ns.idxOf (lo ns) + 1)
def ins (ns : List Int) : List Int := ns.take (ns.idxOf (lo ns))
def back : Rl → List Int → List Int
  | .old, o => o
  | .rev, o => o.reverse
  | .srt, o => (Ln.srt o).reverse
def next (r : Rl) (ns : List Int) : List Int := ins ns ++ back r (outs ns)
theorem back_len (r : Rl) (o : List Int) : (back r o).length = o.length := by
  cases r with
  | old => rfl
  | rev => exact List.length_reverse
  | srt => show (Ln.srt o).reverse.length = _; rw [List.length_reverse, srt_len]
theorem back_perm (r : Rl) (o : List Int) : (back r o).Perm o := by
  cases r with
  | old => exact List.Perm.refl _
  | rev => exact List.reverse_perm _
  | srt => exact (List.reverse_perm _).trans (srt_perm o)
theorem idx_lt {ns : List Int} (h : ns ≠ []) : ns.idxOf (lo ns) < ns.length := List.idxOf_lt_length_of_mem (lo_mem h)
theorem next_len {r : Rl} {ns : List Int} (h : ns ≠ []) : (next r ns).length + 1 = ns.length := by
  have := idx_lt h
  unfold next ins outs
  rw [List.length_append, back_len, List.length_take, List.length_drop]
  omega
theorem outs_len {ns : List Int} : (outs ns).length ≤ ns.length := by
  unfold outs
  rw [List.length_drop]
  omega
/-- the cars that drive out, leaving by leaving -/
def rowsN (r : Rl) : Nat → List Int → List (List Int)
  | 0, _ => []
  | n + 1, ns => outs ns :: rowsN r n (next r ns)
def rows (r : Rl) (ns : List Int) : List (List Int) := rowsN r ns.length ns
theorem rows_nil (r : Rl) : rows r [] = [] := rfl
theorem rows_cons {r : Rl} {ns : List Int} (h : ns ≠ []) : rows r ns = outs ns :: rows r (next r ns) := by
  unfold rows
  have := next_len (r := r) h
  rw [← this]
  rfl
theorem rowsN_len (r : Rl) : ∀ (n : Nat) (ns : List Int), (rowsN r n ns).length = n
  | 0, _ => rfl
  | n + 1, ns => by
    show (rowsN r n (next r ns)).length + 1 = n + 1
    rw [rowsN_len r n]
theorem rows_len (r : Rl) (ns : List Int) : (rows r ns).length = ns.length := rowsN_len r _ _
/-- how many drive out, leaving by leaving -/
def row (r : Rl) (ns : List Int) : List Int := (rows r ns).map fun o => (o.length : Int)
/-- 1 .. n -/
def upto (n : Nat) : List Int := (List.range n).map fun j : Nat => (j : Int) + 1
theorem upto_succ (n : Nat) : upto (n + 1) = upto n ++ [((n : Int) + 1)] := by
  unfold upto
  rw [List.range_succ, List.map_append]
  rfl
theorem upto_len (n : Nat) : (upto n).length = n := by unfold upto; rw [List.length_map, List.length_range]
theorem mem_upto {n : Nat} {x : Int} : x ∈ upto n ↔ 1 ≤ x ∧ x ≤ n := by
  unfold upto
  rw [List.mem_map]
  constructor
  · rintro ⟨j, hj, rfl⟩
    rw [List.mem_range] at hj
    omega
  · rintro ⟨h1, h2⟩
    exact ⟨(x - 1).toNat, by rw [List.mem_range]; omega, by omega⟩
theorem upto_pw (n : Nat) : (upto n).Pairwise (· ≤ ·) := by
  induction n with
  | zero => exact List.Pairwise.nil
  | succ n ih =>
    rw [upto_succ, List.pairwise_append]
    refine ⟨ih, List.pairwise_singleton _ _, fun a ha b hb => ?_⟩
    rw [mem_upto] at ha
    rw [List.mem_singleton] at hb
    omega
theorem upto_nodup (n : Nat) : (upto n).Nodup := by
  induction n with
  | zero => exact List.nodup_nil
  | succ n ih =>
    rw [upto_succ, List.nodup_append]
    refine ⟨ih, List.nodup_cons.mpr ⟨by simp, List.nodup_nil⟩, fun a ha b hb => ?_⟩
    rw [mem_upto] at ha
    rw [List.mem_singleton] at hb
    omega
/-- an order: the numbers 1 .. n, each once, n from 1 to 30 -/
def Ord (ns : List Int) : Prop := 1 ≤ ns.length ∧ ns.length ≤ 30 ∧ ns.Perm (upto ns.length)
theorem ins_perm {cs : List Int} {n : Nat} (s : Nat) (h : cs.Perm (upto n)) : (cs.take s ++ [((n : Int) + 1)] ++ cs.drop s).Perm (upto (n + 1)) := by
  rw [upto_succ]
  have h1 : (cs.take s ++ [((n : Int) + 1)] ++ cs.drop s).Perm (cs.take s ++ cs.drop s ++ [((n : Int) + 1)]) := by
    rw [List.append_assoc, List.append_assoc]
    exact List.Perm.append_left _ List.perm_append_comm
  rw [List.take_append_drop] at h1
  exact h1.trans (h.append_right _)
end Ln
namespace Ln
open PySem PySem.Spec L2
theorem rl_old {r : Rl} (h : decide (V.str r.str = V.str "old") = true) : r = .old := by
  cases r with
  | old => rfl
  | rev => exact absurd h (by decide +kernel)
  | srt => exact absurd h (by decide +kernel)
theorem rl_rev {r : Rl} (h : decide (V.str r.str = V.str "reversed") = true) : r = .rev := by
  cases r with
  | rev => rfl
  | old => exact absurd h (by decide +kernel)
  | srt => exact absurd h (by decide +kernel)
theorem rl_srt {r : Rl} (h : decide (V.str r.str = V.str "sorted") = true) : r = .srt := by
  cases r with
  | srt => rfl
  | old => exact absurd h (by decide +kernel)
  | rev => exact absurd h (by decide +kernel)
theorem rl_nold {r : Rl} (h : decide (V.str r.str = V.str "old") = false) : r ≠ .old := by
  rintro rfl
  exact absurd h (by decide +kernel)
theorem rl_nrev {r : Rl} (h : decide (V.str r.str = V.str "reversed") = false) : r ≠ .rev := by
  rintro rfl
  exact absurd h (by decide +kernel)
theorem rl_nsrt {r : Rl} (h : decide (V.str r.str = V.str "sorted") = false) : r ≠ .srt := by
  rintro rfl
  exact absurd h (by decide +kernel)
theorem rl_in (r : Rl) : (!inV (V.str r.str) [V.str "old", V.str "reversed", V.str "sorted"]) = false := by
  cases r <;> decide +kernel
end Ln
namespace Ln
/-- the records of what is left of a lane: i cars stand further out, m the least of them: number and place, from outside -/
def recs (i : Nat) (m : Int) : List Int → List (Int × Int)
  | [] => []
  | x :: r => if x < m then (x, (i : Int) + 1) :: recs (i + 1) x r else recs (i + 1) m r
/-- the records, in the order of leaving -/
def records (ns : List Int) : List (Int × Int) := (recs 0 ((ns.length : Int) + 1) ns).reverse
theorem recs_len : ∀ (i : Nat) (m : Int) (ns : List Int), (recs i m ns).length ≤ ns.length
  | _, _, [] => Nat.le_refl _
  | i, m, x :: r => by
    show (if x < m then (x, (i : Int) + 1) :: recs (i + 1) x r else recs (i + 1) m r).length ≤ r.length + 1
    split
    · exact Nat.succ_le_succ (recs_len _ _ r)
    · exact Nat.le_succ_of_le (recs_len _ _ r)
theorem records_len (ns : List Int) : (records ns).length ≤ ns.length := by
  unfold records
  rw [List.length_reverse]
  exact recs_len _ _ _
end Ln
namespace Sy
open PySem PySem.Spec PyProof.Rows L2
theorem enumD_ints {ns : List Int} {i : Nat} {d : D} (h : (enumD (ns.map I))[i]? = some d) : ∃ (hi : i < ns.length), d = .wt [I (i : Nat), I ns[i]] := by
  obtain ⟨d0, h1, rfl⟩ := enumD_at h
  rw [List.getElem?_map] at h1
  by_cases hi : i < ns.length
  · rw [List.getElem?_eq_getElem hi] at h1
    cases h1
    exact ⟨hi, rfl⟩
  · rw [List.getElem?_eq_none (by omega)] at h1
    cases h1
end Sy
namespace Ln
theorem rep_one {α : Type} (x : α) : ∀ n : Nat, (List.replicate n [x]).flatten = List.replicate n x
  | 0 => rfl
  | n + 1 => by
    rw [List.replicate_succ, List.flatten_cons, rep_one x n]
    rfl
/-- what is due of a lane by its records -/
def dueStep (n : Nat) (d : List Int) (q : Int × Int) : List Int := d.set (q.1 - 1).toNat ((n : Int) - q.2 - q.1 + 1)
def dueL (ns : List Int) : List Int := (records ns).foldl (dueStep ns.length) (List.replicate ns.length 0)
theorem dueStep_len {n : Nat} {d : List Int} {q : Int × Int} : (dueStep n d q).length = d.length := List.length_set
theorem fold_due_len {n : Nat} : ∀ (rs : List (Int × Int)) (d : List Int), (rs.foldl (dueStep n) d).length = d.length
  | [], _ => rfl
  | q :: rs, d => by
    show (rs.foldl (dueStep n) (dueStep n d q)).length = _
    rw [fold_due_len rs, dueStep_len]
theorem dueL_len (ns : List Int) : (dueL ns).length = ns.length := by
  unfold dueL
  rw [fold_due_len, List.length_replicate]
theorem recs_mem : ∀ {i : Nat} {m : Int} {ns : List Int} {q : Int × Int}, q ∈ recs i m ns → q.1 ∈ ns
  | _, _, [], _, h => by cases h
  | i, m, x :: r, q, h => by
    have h : q ∈ (if x < m then (x, (i : Int) + 1) :: recs (i + 1) x r else recs (i + 1) m r) := h
    split at h
    · rcases List.mem_cons.mp h with h | h
      · rw [h]; exact List.mem_cons_self
      · exact List.mem_cons_of_mem _ (recs_mem h)
    · exact List.mem_cons_of_mem _ (recs_mem h)
theorem records_mem {ns : List Int} {q : Int × Int} (h : q ∈ records ns) : q.1 ∈ ns := by
  unfold records at h
  exact recs_mem (List.mem_reverse.mp h)
theorem ord_mem {ns : List Int} (h : Ord ns) {c : Int} (hc : c ∈ ns) : 1 ≤ c ∧ c ≤ ns.length := mem_upto.mp (h.2.2.mem_iff.mp hc)
end Ln
namespace Sy
open PySem PySem.Spec PyProof.Rows L2
theorem ixN_pos {n : Nat} {j : Int} (h0 : 0 ≤ j) (h1 : j < n) : ixN n j = some j.toNat := by
  unfold ixN
  rw [if_pos h0, if_pos h1]
end Sy
namespace Ln
/-- n numbers from hi downward -/
def downs (hi : Int) (n : Nat) : List Int := (List.range n).map fun i : Nat => hi - i
theorem downs_len (hi : Int) (n : Nat) : (downs hi n).length = n := by unfold downs; rw [List.length_map, List.length_range]
theorem rgS_downs (hi : Int) (n : Nat) : Sy.rgS hi (-1) n = (downs hi n).map Sy.I := by
  unfold Sy.rgS downs
  rw [List.map_map]
  refine List.map_congr_left fun i _ => ?_
  show Sy.I (hi + (i : Int) * -1) = Sy.I (hi - i)
  congr 2
  omega
end Ln
theorem Sy.rgS_len (lo c : Int) (n : Nat) : (Sy.rgS lo c n).length = n := by unfold Sy.rgS; rw [List.length_map, List.length_range]
namespace Ln
/-- how often car c drives out; of each car -/
def dr (r : Rl) (ns : List Int) (c : Int) : Int := (((rows r ns).filter fun o => decide (c ∈ o)).length : Nat)
def drivenL (r : Rl) (ns : List Int) : List Int := (List.range ns.length).map fun j : Nat => dr r ns ((j : Int) + 1)
end Ln
namespace Ln
/-- the records that stand further in than c and leave earlier; the smaller ones that stand further in -/
def cntR (ns : List Int) (c : Int) : Int := (((records ns).filter fun q => decide (q.2 < ((ns.idxOf c : Nat) : Int) + 1) && decide (q.1 < c)).length : Nat)
def cntA (ns : List Int) (c : Int) : Int := (((ns.take (ns.idxOf c)).filter fun x => decide (x < c)).length : Nat)
theorem range_map_succ {α : Type} (f : Nat → α) (j : Nat) : (List.range (j + 1)).map f = (List.range j).map f ++ [f j] := by
  rw [List.range_succ, List.map_append]
  rfl
end Ln

namespace Sy
open PySem PySem.Spec PyProof.Rows L2
theorem enumD_map (ns : List Int) : enumD (ns.map I) = ns.zipIdx.map fun p => D.wt [I (p.2 : Nat), I p.1] := by
  unfold enumD
  rw [List.zipIdx_map, List.map_map]
  rfl
end Sy
namespace Ln
/-- how many pairs of a lane leave the inner one first -/
def pairsN : List Int → Nat
  | [] => 0
  | x :: r => (r.filter fun y => decide (x < y)).length + pairsN r
theorem pairs_sum : ∀ (ns : List Int) (j : Nat), ((ns.zipIdx j).map fun p => ((((ns.drop (p.2 + 1 - j)).filter fun y => decide (p.1 < y)).length : Nat) : Int)).sum = (pairsN ns : Nat)
  | [], _ => rfl
  | x :: r, j => by
    rw [List.zipIdx_cons, List.map_cons, List.sum_cons]
    have e : ((r.zipIdx (j + 1)).map fun p => (((((x :: r).drop (p.2 + 1 - j)).filter fun y => decide (p.1 < y)).length : Nat) : Int)) = (r.zipIdx (j + 1)).map fun p => ((((r.drop (p.2 + 1 - (j + 1))).filter fun y => decide (p.1 < y)).length : Nat) : Int) := by
      refine List.map_congr_left fun p hp => ?_
      have h1 := List.le_snd_of_mem_zipIdx hp
      obtain ⟨k, hk⟩ : ∃ k, p.2 + 1 - j = k + 1 := ⟨p.2 - j, by omega⟩
      rw [hk, List.drop_succ_cons]
      have e2 : p.2 + 1 - (j + 1) = k := by omega
      rw [e2]
    rw [e, pairs_sum r (j + 1)]
    have e3 : j + 1 - j = 1 := by omega
    show (((((x :: r).drop (j + 1 - j)).filter fun y => decide (x < y)).length : Nat) : Int) + _ = _
    rw [e3]
    show (((r.filter fun y => decide (x < y)).length : Nat) : Int) + _ = (((r.filter fun y => decide (x < y)).length + pairsN r : Nat) : Int)
    omega
end Ln

namespace Ln
/-- all orders of the numbers 1 .. n, grown car by car -/
def growA (n : Nat) (l : List Int) : List (List Int) := ((upto n).filter fun c => !decide (c ∈ l)).map fun c => l ++ [c]
def lanesA (n : Nat) : Nat → List (List Int)
  | 0 => [[]]
  | k + 1 => (lanesA n k).flatMap (growA n)
theorem growA_len (n : Nat) (l : List Int) : (growA n l).length ≤ n := by
  unfold growA
  rw [List.length_map]
  refine Nat.le_trans (List.length_filter_le ..) ?_
  rw [upto_len]
  exact Nat.le_refl _
theorem flatA_len (n : Nat) : ∀ ls : List (List Int), (ls.flatMap (growA n)).length ≤ ls.length * n
  | [] => by simp
  | l :: ls => by
    rw [List.flatMap_cons, List.length_append, List.length_cons, Nat.succ_mul]
    have := growA_len n l
    have := flatA_len n ls
    omega
theorem lanesA_len (n : Nat) : ∀ k : Nat, (lanesA n k).length ≤ n ^ k
  | 0 => by simp [lanesA]
  | k + 1 => by
    refine Nat.le_trans (flatA_len n _) ?_
    rw [Nat.pow_succ]
    exact Nat.mul_le_mul_right _ (lanesA_len n k)
end Ln

namespace Ln
/-- the pairs of which the inner one leaves first -/
def pairsL : List Int → List (Int × Int)
  | [] => []
  | x :: r => (r.filter fun y => decide (x < y)).map (fun y => (x, y)) ++ pairsL r
theorem pairsL_len : ∀ ns : List Int, (pairsL ns).length = pairsN ns
  | [] => rfl
  | x :: r => by
    show (((r.filter fun y => decide (x < y)).map fun y => (x, y)) ++ pairsL r).length = (r.filter fun y => decide (x < y)).length + pairsN r
    rw [List.length_append, List.length_map, pairsL_len r]
theorem pairsL_take {ns : List Int} {j : Nat} (h : j < ns.length) : ∃ l, (pairsL ns) = l ++ pairsL (ns.drop j) := by
  induction j generalizing ns with
  | zero => exact ⟨[], rfl⟩
  | succ j ih =>
    cases ns with
    | nil => simp at h
    | cons x r =>
      rw [List.length_cons] at h
      obtain ⟨l, e⟩ := ih (ns := r) (by omega)
      refine ⟨(r.filter fun y => decide (x < y)).map (fun y => (x, y)) ++ l, ?_⟩
      rw [List.append_assoc, List.drop_succ_cons, ← e]
      rfl
theorem pairsN_le : ∀ ns : List Int, pairsN ns ≤ ns.length * ns.length
  | [] => Nat.le_refl _
  | x :: r => by
    show (r.filter fun y => decide (x < y)).length + pairsN r ≤ (r.length + 1) * (r.length + 1)
    have h1 := List.length_filter_le (fun y => decide (x < y)) r
    have h2 := pairsN_le r
    rw [Nat.succ_mul, Nat.mul_succ]
    omega
end Ln
namespace Sy
open PySem PySem.Spec PyProof.Rows L2
theorem cut_init (l : List D) (x : D) : Sy.cutD (l ++ [x]) none (some (-1)) = l := by
  have h : HT.sIx (l ++ [x]).length (l ++ [x]).length (some (-1)) = l.length := by
    unfold HT.sIx
    simp
    omega
  unfold Sy.cutD
  rw [h, HT.sIx_none, Nat.sub_zero, List.drop_zero, List.take_left']
  rfl
end Sy
/-! ### the rule "sorted": what each leaving costs, by the records -/
namespace Ln
theorem row_nil (r : Rl) : row r [] = [] := rfl
theorem row_cons {r : Rl} {ns : List Int} (h : ns ≠ []) : row r ns = ((outs ns).length : Int) :: row r (next r ns) := by
  unfold row
  rw [rows_cons h, List.map_cons]
theorem idxOf_take_ne {a x : Int} : ∀ {A : List Int}, x ∈ A.take (A.idxOf a) → x ≠ a
  | [], h => by simp at h
  | b :: r, h => by
    by_cases e : b = a
    · subst e
      simp at h
    · rw [List.idxOf_cons, beq_false_of_ne e] at h
      rcases List.mem_cons.mp (show x ∈ b :: r.take (r.idxOf a) from h) with h | h
      · rw [h]; exact e
      · exact idxOf_take_ne h
theorem mem_take_of_idx {a : Int} {k : Nat} : ∀ {A : List Int}, a ∈ A → A.idxOf a < k → a ∈ A.take k
  | [], h, _ => by cases h
  | b :: r, h, hk => by
    obtain ⟨k', rfl⟩ : ∃ k', k = k' + 1 := ⟨k - 1, by omega⟩
    by_cases e : b = a
    · subst e
      exact List.mem_cons_self
    · rw [List.idxOf_cons, beq_false_of_ne e] at hk
      rw [List.take_succ_cons]
      exact List.mem_cons_of_mem _ (mem_take_of_idx ((List.mem_cons.mp h).resolve_left fun z => e z.symm) (Nat.lt_of_succ_lt_succ hk))
theorem idx_app_mem {a : Int} {A E : List Int} (h : a ∈ A) : (A ++ E).idxOf a = A.idxOf a := by
  rw [List.idxOf_append, if_pos h]
theorem idx_app_not {a : Int} {A E : List Int} (h : a ∉ A) : (A ++ E).idxOf a = A.length + E.idxOf a := by
  rw [List.idxOf_append, if_neg h]
  omega
theorem idx_split {a : Int} {A : List Int} (h : a ∈ A) : A = A.take (A.idxOf a) ++ a :: A.drop (A.idxOf a + 1) := by
  have hl := List.idxOf_lt_length_of_mem h
  have e : A[A.idxOf a] = a := List.getElem_idxOf hl
  have h1 := (List.take_append_drop (A.idxOf a) A).symm
  rw [List.drop_eq_getElem_cons hl, e] at h1
  exact h1
theorem next_perm {r : Rl} {ns : List Int} (h : ns ≠ []) : (lo ns :: next r ns).Perm ns := by
  have e := idx_split (lo_mem h)
  have h1 : (lo ns :: (ins ns ++ outs ns)).Perm ns := by
    conv => rhs; rw [e]
    exact List.perm_middle.symm
  exact (List.Perm.cons _ (List.Perm.append_left _ (back_perm r _))).trans h1
theorem srt_congr {xs ys : List Int} (h : xs.Perm ys) : srt xs = srt ys := srt_eq ((srt_perm xs).trans h) (srt_pw xs)
theorem srt_cons {r : Rl} {ns : List Int} (h : ns ≠ []) : srt ns = lo ns :: srt (next r ns) := by
  refine (srt_eq ((List.Perm.cons _ (srt_perm _)).trans (next_perm (r := r) h)) ?_).symm
  rw [List.pairwise_cons]
  refine ⟨fun y hy => lo_le ?_, srt_pw _⟩
  exact (next_perm (r := r) h).mem_iff.mp (List.mem_cons_of_mem _ ((srt_perm _).mem_iff.mp hy))
/-- along a list, the t-th at t -/
def tv (g : Nat → Int → Int) : Nat → List Int → List Int
  | _, [] => []
  | t, c :: r => g t c :: tv g (t + 1) r
theorem tv_congr {g h : Nat → Int → Int} : ∀ {l : List Int} {t : Nat}, (∀ t c, c ∈ l → g (t + 1) c = h t c) → tv g (t + 1) l = tv h t l
  | [], _, _ => rfl
  | c :: r, t, e => by
    show g (t + 1) c :: tv g (t + 1 + 1) r = h t c :: tv h (t + 1) r
    rw [e t c List.mem_cons_self, tv_congr fun t c hc => e t c (List.mem_cons_of_mem _ hc)]
theorem tv_len (g : Nat → Int → Int) : ∀ (t : Nat) (l : List Int), (tv g t l).length = l.length
  | _, [] => rfl
  | t, c :: r => by
    show (tv g (t + 1) r).length + 1 = r.length + 1
    rw [tv_len g]
theorem tv_get (g : Nat → Int → Int) : ∀ (t : Nat) (l : List Int) (j : Nat) (c : Int), l[j]? = some c → (tv g t l)[j]? = some (g (t + j) c)
  | _, [], _, _, h => by simp at h
  | t, c :: r, 0, c', h => by
    cases h
    rfl
  | t, c :: r, j + 1, c', h => by
    show (tv g (t + 1) r)[j]? = _
    rw [tv_get g (t + 1) r j c' h]
    congr 2
    omega
/-- c stands in A, and all that stand further in are greater -/
def lmin (A : List Int) (c : Int) : Prop := c ∈ A ∧ ∀ x, x ∈ A.take (A.idxOf c) → c < x
instance (A : List Int) (c : Int) : Decidable (lmin A c) := inferInstanceAs (Decidable (_ ∧ _))
def val (A : List Int) (m t : Nat) (c : Int) : Int := if lmin A c then (m : Int) - t - 1 - (A.idxOf c : Nat) else 0
theorem val_t {A : List Int} {m t : Nat} {c : Int} (h : lmin A c) : val A m t c = (m : Int) - t - 1 - (A.idxOf c : Nat) := if_pos h
theorem val_f {A : List Int} {m t : Nat} {c : Int} (h : ¬ lmin A c) : val A m t c = 0 := if_neg h
theorem val_step {A : List Int} {m t : Nat} {c : Int} : val A (m + 1) (t + 1) c = val A m t c := by
  by_cases h : lmin A c
  · rw [val_t h, val_t h]; omega
  · rw [val_f h, val_f h]
theorem srt_lt {ns : List Int} (h : ns.Nodup) : (srt ns).Pairwise (· < ·) := by
  have h1 : (srt ns).Nodup := (srt_perm ns).nodup_iff.mpr h
  have h2 := List.Pairwise.and (srt_pw ns) h1
  exact h2.imp fun ⟨a, b⟩ => by omega
theorem val_take {A : List Int} {m t : Nat} {c a : Int} (ha : a ∈ A) (hmin : ∀ x, x ∈ A → a ≤ x) (hc : c ≠ a) : val A (m + 1) (t + 1) c = val (A.take (A.idxOf a)) m t c := by
  rw [val_step]
  by_cases h : c ∈ A.take (A.idxOf a)
  · have hi : A.idxOf c = (A.take (A.idxOf a)).idxOf c := by
      conv => lhs; rw [← List.take_append_drop (A.idxOf a) A]
      exact idx_app_mem h
    have hlt : (A.take (A.idxOf a)).idxOf c < A.idxOf a := Nat.lt_of_lt_of_le (List.idxOf_lt_length_of_mem h) (by rw [List.length_take]; omega)
    have ht : (A.take (A.idxOf a)).take ((A.take (A.idxOf a)).idxOf c) = A.take (A.idxOf c) := by
      rw [List.take_take, ← hi, Nat.min_eq_left (by omega)]
    have hl : lmin A c ↔ lmin (A.take (A.idxOf a)) c := by
      unfold lmin
      rw [ht]
      exact ⟨fun x => ⟨h, x.2⟩, fun x => ⟨List.mem_of_mem_take h, x.2⟩⟩
    by_cases hL : lmin A c
    · rw [val_t hL, val_t (hl.mp hL), hi]
    · rw [val_f hL, val_f fun z => hL (hl.mpr z)]
  · rw [val_f (A := A.take _) fun z => h z.1]
    refine val_f fun z => ?_
    have hsp := idx_split ha
    have hle : ¬ A.idxOf c ≤ A.idxOf a := fun hle => by
      rcases Nat.lt_or_eq_of_le hle with h1 | h1
      · exact h (mem_take_of_idx z.1 h1)
      · have e1 : A[A.idxOf c]'(List.idxOf_lt_length_of_mem z.1) = c := List.getElem_idxOf _
        have e2 : A[A.idxOf a]'(List.idxOf_lt_length_of_mem ha) = a := List.getElem_idxOf _
        apply hc
        rw [← e1, ← e2]
        congr 1
    have := z.2 a (mem_take_of_idx ha (by omega))
    have := hmin c z.1
    omega
theorem row_split : ∀ (n : Nat) (A E : List Int), A.length + E.length = n → (A ++ E).Nodup → E.Pairwise (· > ·) → row .srt (A ++ E) = tv (val A n) 0 (srt (A ++ E))
  | 0, A, E, hn, _, _ => by
    obtain rfl : A = [] := List.eq_nil_of_length_eq_zero (by omega)
    obtain rfl : E = [] := List.eq_nil_of_length_eq_zero (by omega)
    show [] = tv _ 0 (srt [])
    have : srt [] = [] := by
      have := srt_len []
      exact List.eq_nil_of_length_eq_zero this
    rw [this]
    rfl
  | n + 1, A, E, hn, hnd, hE => by
    have hne : A ++ E ≠ [] := fun z => by
      have := congrArg List.length z
      simp only [List.length_append, List.length_nil] at this
      omega
    have hmem := lo_mem hne
    have hle : ∀ x, x ∈ A ++ E → lo (A ++ E) ≤ x := fun x hx => lo_le hx
    have hperm := next_perm (r := .srt) hne
    have hnd2 : (lo (A ++ E) :: next .srt (A ++ E)).Nodup := hperm.nodup_iff.mpr hnd
    have hlen := next_len (r := .srt) hne
    rw [row_cons hne, srt_cons (r := .srt) hne]
    show _ :: _ = val A (n + 1) 0 (lo (A ++ E)) :: tv (val A (n + 1)) (0 + 1) (srt (next .srt (A ++ E)))
    have hcne : ∀ c, c ∈ srt (next .srt (A ++ E)) → c ≠ lo (A ++ E) := fun c hc z => by
      rw [z] at hc
      exact (List.nodup_cons.mp hnd2).1 ((srt_perm _).mem_iff.mp hc)
    by_cases hA : lo (A ++ E) ∈ A
    · have hi : (A ++ E).idxOf (lo (A ++ E)) = A.idxOf (lo (A ++ E)) := idx_app_mem hA
      have hlt := List.idxOf_lt_length_of_mem hA
      have hout : outs (A ++ E) = A.drop (A.idxOf (lo (A ++ E)) + 1) ++ E := by
        unfold outs
        rw [hi, List.drop_append_of_le_length (by omega)]
      have hins : ins (A ++ E) = A.take (A.idxOf (lo (A ++ E))) := by
        unfold ins
        rw [hi, List.take_append_of_le_length (by omega)]
      have hnext : next .srt (A ++ E) = A.take (A.idxOf (lo (A ++ E))) ++ (srt (outs (A ++ E))).reverse := by
        show ins _ ++ (srt (outs _)).reverse = _
        rw [hins]
      have hnd3 : (next .srt (A ++ E)).Nodup := (List.nodup_cons.mp hnd2).2
      have hond : (outs (A ++ E)).Nodup := by
        unfold outs
        exact hnd.sublist (List.drop_sublist _ _)
      rw [List.length_append] at hlen
      have ih := row_split n (A.take (A.idxOf (lo (A ++ E)))) (srt (outs (A ++ E))).reverse (by rw [← List.length_append, ← hnext]; omega) (by rw [← hnext]; exact hnd3) (by
        rw [List.pairwise_reverse]
        exact srt_lt hond)
      rw [← hnext] at ih
      rw [ih]
      congr 1
      · have hl : lmin A (lo (A ++ E)) := ⟨hA, fun x hx => by
          have h1 := idxOf_take_ne hx
          have h2 := hle x (List.mem_append_left _ (List.mem_of_mem_take hx))
          omega⟩
        rw [val_t hl, hout, List.length_append, List.length_drop]
        omega
      · exact (tv_congr fun t c hc => val_take hA (fun x hx => hle x (List.mem_append_left _ hx)) (hcne c hc)).symm
    · have hEm : lo (A ++ E) ∈ E := (List.mem_append.mp hmem).resolve_left hA
      have hEne : E ≠ [] := fun z => by rw [z] at hEm; cases hEm
      obtain ⟨E1, e, rfl⟩ : ∃ E1 e, E = E1 ++ [e] := ⟨E.dropLast, E.getLast hEne, (List.dropLast_concat_getLast hEne).symm⟩
      rw [List.pairwise_append] at hE
      have he : lo (A ++ (E1 ++ [e])) = e := by
        rcases List.mem_append.mp hEm with h | h
        · have h1 := hE.2.2 _ h e (List.mem_singleton.mpr rfl)
          have h2 := hle e (by simp)
          omega
        · exact List.mem_singleton.mp h
      rw [he] at hA hcne
      have hE1 : e ∉ E1 := fun z => by
        have := hE.2.2 _ z e (List.mem_singleton.mpr rfl)
        omega
      have hi : (A ++ (E1 ++ [e])).idxOf e = A.length + E1.length := by
        rw [idx_app_not hA, idx_app_not hE1]
        simp
      have hout : outs (A ++ (E1 ++ [e])) = [] := by
        unfold outs
        rw [he, hi]
        refine List.drop_of_length_le ?_
        simp
        omega
      have hnext : next .srt (A ++ (E1 ++ [e])) = A ++ E1 := by
        show ins _ ++ (srt (outs _)).reverse = _
        rw [hout]
        have e0 : srt [] = [] := List.eq_nil_of_length_eq_zero (srt_len [])
        rw [e0, List.reverse_nil, List.append_nil]
        unfold ins
        rw [he, hi, ← List.append_assoc, List.take_append_of_le_length (by rw [List.length_append]; omega), List.take_of_length_le (by rw [List.length_append]; omega)]
      rw [List.length_append, List.length_singleton] at hn
      have hnd3 : (next .srt (A ++ (E1 ++ [e]))).Nodup := (List.nodup_cons.mp hnd2).2
      rw [hnext] at hnd3 hcne ⊢
      rw [row_split n A E1 (by omega) hnd3 hE.1]
      congr 1
      · rw [hout, he, val_f fun z => hA z.1]
        rfl
      · exact (tv_congr fun t c hc => val_step).symm
/-- a lane's costs -/
theorem row_srt {ns : List Int} (h : ns.Nodup) : row .srt ns = tv (val ns ns.length) 0 (srt ns) := by
  have := row_split ns.length ns [] (by simp) (by rw [List.append_nil]; exact h) List.Pairwise.nil
  rw [List.append_nil] at this
  exact this
theorem ord_nodup {ns : List Int} (h : Ord ns) : ns.Nodup := h.2.2.nodup_iff.mpr (upto_nodup _)
theorem ord_srt {ns : List Int} (h : Ord ns) : srt ns = upto ns.length := (srt_eq h.2.2.symm (upto_pw _)).symm
theorem upto_get {n j : Nat} (h : j < n) : (upto n)[j]? = some ((j : Int) + 1) := by
  unfold upto
  rw [List.getElem?_map, List.getElem?_range h]
  rfl
end Ln
namespace Ln
theorem recs_cons (i : Nat) (m x : Int) (r : List Int) : recs i m (x :: r) = if x < m then (x, (i : Int) + 1) :: recs (i + 1) x r else recs (i + 1) m r := rfl
theorem lmin_cons {x c : Int} {r : List Int} (h : x ≠ c) : lmin (x :: r) c ↔ c < x ∧ lmin r c := by
  unfold lmin
  rw [List.idxOf_cons, beq_false_of_ne h]
  show c ∈ x :: r ∧ (∀ y, y ∈ (x :: r).take (r.idxOf c + 1) → c < y) ↔ _
  rw [List.take_succ_cons]
  constructor
  · rintro ⟨h1, h2⟩
    exact ⟨h2 x List.mem_cons_self, (List.mem_cons.mp h1).resolve_left fun z => h z.symm, fun y hy => h2 y (List.mem_cons_of_mem _ hy)⟩
  · rintro ⟨h1, h2, h3⟩
    refine ⟨List.mem_cons_of_mem _ h2, fun y hy => ?_⟩
    rcases List.mem_cons.mp hy with e | hy
    · rw [e]; exact h1
    · exact h3 y hy
theorem lmin_self {x : Int} {r : List Int} : lmin (x :: r) x := by
  refine ⟨List.mem_cons_self, fun y hy => ?_⟩
  rw [List.idxOf_cons_self] at hy
  cases hy
/-- the records are those that stand further in than every smaller one -/
theorem mem_recs : ∀ {l : List Int} {i : Nat} {m : Int} {q : Int × Int}, q ∈ recs i m l ↔ lmin l q.1 ∧ q.1 < m ∧ q.2 = (i : Int) + (l.idxOf q.1 : Nat) + 1
  | [], i, m, q => by
    constructor
    · intro h; cases h
    · rintro ⟨⟨h, _⟩, _⟩; cases h
  | x :: r, i, m, q => by
    rw [recs_cons]
    by_cases hc : x = q.1
    · by_cases hm : x < m
      · rw [if_pos hm, List.mem_cons]
        constructor
        · rintro (h | h)
          · rw [h]
            refine ⟨lmin_self, hm, ?_⟩
            rw [List.idxOf_cons_self]
            show (i : Int) + 1 = (i : Int) + (0 : Nat) + 1
            omega
          · have := (mem_recs.mp h).2.1
            omega
        · rintro ⟨h1, h2, h3⟩
          left
          rw [← hc, List.idxOf_cons_self] at h3
          obtain ⟨a, b⟩ := q
          simp only at hc h3
          rw [h3, hc]
          simp
      · rw [if_neg hm]
        constructor
        · intro h
          have := (mem_recs.mp h).2.1
          omega
        · rintro ⟨h1, h2, h3⟩
          omega
    · have hi : (x :: r).idxOf q.1 = r.idxOf q.1 + 1 := by rw [List.idxOf_cons, beq_false_of_ne hc]; rfl
      rw [lmin_cons hc, hi]
      by_cases hm : x < m
      · rw [if_pos hm, List.mem_cons, mem_recs]
        constructor
        · rintro (h | ⟨h1, h2, h3⟩)
          · exact absurd (congrArg Prod.fst h).symm hc
          · exact ⟨⟨h2, h1⟩, by omega, by rw [h3]; push_cast; omega⟩
        · rintro ⟨⟨h1, h2⟩, h3, h4⟩
          exact .inr ⟨h2, h1, by rw [h4]; push_cast; omega⟩
      · rw [if_neg hm, mem_recs]
        constructor
        · rintro ⟨h1, h2, h3⟩
          exact ⟨⟨by omega, h1⟩, h2, by rw [h3]; push_cast; omega⟩
        · rintro ⟨⟨h1, h2⟩, h3, h4⟩
          exact ⟨h2, h3, by rw [h4]; push_cast; omega⟩
theorem recs_pw : ∀ (l : List Int) (i : Nat) (m : Int), (recs i m l).Pairwise fun a b => b.1 < a.1 ∧ a.2 < b.2
  | [], _, _ => List.Pairwise.nil
  | x :: r, i, m => by
    rw [recs_cons]
    split
    · rw [List.pairwise_cons]
      refine ⟨fun q hq => ?_, recs_pw r _ _⟩
      have h := mem_recs.mp hq
      exact ⟨h.2.1, by show (i : Int) + 1 < q.2; rw [h.2.2]; push_cast; omega⟩
    · exact recs_pw r _ _
theorem mem_records {ns : List Int} (h : Ord ns) {q : Int × Int} : q ∈ records ns ↔ lmin ns q.1 ∧ q.2 = (ns.idxOf q.1 : Nat) + 1 := by
  unfold records
  rw [List.mem_reverse, mem_recs]
  constructor
  · rintro ⟨h1, _, h2⟩
    exact ⟨h1, by omega⟩
  · rintro ⟨h1, h2⟩
    have := ord_mem h h1.1
    exact ⟨h1, by omega, by omega⟩
theorem records_ne (ns : List Int) : (records ns).Pairwise fun a b => a.1 ≠ b.1 := by
  unfold records
  rw [List.pairwise_reverse]
  exact (recs_pw ns _ _).imp fun h => by omega
theorem fold_off {n : Nat} {j : Nat} : ∀ {rs : List (Int × Int)} {d : List Int}, (∀ q, q ∈ rs → (q.1 - 1).toNat ≠ j) → (rs.foldl (dueStep n) d)[j]? = d[j]?
  | [], _, _ => rfl
  | q :: rs, d, h => by
    show (rs.foldl (dueStep n) (dueStep n d q))[j]? = _
    rw [fold_off fun q hq => h q (List.mem_cons_of_mem _ hq)]
    exact List.getElem?_set_ne (h q List.mem_cons_self)
theorem fold_at {n : Nat} {q : Int × Int} : ∀ {rs : List (Int × Int)} {d : List Int}, q ∈ rs → (∀ q, q ∈ rs → 1 ≤ q.1 ∧ q.1 ≤ n) → rs.Pairwise (fun a b => a.1 ≠ b.1) → d.length = n → (rs.foldl (dueStep n) d)[(q.1 - 1).toNat]? = some ((n : Int) - q.2 - q.1 + 1)
  | [], _, h, _, _, _ => by cases h
  | q0 :: rs, d, h, hb, hp, hl => by
    show (rs.foldl (dueStep n) (dueStep n d q0))[_]? = _
    rw [List.pairwise_cons] at hp
    have hb0 := hb q0 List.mem_cons_self
    rcases List.mem_cons.mp h with e | h
    · subst e
      rw [fold_off fun q' hq' => by
        have h1 := hp.1 q' hq'
        have h2 := hb q' (List.mem_cons_of_mem _ hq')
        omega]
      exact List.getElem?_set_self (by omega)
    · exact fold_at h (fun q hq => hb q (List.mem_cons_of_mem _ hq)) hp.2 (by rw [dueStep_len, hl])
theorem fold_off_mem {ns : List Int} (h : Ord ns) {q : Int × Int} (hq : q ∈ records ns) : 1 ≤ q.1 ∧ q.1 ≤ ns.length := ord_mem h (records_mem hq)
/-- each leaving's cost, by the records -/
theorem due_get {ns : List Int} (h : Ord ns) {j : Nat} (hj : j < ns.length) : (dueL ns)[j]? = some (val ns ns.length j ((j : Int) + 1)) := by
  unfold dueL
  by_cases hL : lmin ns ((j : Int) + 1)
  · have hq := (mem_records h (q := ((j : Int) + 1, (ns.idxOf ((j : Int) + 1) : Nat) + 1))).mpr ⟨hL, rfl⟩
    have := fold_at hq (fun q hq => fold_off_mem h hq) (records_ne ns) (List.length_replicate (n := ns.length) (a := (0 : Int)))
    have e : (((j : Int) + 1, ((ns.idxOf ((j : Int) + 1) : Nat) : Int) + 1) : Int × Int).1 - 1 = (j : Int) := by simp
    rw [e, Int.toNat_natCast] at this
    rw [this, val_t hL]
    congr 1
    simp only
    omega
  · rw [fold_off, val_f hL, List.getElem?_replicate, if_pos hj]
    intro q hq z
    have h1 := fold_off_mem h hq
    have h2 := ((mem_records h).mp hq).1
    have : q.1 = (j : Int) + 1 := by omega
    rw [this] at h2
    exact hL h2
theorem T1 {ns : List Int} (h : Ord ns) : row .srt ns = dueL ns := by
  rw [row_srt (ord_nodup h), ord_srt h]
  refine List.ext_getElem? fun j => ?_
  by_cases hj : j < ns.length
  · rw [due_get h hj, tv_get _ 0 _ j _ (upto_get hj), Nat.zero_add]
  · rw [List.getElem?_eq_none (by rw [tv_len, upto_len]; omega), List.getElem?_eq_none (by rw [dueL_len]; omega)]
/-- the sum of the costs of records -/
def rsum (n : Nat) (rs : List (Int × Int)) : Int := (rs.map fun q => (n : Int) - q.2 - q.1 + 1).sum
theorem sum_set : ∀ {d : List Int} {j : Nat} {v : Int}, d[j]? = some 0 → (d.set j v).sum = d.sum + v
  | [], _, _, h => by simp at h
  | x :: d, 0, v, h => by
    cases h
    show (v :: d).sum = ((0 : Int) :: d).sum + v
    rw [List.sum_cons, List.sum_cons]
    omega
  | x :: d, j + 1, v, h => by
    show (x :: d.set j v).sum = (x :: d).sum + v
    rw [List.sum_cons, List.sum_cons, sum_set (d := d) h]
    omega
theorem fold_sum {n : Nat} : ∀ {rs : List (Int × Int)} {d : List Int}, (∀ q, q ∈ rs → 1 ≤ q.1 ∧ q.1 ≤ n ∧ d[(q.1 - 1).toNat]? = some 0) → rs.Pairwise (fun a b => a.1 ≠ b.1) → (rs.foldl (dueStep n) d).sum = d.sum + rsum n rs
  | [], d, _, _ => by
    show d.sum = d.sum + 0
    omega
  | q :: rs, d, h, hp => by
    rw [List.pairwise_cons] at hp
    have hq := h q List.mem_cons_self
    show (rs.foldl (dueStep n) (dueStep n d q)).sum = _
    rw [fold_sum (fun q' hq' => ?_) hp.2]
    · unfold dueStep
      rw [sum_set hq.2.2]
      show _ = d.sum + (((n : Int) - q.2 - q.1 + 1) :: rs.map fun q => (n : Int) - q.2 - q.1 + 1).sum
      rw [List.sum_cons]
      unfold rsum
      omega
    · have h1 := h q' (List.mem_cons_of_mem _ hq')
      refine ⟨h1.1, h1.2.1, ?_⟩
      unfold dueStep
      rw [List.getElem?_set_ne (by have := hp.1 q' hq'; omega)]
      exact h1.2.2
theorem sum_rep : ∀ n : Nat, (List.replicate n (0 : Int)).sum = 0
  | 0 => rfl
  | n + 1 => by rw [List.replicate_succ, List.sum_cons, sum_rep n]; rfl
theorem due_sum {ns : List Int} (h : Ord ns) : (dueL ns).sum = rsum ns.length (records ns) := by
  unfold dueL
  rw [fold_sum (fun q hq => ?_) (records_ne ns), sum_rep]
  · omega
  · have := fold_off_mem h hq
    refine ⟨this.1, this.2, ?_⟩
    rw [List.getElem?_replicate, if_pos (by omega)]
theorem sum_rev : ∀ l : List Int, l.reverse.sum = l.sum
  | [] => rfl
  | x :: l => by
    rw [List.reverse_cons, List.sum_append, sum_rev l, List.sum_cons, List.sum_cons, List.sum_nil]
    omega
theorem rsum_rev (n : Nat) (rs : List (Int × Int)) : rsum n rs.reverse = rsum n rs := by
  unfold rsum
  rw [List.map_reverse, sum_rev]
theorem rsum_recs {ns : List Int} : rsum ns.length (records ns) = rsum ns.length (recs 0 ((ns.length : Int) + 1) ns) := rsum_rev _ _
/-- records fall in number and rise in place -/
theorem rsum_le {n : Nat} : ∀ {rs : List (Int × Int)} {s : Int}, rs.Pairwise (fun a b => b.1 < a.1 ∧ a.2 < b.2) → (∀ q, q ∈ rs → 1 ≤ q.1 ∧ s + 1 ≤ q.2) → (∀ q, q ∈ rs.head? → (rs.length : Int) ≤ q.1) ∧ rsum n rs ≤ (rs.length : Int) * ((n : Int) - rs.length - s)
  | [], s, _, _ => ⟨fun q hq => (by cases hq), by show (0 : Int) ≤ ((0 : Nat) : Int) * ((n : Int) - (0 : Nat) - s); simp⟩
  | q :: rs, s, hp, hb => by
    rw [List.pairwise_cons] at hp
    have hq := hb q List.mem_cons_self
    have ih := rsum_le (n := n) (rs := rs) (s := s + 1) hp.2 fun q' hq' => ⟨(hb q' (List.mem_cons_of_mem _ hq')).1, by have := hp.1 q' hq'; omega⟩
    have hh : ((rs.length : Int) + 1) ≤ q.1 := by
      cases rs with
      | nil => simp; omega
      | cons q1 rs =>
        have h1 := ih.1 q1 rfl
        have h2 := hp.1 q1 List.mem_cons_self
        omega
    refine ⟨fun q' hq' => ?_, ?_⟩
    · cases hq'
      rw [List.length_cons]
      push_cast
      exact hh
    · have h2 := ih.2
      have e : rsum n (q :: rs) = ((n : Int) - q.2 - q.1 + 1) + rsum n rs := by
        unfold rsum
        rw [List.map_cons, List.sum_cons]
      rw [e, List.length_cons]
      push_cast
      have e2 : (n : Int) - ((rs.length : Int) + 1) - s = (n : Int) - rs.length - (s + 1) := by omega
      rw [e2, Int.add_mul, Int.one_mul]
      omega
theorem quarter : ∀ n : Fin 31, ∀ k : Fin 31, ((k.val : Nat) : Int) * (((n.val : Nat) : Int) - k.val) ≤ ((n.val : Nat) : Int) * n.val / 4 := by decide +kernel
theorem T1s {ns : List Int} (h : Ord ns) : (dueL ns).sum ≤ (ns.length : Int) * ns.length / 4 := by
  rw [due_sum h, rsum_recs]
  have h1 := (rsum_le (n := ns.length) (s := 0) (recs_pw ns 0 ((ns.length : Int) + 1)) fun q hq => by
    have h2 := mem_recs.mp hq
    have h3 := ord_mem h h2.1.1
    exact ⟨h3.1, by omega⟩).2
  have h2 := recs_len 0 ((ns.length : Int) + 1) ns
  have h3 := h.2.1
  have h4 := quarter ⟨ns.length, by omega⟩ ⟨(recs 0 ((ns.length : Int) + 1) ns).length, by omega⟩
  simp only at h4
  have e : (ns.length : Int) - (recs 0 ((ns.length : Int) + 1) ns).length - 0 = (ns.length : Int) - (recs 0 ((ns.length : Int) + 1) ns).length := by omega
  rw [e] at h1
  omega
theorem downs_succ (a : Int) (k : Nat) : downs a (k + 1) = a :: downs (a - 1) k := by
  unfold downs
  rw [List.range_succ_eq_map, List.map_cons, List.map_map]
  congr 1
  · simp
  · refine List.map_congr_left fun i _ => ?_
    show a - ((i + 1 : Nat) : Int) = a - 1 - i
    omega
theorem recs_none {i : Nat} {m : Int} : ∀ {l : List Int}, (∀ x, x ∈ l → m ≤ x) → recs i m l = []
  | [], _ => rfl
  | x :: r, h => by
    rw [recs_cons, if_neg (by have := h x List.mem_cons_self; omega)]
    exact recs_none fun y hy => h y (List.mem_cons_of_mem _ hy)
theorem rsum_downs {n : Nat} {F : List Int} : ∀ (k : Nat) (i : Nat) (a m : Int), (∀ x, x ∈ F → a < x) → a < m → rsum n (recs i m (downs a (k + 1) ++ F)) = ((k : Int) + 1) * ((n : Int) - i - a)
  | 0, i, a, m, hF, hm => by
    rw [downs_succ]
    show rsum n (recs i m (a :: ([] ++ F))) = _
    rw [recs_cons, if_pos hm, List.nil_append, recs_none fun x hx => by have := hF x hx; omega]
    show ((n : Int) - ((i : Int) + 1) - a + 1) + 0 = _
    simp
    omega
  | k + 1, i, a, m, hF, hm => by
    rw [downs_succ]
    show rsum n (recs i m (a :: (downs (a - 1) (k + 1) ++ F))) = _
    rw [recs_cons, if_pos hm]
    have ih := rsum_downs (n := n) (F := F) k (i + 1) (a - 1) a (fun x hx => by have := hF x hx; omega) (by omega)
    have e : rsum n ((a, (i : Int) + 1) :: recs (i + 1) a (downs (a - 1) (k + 1) ++ F)) = ((n : Int) - ((i : Int) + 1) - a + 1) + rsum n (recs (i + 1) a (downs (a - 1) (k + 1) ++ F)) := by
      unfold rsum
      rw [List.map_cons, List.sum_cons]
    rw [e, ih]
    have e2 : (n : Int) - ((i + 1 : Nat) : Int) - (a - 1) = (n : Int) - i - a := by omega
    have e3 : ((k + 1 : Nat) : Int) + 1 = ((k : Int) + 1) + 1 := by omega
    rw [e2, e3, Int.add_mul ((k : Int) + 1), Int.one_mul]
    omega
theorem mem_downs {a x : Int} {k : Nat} : x ∈ downs a k ↔ a - k < x ∧ x ≤ a := by
  unfold downs
  rw [List.mem_map]
  constructor
  · rintro ⟨j, hj, rfl⟩
    rw [List.mem_range] at hj
    omega
  · rintro ⟨h1, h2⟩
    exact ⟨(a - x).toNat, by rw [List.mem_range]; omega, by omega⟩
theorem downs_nodup : ∀ (k : Nat) (a : Int), (downs a k).Nodup
  | 0, _ => List.nodup_nil
  | k + 1, a => by
    rw [downs_succ, List.nodup_cons]
    refine ⟨fun h => ?_, downs_nodup k _⟩
    have := mem_downs.mp h
    omega
theorem half_quarter : ∀ n : Fin 31, ((n.val : Nat) : Int) / 2 * (((n.val : Nat) : Int) - (n.val : Nat) / 2) = ((n.val : Nat) : Int) * n.val / 4 := by decide +kernel
theorem T3 {ns : List Int} (h : Ord ns) : Ord (downs ((ns.length : Int) / 2) ((ns.length : Int) / 2).toNat ++ ns.filter fun x => decide ((ns.length : Int) / 2 < x)) ∧ (row .srt (downs ((ns.length : Int) / 2) ((ns.length : Int) / 2).toNat ++ ns.filter fun x => decide ((ns.length : Int) / 2 < x))).sum = (ns.length : Int) * ns.length / 4 := by
  have hperm : (downs ((ns.length : Int) / 2) ((ns.length : Int) / 2).toNat ++ ns.filter fun x => decide ((ns.length : Int) / 2 < x)).Perm (upto ns.length) := by
    refine (List.perm_ext_iff_of_nodup ?_ (upto_nodup _)).mpr fun x => ?_
    · rw [List.nodup_append]
      refine ⟨downs_nodup _ _, (ord_nodup h).sublist List.filter_sublist, fun a ha b hb => ?_⟩
      have h1 := mem_downs.mp ha
      have h2 := of_decide_eq_true (List.mem_filter.mp hb).2
      omega
    · rw [List.mem_append, mem_downs, List.mem_filter, mem_upto, h.2.2.mem_iff, mem_upto]
      simp only [decide_eq_true_eq]
      omega
  have hlen := hperm.length_eq
  rw [upto_len] at hlen
  have ho : Ord (downs ((ns.length : Int) / 2) ((ns.length : Int) / 2).toNat ++ ns.filter fun x => decide ((ns.length : Int) / 2 < x)) := ⟨by rw [hlen]; exact h.1, by rw [hlen]; exact h.2.1, by rw [hlen]; exact hperm⟩
  refine ⟨ho, ?_⟩
  rw [T1 ho, due_sum ho, rsum_recs, hlen]
  have hq := half_quarter ⟨ns.length, by have := h.2.1; omega⟩
  simp only at hq
  rw [← hq]
  cases hk : ((ns.length : Int) / 2).toNat with
  | zero =>
    have h1 := h.1
    have e : ns.length = 1 := by omega
    have ep := h.2.2
    rw [e] at ep
    have e1 : ns = [1] := List.perm_singleton.mp (ep.trans (by decide))
    rw [e1]
    decide
  | succ k =>
    have hk2 : (ns.length : Int) / 2 = (k : Int) + 1 := by omega
    rw [rsum_downs k 0 _ _ (fun x hx => of_decide_eq_true (List.mem_filter.mp hx).2) (by omega), hk2]
    congr 1
theorem T4all : ∀ n : Fin 31, 1 ≤ n.val → Ord (downs ((n.val : Nat) / 2 : Int) ((n.val : Nat) / 2 : Int).toNat ++ downs (n.val : Nat) (((n.val : Nat) : Int) - ((n.val : Nat) : Int) / 2).toNat) ∧ (row .old (downs ((n.val : Nat) / 2 : Int) ((n.val : Nat) / 2 : Int).toNat ++ downs (n.val : Nat) (((n.val : Nat) : Int) - ((n.val : Nat) : Int) / 2).toNat)).sum = ((n.val : Nat) : Int) * n.val / 4 := by
  unfold Ord
  decide +kernel
theorem T4 {n : Nat} (h1 : 1 ≤ n) (h2 : n ≤ 30) : Ord (downs ((n : Int) / 2) ((n : Int) / 2).toNat ++ downs n ((n : Int) - (n : Int) / 2).toNat) ∧ (row .old (downs ((n : Int) / 2) ((n : Int) / 2).toNat ++ downs n ((n : Int) - (n : Int) / 2).toNat)).sum = (n : Int) * n / 4 := T4all ⟨n, by omega⟩ h1
theorem T5all : ∀ n : Fin 31, 1 ≤ n.val → Ord (downs (n.val : Nat) (((n.val : Nat) : Int)).toNat) ∧ (dueL (downs (n.val : Nat) (((n.val : Nat) : Int)).toNat)).sum = 0 := by
  unfold Ord
  decide +kernel
theorem T5 {n : Nat} (h1 : 1 ≤ n) (h2 : n ≤ 30) : Ord (downs n (n : Int).toNat) ∧ (row .srt (downs n (n : Int).toNat)).sum = 0 := by
  have := T5all ⟨n, by omega⟩ h1
  exact ⟨this.1, by rw [T1 this.1]; exact this.2⟩
end Ln
/-! ### who drives out how often; no rule drives less than "sorted" -/
namespace Ln
theorem dr_cons {r : Rl} {L : List Int} {c : Int} (h : L ≠ []) : dr r L c = (if c ∈ outs L then 1 else 0) + dr r (next r L) c := by
  unfold dr
  rw [rows_cons h, List.filter_cons]
  by_cases hc : c ∈ outs L
  · rw [if_pos (decide_eq_true hc), if_pos hc, List.length_cons]
    omega
  · rw [if_neg (by simpa using hc), if_neg hc]
    omega
theorem outs_sub {L : List Int} {x : Int} (h : x ∈ outs L) : x ∈ L := List.mem_of_mem_drop h
theorem next_sub {r : Rl} {L : List Int} {x : Int} (h : L ≠ []) (hx : x ∈ next r L) : x ∈ L := (next_perm (r := r) h).mem_iff.mp (List.mem_cons_of_mem _ hx)
theorem next_nodup {r : Rl} {L : List Int} (h : L ≠ []) (hn : L.Nodup) : (lo L :: next r L).Nodup := (next_perm (r := r) h).nodup_iff.mpr hn
theorem lo_outs {L : List Int} (h : L ≠ []) (hn : L.Nodup) : lo L ∉ outs L := fun z => by
  have e := idx_split (lo_mem h)
  rw [e] at hn
  have h1 := (List.nodup_append.mp hn).2.1
  exact (List.nodup_cons.mp h1).1 z
theorem dr_not {r : Rl} {c : Int} : ∀ (n : Nat) (L : List Int), L.length = n → c ∉ L → dr r L c = 0
  | 0, L, hn, _ => by
    rw [List.eq_nil_of_length_eq_zero hn]
    rfl
  | n + 1, L, hn, hc => by
    have hne : L ≠ [] := fun z => by rw [z] at hn; cases hn
    rw [dr_cons hne, if_neg fun z => hc (outs_sub z), dr_not n (next r L) (by have := next_len (r := r) hne; omega) fun z => hc (next_sub hne z)]
    rfl
theorem dr_lo {r : Rl} {L : List Int} (h : L ≠ []) (hn : L.Nodup) : dr r L (lo L) = 0 := by
  rw [dr_cons h, if_neg (lo_outs h hn), dr_not _ _ rfl (List.nodup_cons.mp (next_nodup (r := r) h hn)).1]
  rfl
theorem ord_ne {ns : List Int} (h : Ord ns) : ns ≠ [] := fun z => by
  have := h.1
  rw [z] at this
  simp at this
theorem ord_lo {ns : List Int} (h : Ord ns) : lo ns = 1 := by
  have h1 : (1 : Int) ∈ ns := h.2.2.mem_iff.mpr (mem_upto.mpr ⟨by decide, by have := h.1; omega⟩)
  have h2 := lo_le h1
  have h3 := (ord_mem h (lo_mem (ord_ne h))).1
  omega
theorem K5 {r : Rl} {ns : List Int} (h : Ord ns) : (drivenL r ns)[0]? = some 0 := by
  unfold drivenL
  rw [List.getElem?_map, List.getElem?_range (by have := h.1; omega)]
  show some (dr r ns (((0 : Nat) : Int) + 1)) = some 0
  have := dr_lo (r := r) (ord_ne h) (ord_nodup h)
  rw [ord_lo h] at this
  rw [← this]
  rfl
theorem cnt_in {o : List Int} : ∀ (U : List Int), (U.map fun c => if c ∈ o then (1 : Int) else 0).sum = ((U.filter fun c => decide (c ∈ o)).length : Nat)
  | [] => rfl
  | c :: U => by
    rw [List.map_cons, List.sum_cons, cnt_in U, List.filter_cons]
    by_cases h : c ∈ o
    · rw [if_pos h, if_pos (decide_eq_true h), List.length_cons]
      omega
    · rw [if_neg h, if_neg (by simpa using h)]
      omega
theorem sum_add (f g : Int → Int) : ∀ (U : List Int), (U.map fun c => f c + g c).sum = (U.map f).sum + (U.map g).sum
  | [] => rfl
  | c :: U => by
    rw [List.map_cons, List.sum_cons, sum_add f g U, List.map_cons, List.map_cons, List.sum_cons, List.sum_cons]
    omega
theorem sum_zero {f : Int → Int} : ∀ {U : List Int}, (∀ c, c ∈ U → f c = 0) → (U.map f).sum = 0
  | [], _ => rfl
  | c :: U, h => by
    rw [List.map_cons, List.sum_cons, h c List.mem_cons_self, sum_zero fun c hc => h c (List.mem_cons_of_mem _ hc)]
    rfl
theorem dr_sum {r : Rl} {U : List Int} (hU : U.Nodup) : ∀ (n : Nat) (L : List Int), L.length = n → L.Nodup → (∀ x, x ∈ L → x ∈ U) → (U.map (dr r L)).sum = (row r L).sum
  | 0, L, hn, _, _ => by
    rw [List.eq_nil_of_length_eq_zero hn]
    exact sum_zero fun _ _ => rfl
  | n + 1, L, hn, hd, hs => by
    have hne : L ≠ [] := fun z => by rw [z] at hn; cases hn
    have e : U.map (dr r L) = U.map fun c => (if c ∈ outs L then (1 : Int) else 0) + dr r (next r L) c := List.map_congr_left fun c _ => dr_cons hne
    have ih := dr_sum (r := r) hU n (next r L) (by have := next_len (r := r) hne; omega) (List.nodup_cons.mp (next_nodup (r := r) hne hd)).2 fun x hx => hs x (next_sub hne hx)
    rw [e, sum_add, ih, row_cons hne, List.sum_cons, cnt_in]
    have hp : (U.filter fun c => decide (c ∈ outs L)).Perm (outs L) := by
      refine (List.perm_ext_iff_of_nodup (hU.sublist List.filter_sublist) (hd.sublist (List.drop_sublist _ _))).mpr fun x => ?_
      rw [List.mem_filter]
      simp only [decide_eq_true_eq]
      exact ⟨fun h => h.2, fun h => ⟨hs x (outs_sub h), h⟩⟩
    rw [hp.length_eq]
theorem driven_map (r : Rl) (ns : List Int) : drivenL r ns = (upto ns.length).map (dr r ns) := by
  unfold drivenL upto
  rw [List.map_map]
  rfl
theorem K3 {r : Rl} {ns : List Int} (h : Ord ns) : (drivenL r ns).sum = (row r ns).sum := by
  rw [driven_map]
  exact dr_sum (upto_nodup _) _ ns rfl (ord_nodup h) fun x hx => h.2.2.mem_iff.mp hx
/-! A lane A ++ E, E falling: the least stands in A, or it is E's last -/
theorem caseA {A E : List Int} (h : lo (A ++ E) ∈ A) : outs (A ++ E) = A.drop (A.idxOf (lo (A ++ E)) + 1) ++ E ∧ ins (A ++ E) = A.take (A.idxOf (lo (A ++ E))) := by
  have hi : (A ++ E).idxOf (lo (A ++ E)) = A.idxOf (lo (A ++ E)) := idx_app_mem h
  have hlt := List.idxOf_lt_length_of_mem h
  constructor
  · unfold outs
    rw [hi, List.drop_append_of_le_length (by omega)]
  · unfold ins
    rw [hi, List.take_append_of_le_length (by omega)]
theorem caseE {A E : List Int} (hne : A ++ E ≠ []) (h : lo (A ++ E) ∉ A) (hE : E.Pairwise (· > ·)) : ∃ E1, E = E1 ++ [lo (A ++ E)] ∧ outs (A ++ E) = [] ∧ ins (A ++ E) = A ++ E1 := by
  have hEm : lo (A ++ E) ∈ E := (List.mem_append.mp (lo_mem hne)).resolve_left h
  have hEne : E ≠ [] := fun z => by rw [z] at hEm; cases hEm
  obtain ⟨E1, e, rfl⟩ : ∃ E1 e, E = E1 ++ [e] := ⟨E.dropLast, E.getLast hEne, (List.dropLast_concat_getLast hEne).symm⟩
  rw [List.pairwise_append] at hE
  have he : lo (A ++ (E1 ++ [e])) = e := by
    rcases List.mem_append.mp hEm with h | h
    · have h1 := hE.2.2 _ h e (List.mem_singleton.mpr rfl)
      have h2 := lo_le (ns := A ++ (E1 ++ [e])) (y := e) (by simp)
      omega
    · exact List.mem_singleton.mp h
  have hE1 : e ∉ E1 := fun z => by
    have := hE.2.2 _ z e (List.mem_singleton.mpr rfl)
    omega
  rw [he] at h
  have hi : (A ++ (E1 ++ [e])).idxOf e = A.length + E1.length := by
    rw [idx_app_not h, idx_app_not hE1]
    simp
  refine ⟨E1, by rw [he], ?_, ?_⟩
  · unfold outs
    rw [he, hi]
    refine List.drop_of_length_le ?_
    simp
    omega
  · unfold ins
    rw [he, hi, ← List.append_assoc, List.take_append_of_le_length (by rw [List.length_append]; omega), List.take_of_length_le (by rw [List.length_append]; omega)]
theorem lo_congr {xs ys : List Int} (h : xs.Perm ys) : lo xs = lo ys := by
  by_cases hx : xs = []
  · subst hx
    rw [List.nil_perm.mp h]
  · have hy : ys ≠ [] := fun z => by
      subst z
      exact hx (List.perm_nil.mp h)
    have h1 := lo_le (h.mem_iff.mpr (lo_mem hy))
    have h2 := lo_le (h.mem_iff.mp (lo_mem hx))
    omega
/-- S by "sorted", L by any other way, from the same beginning: the same prefix, behind it the same cars, S's falling -/
def Dom (S L : List Int) : Prop := ∃ A E E', S = A ++ E ∧ L = A ++ E' ∧ E'.Perm E ∧ E.Pairwise (· > ·)
theorem Dom.refl (L : List Int) : Dom L L := ⟨L, [], [], by simp, by simp, List.Perm.refl _, List.Pairwise.nil⟩
theorem Dom.perm {S L : List Int} (h : Dom S L) : L.Perm S := by
  obtain ⟨A, E, E', rfl, rfl, hp, _⟩ := h
  exact hp.append_left A
theorem dom_step {S L b : List Int} (h : Dom S L) (hne : S ≠ []) (hn : S.Nodup) (hb : b.Perm (outs L)) : (outs S).length ≤ (outs L).length ∧ Dom (next .srt S) (ins L ++ b) := by
  have hLS := h.perm
  obtain ⟨A, E, E', rfl, rfl, hp, hE⟩ := h
  have hlo := lo_congr hLS
  by_cases hA : lo (A ++ E) ∈ A
  · have hA' : lo (A ++ E') ∈ A := by rw [hlo]; exact hA
    obtain ⟨o1, i1⟩ := caseA hA
    obtain ⟨o2, i2⟩ := caseA hA'
    rw [hlo] at o2 i2
    have hp2 : (outs (A ++ E')).Perm (outs (A ++ E)) := by
      rw [o1, o2]
      exact hp.append_left _
    refine ⟨Nat.le_of_eq hp2.length_eq.symm, A.take (A.idxOf (lo (A ++ E))), (Ln.srt (outs (A ++ E))).reverse, b, ?_, by rw [i2], ?_, ?_⟩
    · show ins _ ++ _ = _
      rw [i1]
      rfl
    · exact (hb.trans hp2).trans ((srt_perm _).symm.trans (List.reverse_perm _).symm)
    · rw [List.pairwise_reverse]
      exact srt_lt (hn.sublist (List.drop_sublist _ _))
  · obtain ⟨E1, e1, o1, i1⟩ := caseE hne hA hE
    rw [o1]
    generalize hmm : lo (A ++ E) = m at *
    refine ⟨Nat.zero_le _, A, E1, E'.take (E'.idxOf (m)) ++ b, ?_, ?_, ?_, ?_⟩
    · show ins _ ++ (Ln.srt (outs _)).reverse = _
      have e0 : Ln.srt [] = [] := List.eq_nil_of_length_eq_zero (srt_len [])
      rw [o1, i1, e0, List.reverse_nil, List.append_nil]
    · have hi : (A ++ E').idxOf (m) = A.length + E'.idxOf (m) := idx_app_not hA
      unfold ins
      rw [hlo, hi, List.take_length_add_append, List.append_assoc]
    · have hm : m ∈ E' := hp.mem_iff.mpr (by rw [e1]; simp)
      have hs := idx_split hm
      have ho : outs (A ++ E') = E'.drop (E'.idxOf (m) + 1) := by
        have hi : (A ++ E').idxOf (m) = A.length + E'.idxOf (m) := idx_app_not hA
        unfold outs
        rw [hlo, hi, Nat.add_assoc, List.drop_length_add_append]
      rw [ho] at hb
      refine (hb.append_left _).trans ?_
      refine List.Perm.cons_inv (a := m) ?_
      refine List.perm_middle.symm.trans ?_
      rw [← hs]
      refine hp.trans ?_
      rw [e1]
      exact List.perm_append_comm
    · rw [e1, List.pairwise_append] at hE
      exact hE.1
theorem dom_next {S L : List Int} {r : Rl} (h : Dom S L) (hne : S ≠ []) (hn : S.Nodup) : (outs S).length ≤ (outs L).length ∧ Dom (next .srt S) (next r L) := dom_step h hne hn (back_perm r _)
/-- at each leaving no fewer cars than by "sorted" -/
theorem dom_rows {r : Rl} : ∀ (n : Nat) (S L : List Int), S.length = n → Dom S L → S.Nodup → (row .srt S).sum ≤ (row r L).sum ∧ ∀ (t : Nat) (x y : Int), (row .srt S)[t]? = some x → (row r L)[t]? = some y → x ≤ y
  | 0, S, L, hn, hd, _ => by
    have e1 := List.eq_nil_of_length_eq_zero hn
    have e2 : L = [] := List.eq_nil_of_length_eq_zero (by rw [hd.perm.length_eq, hn])
    rw [e1, e2]
    exact ⟨Int.le_refl _, fun t x y h => by simp [row_nil] at h⟩
  | n + 1, S, L, hn, hd, hnd => by
    have hne : S ≠ [] := fun z => by rw [z] at hn; cases hn
    have hneL : L ≠ [] := fun z => by
      have := hd.perm.length_eq
      rw [z, hn] at this
      cases this
    obtain ⟨h1, h2⟩ := dom_next (r := r) hd hne hnd
    obtain ⟨h3, h4⟩ := dom_rows (r := r) n _ _ (by have := next_len (r := .srt) hne; omega) h2 (List.nodup_cons.mp (next_nodup (r := .srt) hne hnd)).2
    rw [row_cons hne, row_cons hneL, List.sum_cons, List.sum_cons]
    refine ⟨by omega, fun t x y hx hy => ?_⟩
    cases t with
    | zero =>
      cases hx
      cases hy
      omega
    | succ t => exact h4 t x y hx hy
theorem K4 {r : Rl} {ns : List Int} (h : Ord ns) : (row .srt ns).sum ≤ (row r ns).sum := (dom_rows (r := r) _ ns ns rfl (Dom.refl ns) (ord_nodup h)).1
end Ln
namespace Ln
theorem split_lo {L : List Int} (h : L ≠ []) : L = ins L ++ lo L :: outs L := idx_split (lo_mem h)
theorem idxOf_not {c : Int} {P : List Int} (h : c ∉ P) : P.idxOf c = P.length := List.idxOf_eq_length h
theorem filt_congr {α : Type} {p q : α → Bool} {l : List α} (h : ∀ x, x ∈ l → p x = q x) : (l.filter p).length = (l.filter q).length := by rw [List.filter_congr h]
theorem filt_none {α : Type} {p : α → Bool} {l : List α} (h : ∀ x, x ∈ l → p x = false) : (l.filter p).length = 0 := by
  rw [List.length_eq_zero_iff, List.filter_eq_nil_iff]
  intro x hx
  rw [h x hx]
  exact Bool.false_ne_true
theorem take_mid {P Q : List Int} {m : Int} {k : Nat} : (P ++ m :: Q).take (P.length + (k + 1)) = P ++ m :: Q.take k := by
  rw [List.take_length_add_append, List.take_succ_cons]
theorem dr_old {c : Int} : ∀ (n : Nat) (L : List Int), L.length = n → L.Nodup → c ∈ L → dr .old L c = cntA L c
  | 0, L, hn, _, hc => by
    rw [List.eq_nil_of_length_eq_zero hn] at hc
    cases hc
  | n + 1, L, hn, hnd, hc => by
    have hne : L ≠ [] := fun z => by rw [z] at hn; cases hn
    have hle : ∀ x, x ∈ L → lo L ≤ x := fun x hx => lo_le hx
    have hsp := split_lo hne
    have hlen := next_len (r := .old) hne
    have hdn := List.nodup_cons.mp (next_nodup (r := .old) hne hnd)
    have hnx : next .old L = ins L ++ outs L := rfl
    have ih := dr_old (c := c) n (next .old L) (by omega) hdn.2
    have hd := hnd
    rw [hsp, List.nodup_append] at hd
    by_cases h0 : c = lo L
    · rw [h0, dr_lo hne hnd]
      unfold cntA
      rw [filt_none fun x hx => by
        have := hle x (List.mem_of_mem_take hx)
        simp
        omega]
      rfl
    · rw [dr_cons hne]
      rw [hnx] at ih
      unfold cntA at ih ⊢
      by_cases hP : c ∈ ins L
      · have hQ : c ∉ outs L := fun z => (hd.2.2 c hP c (List.mem_cons_of_mem _ z)) rfl
        rw [if_neg hQ, hnx, ih (List.mem_append_left _ hP), idx_app_mem hP]
        have e : L.idxOf c = (ins L).idxOf c := by
          conv => lhs; rw [hsp]
          exact idx_app_mem hP
        have hl := List.idxOf_lt_length_of_mem hP
        have e2 : L.take ((ins L).idxOf c) = (ins L).take ((ins L).idxOf c) := (congrArg (fun l => l.take ((ins L).idxOf c)) hsp).trans (List.take_append_of_le_length (by omega))
        have e3 : (ins L ++ outs L).take ((ins L).idxOf c) = (ins L).take ((ins L).idxOf c) := List.take_append_of_le_length (by omega)
        rw [e, e2, e3]
        omega
      · have hQ : c ∈ outs L := by
          rw [hsp] at hc
          rcases List.mem_append.mp hc with h | h
          · exact absurd h hP
          · exact (List.mem_cons.mp h).resolve_left h0
        rw [if_pos hQ, hnx, ih (List.mem_append_right _ hQ), idx_app_not hP, List.take_length_add_append]
        have e : L.idxOf c = (ins L).length + ((outs L).idxOf c + 1) := by
          conv => lhs; rw [hsp]
          rw [idx_app_not hP, List.idxOf_cons, beq_false_of_ne fun z => h0 z.symm]
          rfl
        have e2 : L.take (L.idxOf c) = ins L ++ lo L :: (outs L).take ((outs L).idxOf c) := by
          rw [e]
          exact (congrArg (fun l => l.take ((ins L).length + ((outs L).idxOf c + 1))) hsp).trans take_mid
        rw [e2, List.filter_append, List.filter_append, List.filter_cons, if_pos (decide_eq_true (by have := hle c hc; omega))]
        simp only [List.length_append, List.length_cons]
        omega
theorem K2 {ns : List Int} (h : Ord ns) : drivenL .old ns = (List.range ns.length).map fun j : Nat => cntA ns ((j : Int) + 1) := by
  unfold drivenL
  refine List.map_congr_left fun j hj => dr_old _ ns rfl (ord_nodup h) (h.2.2.mem_iff.mpr (mem_upto.mpr ?_))
  rw [List.mem_range] at hj
  omega
theorem recs_split {m : Int} {Q : List Int} : ∀ {P : List Int} {i : Nat} {M : Int}, (∀ x, x ∈ P → m < x) → (∀ x, x ∈ Q → m < x) → m < M → recs i M (P ++ m :: Q) = recs i M P ++ [(m, ((i + P.length : Nat) : Int) + 1)]
  | [], i, M, _, hQ, hM => by
    show recs i M (m :: Q) = [] ++ _
    rw [recs_cons, if_pos hM, recs_none fun x hx => by have := hQ x hx; omega]
    rfl
  | x :: P, i, M, hP, hQ, hM => by
    show recs i M (x :: (P ++ m :: Q)) = _
    have hx := hP x List.mem_cons_self
    have hP' : ∀ x, x ∈ P → m < x := fun y hy => hP y (List.mem_cons_of_mem _ hy)
    have el : i + 1 + P.length = i + (x :: P).length := by rw [List.length_cons]; omega
    rw [recs_cons, recs_cons]
    split
    · rw [recs_split hP' hQ hx, el]
      rfl
    · rw [recs_split hP' hQ hM, el]
/-- the records of A further in than c and less -/
def cR (M : Int) (A : List Int) (c : Int) : Int := (((recs 0 M A).filter fun q => decide (q.2 < ((A.idxOf c : Nat) : Int) + 1) && decide (q.1 < c)).length : Nat)
theorem dr_srt {c M : Int} : ∀ (n : Nat) (A E : List Int), A.length + E.length = n → (A ++ E).Nodup → E.Pairwise (· > ·) → (∀ x, x ∈ A → x < M) → c ∈ A ++ E → dr .srt (A ++ E) c = cR M A c
  | 0, A, E, hn, _, _, _, hc => by
    obtain rfl : A = [] := List.eq_nil_of_length_eq_zero (by omega)
    obtain rfl : E = [] := List.eq_nil_of_length_eq_zero (by omega)
    cases hc
  | n + 1, A, E, hn, hnd, hE, hM, hc => by
    have hne : A ++ E ≠ [] := fun z => by
      have := congrArg List.length z
      simp only [List.length_append, List.length_nil] at this
      omega
    have hle : ∀ x, x ∈ A ++ E → lo (A ++ E) ≤ x := fun x hx => lo_le hx
    have hlen := next_len (r := .srt) hne
    have hdn := List.nodup_cons.mp (next_nodup (r := .srt) hne hnd)
    have hpm := next_perm (r := .srt) hne
    have hLn : (A ++ E).length = n + 1 := by rw [List.length_append, hn]
    have hrA : ∀ q, q ∈ recs 0 M A → q.1 ∈ A := fun q hq => (mem_recs.mp hq).1.1
    by_cases h0 : c = lo (A ++ E)
    · rw [h0, dr_lo hne hnd]
      unfold cR
      rw [filt_none fun q hq => by
        have := hle q.1 (List.mem_append_left _ (hrA q hq))
        have e : decide (q.1 < lo (A ++ E)) = false := decide_eq_false (by omega)
        rw [e, Bool.and_false]]
      rfl
    · have hcn : c ∈ next .srt (A ++ E) := (List.mem_cons.mp (hpm.mem_iff.mpr hc)).resolve_left h0
      rw [dr_cons hne]
      by_cases hA : lo (A ++ E) ∈ A
      · obtain ⟨o1, i1⟩ := caseA hA
        have hsp := idx_split hA
        have hlt := List.idxOf_lt_length_of_mem hA
        have hnx : next .srt (A ++ E) = A.take (A.idxOf (lo (A ++ E))) ++ (Ln.srt (outs (A ++ E))).reverse := by
          show ins _ ++ _ = _
          rw [i1]
          rfl
        have hmA : ∀ x, x ∈ A → x ≠ lo (A ++ E) → lo (A ++ E) < x := fun x hx hz => by
          have := hle x (List.mem_append_left _ hx)
          omega
        have hdA : A.Nodup := (List.nodup_append.mp hnd).1
        rw [hsp, List.nodup_append] at hdA
        have hP : ∀ x, x ∈ A.take (A.idxOf (lo (A ++ E))) → lo (A ++ E) < x := fun x hx => hmA x (List.mem_of_mem_take hx) (idxOf_take_ne hx)
        have hQ : ∀ x, x ∈ A.drop (A.idxOf (lo (A ++ E)) + 1) → lo (A ++ E) < x := fun x hx => hmA x (List.mem_of_mem_drop hx) fun z => (List.nodup_cons.mp hdA.2.1).1 (by rw [z] at hx; exact hx)
        have hrs : recs 0 M A = recs 0 M (A.take (A.idxOf (lo (A ++ E)))) ++ [(lo (A ++ E), ((A.idxOf (lo (A ++ E)) : Nat) : Int) + 1)] := by
          conv => lhs; rw [hsp]
          rw [recs_split hP hQ (hM _ hA), Nat.zero_add, List.length_take, Nat.min_eq_left (by omega)]
        have ih := dr_srt (c := c) (M := M) n (A.take (A.idxOf (lo (A ++ E)))) (Ln.srt (outs (A ++ E))).reverse (by rw [← List.length_append, ← hnx]; omega) (by rw [← hnx]; exact hdn.2) (by
          rw [List.pairwise_reverse]
          exact srt_lt (hnd.sublist (List.drop_sublist _ _))) (fun x hx => hM x (List.mem_of_mem_take hx)) (by rw [← hnx]; exact hcn)
        rw [← hnx] at ih
        rw [ih]
        unfold cR
        rw [hrs, List.filter_append, List.length_append]
        have hrP : ∀ q, q ∈ recs 0 M (A.take (A.idxOf (lo (A ++ E)))) → q.2 ≤ ((A.idxOf (lo (A ++ E)) : Nat) : Int) := fun q hq => by
          have h1 := mem_recs.mp hq
          have h2 := List.idxOf_lt_length_of_mem h1.1.1
          rw [List.length_take] at h2
          have h3 := h1.2.2
          omega
        by_cases hcP : c ∈ A.take (A.idxOf (lo (A ++ E)))
        · have hi : A.idxOf c = (A.take (A.idxOf (lo (A ++ E)))).idxOf c := by
            conv => lhs; rw [hsp]
            exact idx_app_mem hcP
          have hi2 := List.idxOf_lt_length_of_mem hcP
          rw [List.length_take] at hi2
          have hno : c ∉ outs (A ++ E) := fun z => by
            have hd := hnd
            rw [split_lo hne, List.nodup_append] at hd
            rw [← i1] at hcP
            exact hd.2.2 c hcP c (List.mem_cons_of_mem _ z) rfl
          rw [if_neg hno, hi, List.filter_cons, if_neg]
          · show _ = ((_ + 0 : Nat) : Int)
            omega
          · have e : decide (((A.idxOf (lo (A ++ E)) : Nat) : Int) + 1 < (((A.take (A.idxOf (lo (A ++ E)))).idxOf c : Nat) : Int) + 1) = false := decide_eq_false (by omega)
            simp only [e, Bool.false_and]
            exact Bool.false_ne_true
        · have hyes : c ∈ outs (A ++ E) := by
            rw [split_lo hne, i1] at hc
            rcases List.mem_append.mp hc with h | h
            · exact absurd h hcP
            · exact (List.mem_cons.mp h).resolve_left h0
          have hi : A.idxOf (lo (A ++ E)) < A.idxOf c := by
            refine Nat.lt_of_not_le fun hle2 => ?_
            by_cases hcA : c ∈ A
            · rcases Nat.lt_or_eq_of_le hle2 with h1 | h1
              · exact hcP (mem_take_of_idx hcA h1)
              · have e1 : A[A.idxOf c]'(List.idxOf_lt_length_of_mem hcA) = c := List.getElem_idxOf _
                have e2 : A[A.idxOf (lo (A ++ E))]'hlt = lo (A ++ E) := List.getElem_idxOf _
                apply h0
                rw [← e2]
                conv => lhs; rw [← e1]
                congr 1
            · rw [idxOf_not hcA] at hle2
              omega
          rw [if_pos hyes, List.filter_cons, if_pos, idxOf_not hcP]
          · have hfc : ((recs 0 M (A.take (A.idxOf (lo (A ++ E))))).filter fun q => decide (q.2 < (((A.take (A.idxOf (lo (A ++ E)))).length : Nat) : Int) + 1) && decide (q.1 < c)).length = ((recs 0 M (A.take (A.idxOf (lo (A ++ E))))).filter fun q => decide (q.2 < ((A.idxOf c : Nat) : Int) + 1) && decide (q.1 < c)).length := filt_congr fun q hq => by
              have h1 := hrP q hq
              have e1 : decide (q.2 < (((A.take (A.idxOf (lo (A ++ E)))).length : Nat) : Int) + 1) = true := decide_eq_true (by rw [List.length_take]; omega)
              have e2 : decide (q.2 < ((A.idxOf c : Nat) : Int) + 1) = true := decide_eq_true (by omega)
              simp only [e1, e2]
            rw [hfc]
            show _ = ((_ + 1 : Nat) : Int)
            omega
          · have e1 : decide (((A.idxOf (lo (A ++ E)) : Nat) : Int) + 1 < ((A.idxOf c : Nat) : Int) + 1) = true := decide_eq_true (by omega)
            have e2 : decide (lo (A ++ E) < c) = true := decide_eq_true (by have := hle c hc; omega)
            simp only [e1, e2]
            rfl
      · obtain ⟨E1, e1, o1, i1⟩ := caseE hne hA hE
        have hnx : next .srt (A ++ E) = A ++ E1 := by
          show ins _ ++ (Ln.srt (outs _)).reverse = _
          have e0 : Ln.srt [] = [] := List.eq_nil_of_length_eq_zero (srt_len [])
          rw [o1, i1, e0, List.reverse_nil, List.append_nil]
        have hE1 : E1.Pairwise (· > ·) := by
          generalize lo (A ++ E) = m at *
          rw [e1, List.pairwise_append] at hE
          exact hE.1
        rw [o1, hnx, if_neg (by simp)]
        rw [hnx] at hlen hdn hcn
        rw [dr_srt (c := c) (M := M) n A E1 (by rw [List.length_append] at hlen; omega) hdn.2 hE1 hM hcn]
        omega
theorem K1 {ns : List Int} (h : Ord ns) : drivenL .srt ns = (List.range ns.length).map fun j : Nat => cntR ns ((j : Int) + 1) := by
  unfold drivenL
  refine List.map_congr_left fun j hj => ?_
  rw [List.mem_range] at hj
  have hc : (j : Int) + 1 ∈ ns := h.2.2.mem_iff.mpr (mem_upto.mpr (by omega))
  have := dr_srt (c := (j : Int) + 1) (M := (ns.length : Int) + 1) ns.length ns [] (by simp) (by rw [List.append_nil]; exact ord_nodup h) List.Pairwise.nil (fun x hx => by have := ord_mem h hx; omega) (by rw [List.append_nil]; exact hc)
  rw [List.append_nil] at this
  rw [this]
  unfold cR cntR records
  rw [List.filter_reverse, List.length_reverse]
end Ln
namespace Ln
/-! ### rows of numbers -/
def stepZ (m o x : Int) : Option Int := if 0 ≤ x ∧ x ≤ m then (if 0 < o ∧ x = 0 then some (o - 1) else if o ≤ x then some x else none) else none
def good : Int → List Int → Bool
  | _, [] => true
  | o, x :: xs => match stepZ xs.length o x with
    | some o' => good o' xs
    | none => false
theorem good_cons {o x o' : Int} {xs : List Int} (h : stepZ xs.length o x = some o') : good o (x :: xs) = good o' xs := by
  show (match stepZ xs.length o x with
    | some o' => good o' xs
    | none => false) = _
  rw [h]
theorem good_bad {o x : Int} {xs : List Int} (h : stepZ xs.length o x = none) : good o (x :: xs) = false := by
  show (match stepZ xs.length o x with
    | some o' => good o' xs
    | none => false) = _
  rw [h]
theorem stepZ_out {m o x : Int} (h : ¬ (0 ≤ x ∧ x ≤ m)) : stepZ m o x = none := if_neg h
theorem stepZ_zero {m o : Int} (hm : 0 ≤ m) (h : 0 < o) : stepZ m o 0 = some (o - 1) := by
  unfold stepZ
  rw [if_pos ⟨Int.le_refl 0, hm⟩, if_pos ⟨h, rfl⟩]
theorem stepZ_new {m o x : Int} (h0 : 0 ≤ x) (hm : x ≤ m) (h : o ≤ x) (hz : 0 < o → x ≠ 0) : stepZ m o x = some x := by
  unfold stepZ
  rw [if_pos ⟨h0, hm⟩, if_neg (fun z => hz z.1 z.2), if_pos h]
theorem stepZ_low {m o x : Int} (h : 0 < x) (h2 : x < o) : stepZ m o x = none := by
  unfold stepZ
  by_cases hm : 0 ≤ x ∧ x ≤ m
  · rw [if_pos hm, if_neg (fun z => by omega), if_neg (by omega)]
  · rw [if_neg hm]
theorem stepZ_nn {m o x o' : Int} (ho : 0 ≤ o) (h : stepZ m o x = some o') : 0 ≤ o' ∧ (o' ≤ m ∨ o' < o) := by
  unfold stepZ at h
  split at h
  · split at h
    · cases h
      omega
    · split at h
      · cases h
        omega
      · cases h
  · cases h
theorem good_split : ∀ (n : Nat) (A E : List Int), A.length + E.length = n → (A ++ E).Nodup → E.Pairwise (· > ·) → good (E.length : Nat) (row .srt (A ++ E)) = true
  | 0, A, E, hn, _, _ => by
    obtain rfl : A = [] := List.eq_nil_of_length_eq_zero (by omega)
    obtain rfl : E = [] := List.eq_nil_of_length_eq_zero (by omega)
    rfl
  | n + 1, A, E, hn, hnd, hE => by
    have hne : A ++ E ≠ [] := fun z => by
      have := congrArg List.length z
      simp only [List.length_append, List.length_nil] at this
      omega
    have hmem := lo_mem hne
    have hle : ∀ x, x ∈ A ++ E → lo (A ++ E) ≤ x := fun x hx => lo_le hx
    have hperm := next_perm (r := .srt) hne
    have hnd2 : (lo (A ++ E) :: next .srt (A ++ E)).Nodup := hperm.nodup_iff.mpr hnd
    have hlen := next_len (r := .srt) hne
    have hrl : (row .srt (next .srt (A ++ E))).length = n := by
      unfold row
      rw [List.length_map, rows_len]
      rw [List.length_append] at hlen
      omega
    rw [row_cons hne]
    by_cases hA : lo (A ++ E) ∈ A
    · have hi : (A ++ E).idxOf (lo (A ++ E)) = A.idxOf (lo (A ++ E)) := idx_app_mem hA
      have hlt := List.idxOf_lt_length_of_mem hA
      have hout : outs (A ++ E) = A.drop (A.idxOf (lo (A ++ E)) + 1) ++ E := by
        unfold outs
        rw [hi, List.drop_append_of_le_length (by omega)]
      have hins : ins (A ++ E) = A.take (A.idxOf (lo (A ++ E))) := by
        unfold ins
        rw [hi, List.take_append_of_le_length (by omega)]
      have hnext : next .srt (A ++ E) = A.take (A.idxOf (lo (A ++ E))) ++ (srt (outs (A ++ E))).reverse := by
        show ins _ ++ (srt (outs _)).reverse = _
        rw [hins]
      have hnd3 : (next .srt (A ++ E)).Nodup := (List.nodup_cons.mp hnd2).2
      have hond : (outs (A ++ E)).Nodup := hnd.sublist (List.drop_sublist _ _)
      rw [List.length_append] at hlen
      have ih := good_split n (A.take (A.idxOf (lo (A ++ E)))) (srt (outs (A ++ E))).reverse (by rw [← List.length_append, ← hnext]; omega) (by rw [← hnext]; exact hnd3) (by
        rw [List.pairwise_reverse]
        exact srt_lt hond)
      rw [← hnext, List.length_reverse, srt_len] at ih
      have hol : (outs (A ++ E)).length = A.length - (A.idxOf (lo (A ++ E)) + 1) + E.length := by rw [hout, List.length_append, List.length_drop]
      rw [good_cons (o' := ((outs (A ++ E)).length : Nat)) (stepZ_new (by omega) (by rw [hrl]; omega) (by omega) (by omega))]
      exact ih
    · have hEm : lo (A ++ E) ∈ E := (List.mem_append.mp hmem).resolve_left hA
      have hEne : E ≠ [] := fun z => by rw [z] at hEm; cases hEm
      obtain ⟨E1, e, rfl⟩ : ∃ E1 e, E = E1 ++ [e] := ⟨E.dropLast, E.getLast hEne, (List.dropLast_concat_getLast hEne).symm⟩
      rw [List.pairwise_append] at hE
      have he : lo (A ++ (E1 ++ [e])) = e := by
        rcases List.mem_append.mp hEm with h | h
        · have h1 := hE.2.2 _ h e (List.mem_singleton.mpr rfl)
          have h2 := hle e (by simp)
          omega
        · exact List.mem_singleton.mp h
      rw [he] at hA
      have hE1 : e ∉ E1 := fun z => by
        have := hE.2.2 _ z e (List.mem_singleton.mpr rfl)
        omega
      have hi : (A ++ (E1 ++ [e])).idxOf e = A.length + E1.length := by
        rw [idx_app_not hA, idx_app_not hE1]
        simp
      have hout : outs (A ++ (E1 ++ [e])) = [] := by
        unfold outs
        rw [he, hi]
        refine List.drop_of_length_le ?_
        simp
        omega
      have hnext : next .srt (A ++ (E1 ++ [e])) = A ++ E1 := by
        show ins _ ++ (srt (outs _)).reverse = _
        rw [hout]
        have e0 : srt [] = [] := List.eq_nil_of_length_eq_zero (srt_len [])
        rw [e0, List.reverse_nil, List.append_nil]
        unfold ins
        rw [he, hi, ← List.append_assoc, List.take_append_of_le_length (by rw [List.length_append]; omega), List.take_of_length_le (by rw [List.length_append]; omega)]
      rw [List.length_append, List.length_singleton] at hn
      have hnd3 : (next .srt (A ++ (E1 ++ [e]))).Nodup := (List.nodup_cons.mp hnd2).2
      rw [hnext] at hnd3 hrl ⊢
      rw [hout]
      have ih := good_split n A E1 (by omega) hnd3 hE.1
      rw [List.length_nil, good_cons (o' := ((E1.length : Nat) : Int)) (by
        rw [show ((0 : Nat) : Int) = 0 from rfl, stepZ_zero (by omega) (by rw [List.length_append, List.length_singleton]; omega)]
        congr 1
        rw [List.length_append, List.length_singleton]
        omega)]
      exact ih
/-- what a lane gives is a row -/
theorem good_row {ns : List Int} (h : ns.Nodup) : good 0 (row .srt ns) = true := by
  have := good_split ns.length ns [] (by simp) (by rw [List.append_nil]; exact h) List.Pairwise.nil
  rw [List.append_nil] at this
  exact this
end Ln
namespace Ln
/-! ### one number changed -/
def chg (ns : List Int) (a : Nat) (x : Int) : List Int := ns.take a ++ x :: ns.drop (a + 1)
theorem chg_len {ns : List Int} {a : Nat} {x : Int} (h : a < ns.length) : (chg ns a x).length = ns.length := by
  unfold chg
  rw [List.length_append, List.length_take, List.length_cons, List.length_drop]
  omega
theorem good_at {x : Int} {B : List Int} : ∀ {A : List Int} {o : Int}, good o (A ++ x :: B) = true → 0 ≤ x ∧ x ≤ B.length
  | [], o, h => by
    cases e : stepZ B.length o x with
    | none => rw [List.nil_append, good_bad e] at h; cases h
    | some y =>
      apply Classical.byContradiction
      intro z
      rw [stepZ_out z] at e
      cases e
  | a :: A, o, h => by
    cases e : stepZ ((A ++ x :: B).length : Nat) o a with
    | none => rw [List.cons_append, good_bad e] at h; cases h
    | some y =>
      rw [List.cons_append, good_cons e] at h
      exact good_at h
def okc (ns : List Int) (a : Nat) (x : Int) : Bool := decide (some x ≠ ns[a]?) && good 0 (chg ns a x)
def fixA (ns : List Int) (a m : Nat) : List (Int × Int) := ((List.range m).filter fun j : Nat => okc ns a j).map fun j : Nat => ((a : Int) + 1, (j : Int))
def fixes (ns : List Int) (k : Nat) (m : Nat → Nat) : List (Int × Int) := (List.range k).flatMap fun a => fixA ns a (m a)
theorem fixA_succ {ns : List Int} {a m : Nat} : fixA ns a (m + 1) = fixA ns a m ++ if okc ns a m = true then [((a : Int) + 1, (m : Int))] else [] := by
  unfold fixA
  rw [List.range_succ, List.filter_append, List.map_append]
  congr 1
  cases h : okc ns a m with
  | true => rw [if_pos rfl, List.filter_cons_of_pos (p := fun j : Nat => okc ns a j) h]; rfl
  | false => rw [if_neg (by decide), List.filter_cons_of_neg (p := fun j : Nat => okc ns a j) (by rw [h]; decide)]; rfl
theorem fixes_succ {ns : List Int} {k : Nat} {m : Nat → Nat} : fixes ns (k + 1) m = fixes ns k m ++ fixA ns k (m k) := by
  unfold fixes
  rw [List.range_succ, List.flatMap_append]
  simp
theorem okc_high {ns : List Int} {a : Nat} {x : Int} (h : okc ns a x = true) : x < (ns.length : Int) - (a : Nat) ∨ ns.length ≤ a := by
  unfold okc at h
  rw [Bool.and_eq_true] at h
  have := good_at (A := ns.take a) h.2
  rw [List.length_drop] at this
  omega
theorem fixA_all {ns : List Int} {a : Nat} (ha : a < ns.length) : ∀ {m : Nat}, ns.length - a ≤ m → fixA ns a m = fixA ns a (ns.length - a)
  | 0, h => by
    obtain e : ns.length - a = 0 := by omega
    rw [e]
  | m + 1, h => by
    by_cases e : ns.length - a = m + 1
    · rw [e]
    · rw [fixA_succ, fixA_all ha (m := m) (by omega), if_neg, List.append_nil]
      intro z
      have := okc_high z
      omega
theorem fixes_eq {ns : List Int} : ∀ {k : Nat}, k ≤ ns.length → fixes ns k (fun _ => ns.length) = fixes ns k fun a => ns.length - a
  | 0, _ => rfl
  | k + 1, h => by rw [fixes_succ, fixes_succ, fixes_eq (by omega), fixA_all (by omega) (by omega)]
theorem fixA_len {ns : List Int} {a m : Nat} : (fixA ns a m).length ≤ m := by
  unfold fixA
  rw [List.length_map]
  have := List.length_filter_le (fun j : Nat => okc ns a j) (List.range m)
  rw [List.length_range] at this
  exact this
theorem fixes_len {ns : List Int} {n : Nat} {m : Nat → Nat} (hm : ∀ a, m a ≤ n) : ∀ {k : Nat}, (fixes ns k m).length ≤ k * n
  | 0 => by show 0 ≤ _; omega
  | k + 1 => by
    rw [fixes_succ, List.length_append, Nat.succ_mul]
    have h1 := fixes_len (ns := ns) hm (k := k)
    have h2 := fixA_len (ns := ns) (a := k) (m := m k)
    have h3 := hm k
    omega
theorem mem_fixes {ns : List Int} {k : Nat} {m : Nat → Nat} {a j : Nat} (ha : a < k) (hj : j < m a) (h : okc ns a j = true) : ((a : Int) + 1, (j : Int)) ∈ fixes ns k m := by
  unfold fixes
  rw [List.mem_flatMap]
  refine ⟨a, List.mem_range.mpr ha, ?_⟩
  unfold fixA
  rw [List.mem_map]
  exact ⟨j, List.mem_filter.mpr ⟨List.mem_range.mpr hj, h⟩, rfl⟩
theorem chg_back {ns : List Int} {a : Nat} {x : Int} (h : a < ns.length) : chg (chg ns a x) a ns[a] = ns := by
  have e1 : (chg ns a x).take a = ns.take a := by
    unfold chg
    rw [List.take_append_of_le_length (by rw [List.length_take]; omega), List.take_take, Nat.min_self]
  have e2 : (chg ns a x).drop (a + 1) = ns.drop (a + 1) := by
    unfold chg
    rw [List.drop_append, List.length_take, List.drop_of_length_le (by rw [List.length_take]; omega)]
    rw [show a + 1 - min a ns.length = 1 from by omega]
    rfl
  unfold chg at e1 e2
  unfold chg
  rw [e1, e2, ← List.drop_eq_getElem_cons h, List.take_append_drop]
theorem chg_self {R : List Int} {s : Nat} (hs : s < R.length) : chg R s R[s] = R := by
  unfold chg
  rw [← List.drop_eq_getElem_cons hs, List.take_append_drop]
theorem chg_at {R : List Int} {s : Nat} {x : Int} (hs : s < R.length) : (chg R s x)[s]? = some x := by
  unfold chg
  rw [List.getElem?_append_right (by rw [List.length_take]; omega), List.length_take, show s - min s R.length = 0 from by omega]
  rfl
theorem mend {R : List Int} {s : Nat} {x : Int} (hs : s < R.length) (hg : good 0 R = true) (hne : chg R s x ≠ R) : ((s : Int) + 1, R[s]) ∈ fixes (chg R s x) (chg R s x).length fun a => (chg R s x).length - a := by
  have h1 : 0 ≤ R[s] ∧ R[s] ≤ (R.drop (s + 1)).length := by
    refine good_at (A := R.take s) (o := 0) ?_
    rw [← List.drop_eq_getElem_cons hs, List.take_append_drop]
    exact hg
  rw [List.length_drop] at h1
  have e : R[s] = ((R[s].toNat : Nat) : Int) := by omega
  have hl := chg_len (x := x) hs
  have := mem_fixes (ns := chg R s x) (k := (chg R s x).length) (m := fun a => (chg R s x).length - a) (a := s) (j := R[s].toNat) (by omega) (by omega) (by
    unfold okc
    rw [← e, chg_back hs, hg, Bool.and_true]
    refine decide_eq_true fun z => hne ?_
    rw [chg_at hs] at z
    rw [← Option.some.inj z, chg_self hs])
  rw [← e] at this
  exact this
end Ln
namespace Sy
open PySem PySem.Spec PyProof.Rows L2
/-! ### set(l), a list of ints, the table kept as one that can be walked -/
section
variable {P : Program} {w : World} {A : Around} {E : Value → Shared → Prop} {s : Shared}
abbrev setO (w : World) : Obj := ({ cls := .type "set", dict := none, data := .set #[] 0 (.fresh 0 0 (!w.params.followText "set-order")) } : Obj)
abbrev hpS (s : Shared) (w : World) : Heap := Heap.push (Shared.heap s) (setO w)
theorem set_lstI {lp : Addr} {its : Array Value} (ks : List Int) {Q : Value → Shared → Prop} (hn0 : A.handled = none) (hl : s.heap.IsList lp its) (hit : IntsAre its.toList ks) (hb : ks.length + 1 < scanBound)
    (fin : ∀ (h' : Heap) (tk c : Nat), SetR w h' s.heap.objs.size (fun j => decide (j ∈ ks)) c → c ≤ ks.length → (∀ b o, s.heap.get? b = some o → h'.get? b = some o) → Q (.ref s.heap.objs.size) { s with heap := h', toks := tk }) :
    wpAny (model P w) A (call (.type "set") [.ref lp]) Q E s := by
  have hsz : its.size = ks.length := by have q := IntsAre.length hit; rw [Array.length_toList] at q; exact q
  obtain ⟨c0, tl, m0⟩ := F.called_set.mro
  have m1 := F.called_set.made
  have m2 := F.called_set.sub
  refine wpAny_call (codeAny_of_tree (show wpAny _ _ (callAny (.type "set") _) _ _ _ from ?_))
  refine wpAny_pure ⟨Code.quiet_builtin _ (show _ by decide +kernel), codeAny_builtin F.entry_type_call ?_⟩
  rw [Around.under_plain (weight_type_call_type "set" [.ref lp] []) rfl]
  have m3 := F.called_set.notType
  have m4 := F.called_set.canCreate
  have m5 := F.typeCall_set_1 (.ref lp)
  repeat (any_goals (first | assumption | wp_step))
  refine codeAny_mono (code_set_led1 (.ref lp) (E := E) (Q₁ := fun y t => y = .ref s.heap.objs.size ∧ t = { s with heap := (hpS s w) }) ⟨rfl, rfl⟩) fun r1 t1 hr1 => ?_
  cases r1 with
  | error _ => exact hr1
  | ok f1 =>
    cases f1 with
    | ret y =>
      obtain ⟨rfl, rfl⟩ := hr1
      have g0 : (hpS s w).get? s.heap.objs.size = some (setO w) := Heap.get?_push_size _ rfl
      have tI : Shared.TypeIs { s with heap := (hpS s w) } (.ref s.heap.objs.size) "set" := ⟨_, g0, rfl⟩
      have m6 := F.called_set.init.lookup
      have m7 := F.called_set.init.bind (.ref s.heap.objs.size)
      repeat (any_goals (first | assumption | wp_step))
      refine codeAny_mono (codeAny_call_builtin (R := wants (fun r2 t2 => r2 = .none ∧ ∃ h' tk c, t2 = { s with heap := h', toks := tk } ∧ SetR w h' s.heap.objs.size (fun j => decide (j ∈ ks)) c ∧ c ≤ ks.length ∧ (∀ b o, s.heap.get? b = some o → h'.get? b = some o)) E) F.called_set.init.plain F.entry_set_init (check_set_init_1 tI ?_)) fun r2 t2 hr2 => ?_
      · obtain ⟨⟨oc, od, odt, osl⟩, ho, hcl, nl, hdl⟩ := hl
        simp only at hcl hdl
        subst hcl hdl
        have ho1 : (hpS s w).get? lp = some { cls := .type "list", dict := od, data := .seq its nl, slots := osl } := Heap.get?_push_of_some _ ho
        have s1 := F.sub_list_set
        have s2 := F.sub_list_frozenset
        have s3 : (Value.type "list" == Value.type "dict") = false := by decide
        have il : (hpS s w).IsList lp its := ⟨_, ho1, rfl, nl, rfl⟩
        unfold Builtin.«set.__init__»
        unfold noKeywords Builtin.Frozenset.updateFrom
        generalize hPI : pyIter = PI
        wp_walk
        subst hPI
        refine wpAny_pyIter_list il (wpAny_bind (wpAny_runValue ?_))
        have lt0 : lp < s.heap.objs.size := Heap.lt_size ho
        have hn3 : A.in1.in1.in1.handled = none := by simp [hn0]
        have ne1 : lp ≠ (hpS s w).objs.size := by rw [Heap.size_push]; exact fun z => absurd lt0 (by rw [z]; exact Nat.not_lt.mpr (Nat.le_succ _))
        have nin : s.heap.objs.size ∉ [(hpS s w).objs.size, lp] := by
          rw [Heap.size_push]
          simp only [List.mem_cons, List.not_mem_nil, or_false, not_or]
          exact ⟨fun z => (Nat.ne_of_lt (Nat.lt_succ_self _)) z, fun z => absurd lt0 (by rw [z]; exact Nat.lt_irrefl _)⟩
        have hval : ∀ (i : Nat) (v : Value), its[i]? = some v → ∃ k t, ks[i]? = some k ∧ v = .int k t := fun i v hv => by
          have hi : i < ks.length := by rw [← hsz]; exact (Array.getElem?_eq_some_iff.mp hv).1
          obtain ⟨t, e⟩ := PyProof.Rows.IntsAre.int_at hit i v (by rwa [Array.getElem?_toList])
          refine ⟨ks[i], t, List.getElem?_eq_getElem hi, ?_⟩
          rw [e, List.getD_eq_getElem?_getD, List.getElem?_eq_getElem hi]
          rfl
        refine set_update_ints ((Walks.list hn3 _ lp ne1 its).toS) s.heap.objs.size nin ks hsz hb hval (its.size - 0) 0 _ (by omega) (Nat.zero_le _) ⟨⟨_, Heap.get?_push_size _ rfl, rfl, rfl⟩, (il.push _)⟩ ?h0 ?h9
        case h0 => exact ⟨0, Nat.le_refl 0, setR_new_at (Heap.get?_push_of_some _ g0)⟩
        case h9 =>
          intro t3 c3 hm hc3 hS3
          obtain ⟨h', g2, d2, tk2, os2⟩ := t3
          obtain rfl : g2 = s.gens := hm.gens
          obtain rfl : d2 = s.drawn := hm.drawn
          obtain rfl : os2 = s.os := hm.os
          show wpAny _ _ _ _ _ _
          refine wpAny_pure (show wpAny _ _ (ret Value.none) _ _ _ from ?_)
          rw [hsz] at hc3
          refine wpAny_pure ⟨rfl, h', tk2, c3, rfl, hS3, hc3, fun b o e => ?_⟩
          have lt1 : b < s.heap.objs.size := Heap.lt_size e
          refine hm.heap b o ?_ (Heap.get?_push_of_some _ (Heap.get?_push_of_some _ e))
          rw [Heap.size_push]
          simp only [List.mem_cons, List.not_mem_nil, or_false, not_or]
          exact ⟨fun z => absurd lt1 (by rw [z]; exact Nat.lt_irrefl _), fun z => absurd lt1 (by rw [z]; exact Nat.not_lt.mpr (Nat.le_succ _))⟩
      · cases r2 with
        | error _ => exact hr2
        | ok f2 =>
          cases f2 with
          | ret y2 =>
            obtain ⟨rfl, h', tk, c', rfl, hS', hc', hk'⟩ := hr2
            repeat (any_goals (first | assumption | wp_step))
            exact fin _ _ _ hS' hc' hk'
          | _ => exact hr2.elim
    | _ => exact hr1.elim
end
section
variable {X : Cx} {e a b c tg iter : Expr} {env : Env_} {km : MO → Env_ → Prop} {pos p p2 q : Pos}
def tSSL (K : PySem.W.Frag) (ta : TE) : TE := fun σ H Q => ta σ H fun x H1 => ∃ (l : Addr) (ns : List Int), x = .ref l ∧ SqL K H1 l (ns.map V.int) ∧ ns.length < 64 ∧
  ∀ (out : List Int) (p : Addr), out.Pairwise (· < ·) → (∀ k : Int, k ∈ out ↔ k ∈ ns) → H1 p = none → Q (.ref p) (upd H1 p (.lst (out.map V.int)))
theorem pe_ssl {ta : TE} (hg : Gl X "sorted") (hm : X.mg "sorted" = none) (hg2 : Gl X "set") (hm2 : X.mg "set" = none) (ha : PE X a ta) (hc : X.calm = true := by rfl)
    (na : starEach [a] X.env = (false, eval a X.env) :: starEach [] X.env := by rfl) : PE X (.Call (.Name "sorted" p) [.Call (.Name "set" p2) [a] [] q] [] pos) (tSSL X.K ta) := by
  refine ⟨fun pins s σ H Q I h => ?_⟩
  refine Call_ (ld_blt I hg hm (show bootBuiltins "sorted" = some (.builtin "sorted") by decide +kernel) ?_)
  refine PyProof.Rows.callWith_builtin1 (PyProof.Rows.args_cons ?_ rfl) rfl rfl
  refine Call_ (ld_blt I hg2 hm2 boot_set ?_)
  refine PyProof.Rows.callWith_type1 (PyProof.Rows.args_cons (thn (ha.run pins s σ H _ I h) fun v s1 ⟨x, H1, I1, r1, q1⟩ => PyProof.Rows.args_nil ?_) na) na rfl
  obtain ⟨l, ns, rfl, hq, h64, q1⟩ := q1
  cases r1
  obtain ⟨its, r, pl, hz⟩ := I1.list hq
  refine set_lstI ns (I1.ok.hd hc) pl.isList (by simpa using RZ.intsAre_vals r) (by unfold scanBound; omega) fun h' tk cc hS hcc hk => ?_
  refine PyProof.Rows.args_nil ?_
  have I2 : Inv X pins σ H1 { s1 with heap := h', toks := tk } := I1.kept hk
  have hS2 : SetR X.w ({ s1 with heap := h', toks := tk } : Shared).heap s1.heap.objs.size (fun j => decide (j ∈ ns)) cc := hS
  generalize ({ s1 with heap := h', toks := tk } : Shared) = s2 at hS2 I2 ⊢
  refine sorted_set hS2 (I1.ok.hd hc) (by omega) fun s' p out c ns' k g o hp hg hi hs hm hl => ?_
  have hlen : (ns'.map V.int).length ≤ sizeLine := by rw [List.length_map, hl, sizeLine_eq]; omega
  have hn : H1 p = none := I2.hok.fresh hp
  have e : s' = { s2 with heap := s'.heap, gens := s'.gens, drawn := s'.drawn, toks := s'.toks } := by
    cases s'; cases s2; cases o; rfl
  have J : Inv X pins σ (upd H1 p (.lst (ns'.map V.int))) { s2 with heap := s'.heap, gens := s'.gens, drawn := s'.drawn, toks := s'.toks } :=
    I2.call (ch := []) (Un.laid k hp hn) (I2.hok.laid k hp ⟨hlen, out.toList, c, vals_of_ints hi, hg⟩) (by rw [g]; exact I2.bare) (fun _ z => nomatch z)
  rw [e]
  exact ⟨.ref p, _, J, rfl, q1 ns' p hs (fun k => by rw [hm k]; simp) hn⟩
theorem em_sstL (hm : X.mg "sorted" = none) (hm2 : X.mg "set" = none) (h : EL X a env fun ds env' => ∃ ns : List Int, ds = ns.map I ∧ ns.length < 64 ∧ ∀ out : List Int, out.Pairwise (· < ·) → (∀ k, k ∈ out ↔ k ∈ ns) → km (.lst (out.map I)) env')
    (hg : Gl X "sorted" := by rfl) (hg2 : Gl X "set" := by rfl) (hc : X.calm = true := by rfl) (na : starEach [a] X.env = (false, eval a X.env) :: starEach [] X.env := by rfl) : EM X (.Call (.Name "sorted" p) [.Call (.Name "set" p2) [a] [] q] [] pos) env km :=
  .of (pe_ssl hg hm hg2 hm2 pe_can hc na) fun M0 B M σ c Q hQ => h M0 B M σ c _ fun v H ⟨ad, xs, ds, env', B', M', e1, e2, c', sm, hs, hr, ns, e3, h64, q⟩ => by
  subst e1 e2 e3
  rw [hr.ints_eq] at hs
  refine ⟨ad, ns, rfl, hs, h64, fun out p hp hm hn => hQ _ _ ?_⟩
  obtain ⟨h1, h2⟩ := J_none hn
  exact ⟨p, .lst (out.map I), .lst (out.map V.int), env', B', M', rfl, upd_JM, h1, h2, c', sm, ⟨_, rfl, RpA.ints⟩, q out hp hm⟩
end
end Sy
namespace Sy
open PySem PySem.Spec PyProof.Rows L2
/-! ### d in l, d not in l: data that == tells apart, l a list of one's own or data -/
section
variable {X : Cx} {a b : Expr} {env : Env_} {k : D → Env_ → Prop} {kb : Bool → Env_ → Prop} {pos p : Pos} {B H : Hp} {K : PySem.W.Frag}
theorem any_eqv {d : D} (kd : d.eqk) : ∀ {ds : List D}, eqkA ds → (((pyA ds).any fun z => PyData.eqv z d.py) = true ↔ d ∈ ds)
  | [], _ => ⟨fun h => (nomatch h), fun h => (nomatch h)⟩
  | e :: ds, ⟨k1, k2⟩ => by
    have ih := any_eqv kd k2
    have h1 := eqv_iff e d k1 kd
    show ((PyData.eqv e.py d.py || ((pyA ds).any fun z => PyData.eqv z d.py)) = true ↔ _)
    rw [Bool.or_eq_true, ih, h1, List.mem_cons]
    constructor
    · rintro (rfl | h)
      · exact .inl rfl
      · exact .inr h
    · rintro (rfl | h)
      · exact .inl rfl
      · exact .inr h
theorem ee_niX (i : Nat) {x : Str} {pn : Pos} (hu : X.A.units + 65 < cLine) (h : EE X a env fun d env2 => ∃ (ad : Addr) (ds : List D), env2[i]? = some (.mu ad (.lst ds)) ∧ d.eqk ∧ (D.lst ds).eqk ∧ d.dep ≤ 64 ∧ (D.lst ds).dep ≤ 64 ∧ ∀ v, (v = true ↔ d ∉ ds) → k (Bl v) env2)
    (hm : behindInMarks .NotIn (.Name x pn) = false := by first | exact nomark _ | rfl) (hN : X.N[i]? = some x := by rfl) (hv : Vis X.env.scope x := by first | exact Or.inl rfl | exact Or.inr (Or.inl rfl) | exact Or.inr (Or.inr rfl)) (hd : (x == ("__debug__" : Str)) = false := by decide) (hcd : (x == ("__classdict__" : Str)) = false := by decide) : EE X (.Compare a [.NotIn] [.Name x pn] pos) env k :=
  .of (pe_cmpR (op_notInD hu) pe_can (pe_var hN hv hd hcd) hm) fun M0 B M σ c Q hQ => h M0 B M σ c _ fun v H ⟨d, env1, B1, M1, e1, c1, s1, r1, ad, ds, hi, k1, k2, p1, p2, q⟩ => by
    subst e1
    obtain ⟨s0, hs0, es0, o0, ho0, xs, rfl, hr⟩ := c1.slot i _ hi
    refine ⟨.ref ad, by rw [hs0, es0], d.py, pyA ds, Rp.dp c1.same d v k1 r1, .lst (SqL.of (J_M ho0)) (RpA.dp c1.same ds xs k2 hr), eqk_shaped k1 p1, eqk_shaped k2 p2, hQ _ _ ((PostD.nowA c1 (q _ ?_)).back s1)⟩
    rw [Bool.not_eq_true', ← Bool.not_eq_true, any_eqv k1 k2]
theorem eb_niX (i : Nat) {x : Str} {pn : Pos} (hu : X.A.units + 65 < cLine) (h : EE X a env fun d env2 => ∃ (ad : Addr) (ds : List D), env2[i]? = some (.mu ad (.lst ds)) ∧ d.eqk ∧ (D.lst ds).eqk ∧ d.dep ≤ 64 ∧ (D.lst ds).dep ≤ 64 ∧ ∀ v, (v = true ↔ d ∉ ds) → kb v env2)
    (hm : behindInMarks .NotIn (.Name x pn) = false := by first | exact nomark _ | rfl) (hN : X.N[i]? = some x := by rfl) (hv : Vis X.env.scope x := by first | exact Or.inl rfl | exact Or.inr (Or.inl rfl) | exact Or.inr (Or.inr rfl)) (hd : (x == ("__debug__" : Str)) = false := by decide) (hcd : (x == ("__classdict__" : Str)) = false := by decide) : EB X (.Compare a [.NotIn] [.Name x pn] pos) env kb :=
  .of (pt_cmpR (op_notInD hu) pe_can (pe_var hN hv hd hcd) hm) fun M0 B M σ c Q hQ => h M0 B M σ c _ fun v H ⟨d, env1, B1, M1, e1, c1, s1, r1, ad, ds, hi, k1, k2, p1, p2, q⟩ => by
    subst e1
    obtain ⟨s0, hs0, es0, o0, ho0, xs, rfl, hr⟩ := c1.slot i _ hi
    refine ⟨.ref ad, by rw [hs0, es0], d.py, pyA ds, Rp.dp c1.same d v k1 r1, .lst (SqL.of (J_M ho0)) (RpA.dp c1.same ds xs k2 hr), eqk_shaped k1 p1, eqk_shaped k2 p2, _, rfl, hQ _ _ ((PostB.now c1 (q _ ?_)).back s1)⟩
    rw [Bool.not_eq_true', ← Bool.not_eq_true, any_eqv k1 k2]
theorem co_inD {d : D} {ds : List D} (hu : X.A.units + 65 < cLine) (k1 : d.eqk) (k2 : (D.lst ds).eqk) (p1 : d.dep ≤ 64) (p2 : (D.lst ds).dep ≤ 64) (q : ∀ v, (v = true ↔ d ∈ ds) → k (Bl v) env) : CO X .In d (.lst ds) env k := .of (op_inD hu) fun M0 B M σ c v1 v2 r1 r2 Q hQ =>
  ⟨d.py, pyA ds, Rp.dp c.same d v1 k1 r1, Rp.dp c.same (.lst ds) v2 k2 r2, eqk_shaped k1 p1, eqk_shaped k2 p2, hQ _ _ (.nowA c (q _ (any_eqv k1 k2)))⟩
theorem co_niD {d : D} {ds : List D} (hu : X.A.units + 65 < cLine) (k1 : d.eqk) (k2 : (D.lst ds).eqk) (p1 : d.dep ≤ 64) (p2 : (D.lst ds).dep ≤ 64) (q : ∀ v, (v = true ↔ d ∉ ds) → k (Bl v) env) : CO X .NotIn d (.lst ds) env k := .of (op_notInD hu) fun M0 B M σ c v1 v2 r1 r2 Q hQ =>
  ⟨d.py, pyA ds, Rp.dp c.same d v1 k1 r1, Rp.dp c.same (.lst ds) v2 k2 r2, eqk_shaped k1 p1, eqk_shaped k2 p2, hQ _ _ (.nowA c (q _ (by rw [Bool.not_eq_true', ← Bool.not_eq_true, any_eqv k1 k2])))⟩
end
theorem bo_repT {X : Cx} {env : Env_} {k : D → Env_ → Prop} {ds : List D} {m : Int} (hne : ds ≠ []) (h1 : 2 ≤ m) (h2 : m ≤ 1000) (hl : ds.length ≤ 1000) (q : k (.tup (List.replicate m.toNat ds).flatten) env) : BO X .Mult (.tup ds) (I m) env k := .of op_repS fun M0 B M σ c v1 v2 r1 r2 Q hQ => by
  obtain ⟨a1, xs, rfl, hs1, hr1⟩ := r1
  cases r2
  refine ⟨a1, m, xs, rfl, rfl, sqT_same c.same hs1.sq, fun z => ?_, h1, h2, by rw [hr1.length]; exact hl, fun p o hp n1 n2 => hQ _ _ (.newT c hp n1 n2 (hr1.flat _) q)⟩
  subst z
  exact hne (List.eq_nil_of_length_eq_zero (by rw [← hr1.length]; rfl))
theorem room65 {k : Nat} {A : Around} (r : Room k A) : A.units + 65 < cLine := by have := r.un; omega
end Sy
namespace Sy
open PySem PySem.Spec PyProof.Rows L2
/-! ### a, b = x, y where a name is a cell: by way of a tuple -/
section
variable {X : Cx} {a b : Expr} {env : Env_} {k4 : K4} {pos : Pos}
theorem put_two {i j : Nat} {ts : List TV} {env : Env_} {kk : Env_ → Prop} (h : Put [i, j] ts env kk) : ts.length = 2 := put_len h 2 rfl
theorem s_parC (i j : Nat) {x y : Str} {px py pt : Pos} {kt k2 pt2} (h : EU X [a, b] env fun ts env' => Put [i, j] ts env' k4.nx) (hN : X.N.Nodup) (hc : X.calm = true := by rfl) (hi : X.N[i]? = some x := by rfl) (hj : X.N[j]? = some y := by rfl)
    (hx : Loc X.env.scope x := by first | exact Or.inl rfl | exact Or.inr rfl) (hy : Loc X.env.scope y := by first | exact Or.inl rfl | exact Or.inr rfl)
    (fx : X.fn x = true ∨ X.env.scope.names.lookup x = some .local := by first | exact .inl rfl | exact .inr rfl) (fy : X.fn y = true ∨ X.env.scope.names.lookup y = some .local := by first | exact .inl rfl | exact .inr rfl)
    (hs : swapsWithSole [.Tuple [.Name x px, .Name y py] kt pt] (.Tuple [a, b] k2 pt2) pos.line X.env = pure false := by rfl) (hw : swappedStores [.Tuple [.Name x px, .Name y py] kt pt] (.Tuple [a, b] k2 pt2) X.env = pure none := by rfl)
    (h1 : (assignEach [.Tuple [.Name x px, .Name y py] kt pt] X.env).map (·.2) = [assign (.Tuple [.Name x px, .Name y py] kt pt) X.env] := by rfl)
    (hn : (assignEach [.Name x px, .Name y py] X.env).length = 2 := by rfl) (hst : (assignEach [.Name x px, .Name y py] X.env).findIdx? (·.1) = none := by rfl)
    (ha : (assignEach [.Name x px, .Name y py] X.env).map (·.2) = assign (.Name x px) X.env :: (assignEach [.Name y py] X.env).map (·.2) := by rfl) (hb : (assignEach [.Name y py] X.env).map (·.2) = assign (.Name y py) X.env :: (assignEach [] X.env).map (·.2) := by rfl) :
    S1 X (.Assign [.Tuple [.Name x px, .Name y py] kt pt] (.Tuple [a, b] k2 pt2) pos) env k4 :=
  .of (ps_asg (pe_tup pa_can) (pg_tup hc (pgs_cons (pg_name hN hi hx fx) (pgs_cons (pg_name hN hj hy fy) pgs_nil hb) ha) hn hst) hs hw h1) fun M0 B M σ c Dd q1 _ _ _ => h M0 B M σ c _ fun vs H ⟨ts, env2, B2, M2, Mf, e2, c2, s2, r2, p2⟩ => by
    subst e2
    obtain ⟨v, w, rfl⟩ : ∃ v w, vs = [v, w] := by
      have hl : vs.length = 2 := (tvs_len r2).trans (put_two p2)
      match vs, hl with
      | [v, w], _ => exact ⟨v, w, rfl⟩
    refine ⟨by rw [sizeLine_eq]; show 2 ≤ _; decide, fun p hp => ?_⟩
    obtain ⟨n1, n2⟩ := J_none hp
    have c3 := c2.new (o := .tup [v, w]) n1 n2
    have s3 : Same B2 (upd B2 p (.tup [v, w])) := same_new n2
    rw [upd_JB n1]
    have hT : J (upd B2 p (.tup [v, w])) M2 p = some (.tup [v, w]) := by rw [← upd_JB n1, upd_same]
    exact ⟨p, [v, w], rfl, SqT.of hT, rfl, v, [w], rfl, w, [], rfl, rfl, q1 _ _ ((put_ok ts [i, j] [v, w] M0 Mf _ M2 env2 σ c3 (r2.mono s3) p2).back (s2.trans s3))⟩
end
end Sy
namespace Sy
open PySem PySem.Spec PyProof.Rows L2
/-! ### dicts whose keys are ints or texts: {}, d[k] = v, d[k], k in d -/
section
variable {X : Cx} {e a b : Expr} {env : Env_} {k : D → Env_ → Prop} {kb : Bool → Env_ → Prop} {km : MO → Env_ → Prop} {k4 : K4} {pos : Pos}
theorem em_dnew (q : km (.dK []) env) : EM X (.Dict [] [] pos) env km := .of pe_dnewK fun M0 B M σ c Q hQ p hp => hQ _ _ (PostM.new (mo := .dK []) c hp ⟨[], rfl, rfl⟩ q)
theorem s_dput (i : Nat) {x : Str} {pn p2 : Pos} {ad : Addr} {mo0 : MO} (hu : X.A.units + 1 < cLine) (hi0 : env[i]? = some (.mu ad mo0)) (h : EE X e env fun d env1 => ∃ mo1, env1[i]? = some (.mu ad mo1) ∧ EE X b env1 fun d2 env2 => ∃ kvs ky, env2[i]? = some (.mu ad (.dK kvs)) ∧ d2 = kD ky ∧ kvs.length ≤ 1000000 ∧ k4.nx (env2.set i (.mu ad (.dK (putD kvs ky d)))))
    (hN : X.N[i]? = some x := by rfl) (hv : Vis X.env.scope x := by first | exact Or.inl rfl | exact Or.inr (Or.inl rfl) | exact Or.inr (Or.inr rfl)) (hd : (x == ("__debug__" : Str)) = false := by decide) (hcd : (x == ("__classdict__" : Str)) = false := by decide)
    (hs : swapsWith e (some (.Subscript (.Name x pn) b p2)) pos.line X.env = pure false := by rfl) : S1 X (.Assign [.Subscript (.Name x pn) b p2] e pos) env k4 :=
  .of (ps_dput hu (pe_var hN hv hd hcd) pe_can pe_can hs) fun M0 B M σ c Dd q1 q2 q3 q4 => h M0 B M σ c _ fun v H ⟨d, env1, B1, M1, e1, c1, s1, r1, mo1, hi1, h2⟩ => by
    subst e1
    obtain ⟨s0, hs0, es0, o0, ho0, hr0⟩ := c1.slot i _ hi1
    refine ⟨mo1.val ad, by rw [hs0, es0], h2 M0 B1 M1 σ c1 _ fun v2 H ⟨d2, env2, B2, M2, e2, c2, s2, r2, kvs, ky, hi2, e3, hl, z⟩ => ?_⟩
    subst e2 e3; cases r2
    obtain ⟨s3, hs3, es3, o1, ho1, ks, rfl, hr⟩ := c2.slot i _ hi2
    refine ⟨ad, _, c1.valeq hi1 c2 hi2, DPut.k (J_M ho1) (by rw [RpK.length hr, sizeLine_eq]; omega), ?_⟩
    rw [upd_JM]
    exact q1 _ _ ⟨_, B2, _, rfl, c2.mut (mo' := .dK (putD kvs ky d)) hi2 ⟨_, rfl, hr.put (Rp.mono s2 d v r1)⟩, s1.trans s2, z⟩
theorem DGet.kf {H : Hp} {a : Addr} {o : Obj} {kvs : List (Key × V)} {k : Key} (e : H a = some (.frz o (.dK kvs))) : DGet H a (kV k) (valV kvs k) := .inl ⟨kvs, k, .inr ⟨o, e⟩, rfl, rfl⟩
theorem ee_dget (hu : X.A.units + 1 < cLine) (h : EE X a env fun d env1 => EE X b env1 fun d2 env2 => ∃ kvs ky v, d = .dct kvs ∧ d2 = kD ky ∧ valD kvs ky = some v ∧ k v env2) (hs : NoSl b := by exact fun _ _ => rfl) : EE X (.Subscript a b pos) env k :=
  .of (pe_dget hu pe_can pe_can hs) fun M0 B M σ c Q hQ => h M0 B M σ c _ fun v H ⟨d, env1, B1, M1, e1, c1, s1, r1, h2⟩ => by
    subst e1
    refine h2 M0 B1 M1 σ c1 _ fun v2 H ⟨d2, env2, B2, M2, e2, c2, s2, r2, kvs, ky, w, e3, e4, hj, q⟩ => ?_
    subst e2 e3 e4; cases r2
    obtain ⟨ad, ks, od, rfl, hB, hr⟩ := Rp.mono s2 _ _ r1
    obtain ⟨u, hv, rv⟩ := hr.val.1 w hj
    exact ⟨ad, u, rfl, by rw [← hv]; exact DGet.kf (c2.same _ _ hB), hQ _ _ ((PostD.now c2 rv q).back (s1.trans s2))⟩
def rInK : R2 := fun y x H Q => ∃ a o, x = .ref a ∧ DGet H a y o ∧ Q (.bl o.isSome) H
def rNiK : R2 := fun y x H Q => ∃ a o, x = .ref a ∧ DGet H a y o ∧ Q (.bl (!o.isSome)) H
theorem op_inK (hu : X.A.units + 1 < cLine) : OpR X (compareOp .In) rInK := by
  intro pins s σ H y x u v Q I ry rx h
  obtain ⟨a, o, rfl, g, q⟩ := h
  obtain rfl : v = Value.ref a := rx
  exact d_in hu I g ry fun s3 I3 => ⟨.bl o.isSome, H, I3, rfl, q⟩
theorem op_niK (hu : X.A.units + 1 < cLine) : OpR X (compareOp .NotIn) rNiK := by
  intro pins s σ H y x u v Q I ry rx h
  obtain ⟨a, o, rfl, g, q⟩ := h
  obtain rfl : v = Value.ref a := rx
  exact d_notIn hu I g ry fun s3 I3 => ⟨.bl (!o.isSome), H, I3, rfl, q⟩
theorem RpK.isSome {K : PySem.W.Frag} {B : Hp} {kvs : List (Key × D)} {ks : List (Key × V)} (h : RpK K B kvs ks) (ky : Key) : (valV ks ky).isSome = (valD kvs ky).isSome := by
  cases e : valD kvs ky with
  | none => rw [h.val.2 e]; rfl
  | some d =>
    obtain ⟨v, hv, _⟩ := h.val.1 d e
    rw [hv]
    rfl
theorem co_inK {kvs : List (Key × D)} {ky : Key} (hu : X.A.units + 1 < cLine) (q : k (Bl (valD kvs ky).isSome) env) : CO X .In (kD ky) (.dct kvs) env k := .of (op_inK hu) fun M0 B M σ c v1 v2 r1 r2 Q hQ => by
  cases r1
  obtain ⟨ad, ks, od, rfl, hB, hr⟩ := r2
  refine ⟨ad, _, rfl, DGet.kf (c.same _ _ hB), hQ _ _ (.nowA c ?_)⟩
  rw [RpK.isSome hr]
  exact q
theorem co_niK {kvs : List (Key × D)} {ky : Key} (hu : X.A.units + 1 < cLine) (q : k (Bl (!(valD kvs ky).isSome)) env) : CO X .NotIn (kD ky) (.dct kvs) env k := .of (op_niK hu) fun M0 B M σ c v1 v2 r1 r2 Q hQ => by
  cases r1
  obtain ⟨ad, ks, od, rfl, hB, hr⟩ := r2
  refine ⟨ad, _, rfl, DGet.kf (c.same _ _ hB), hQ _ _ (.nowA c ?_)⟩
  rw [RpK.isSome hr]
  exact q
theorem co_inKI {kvs : List (Key × D)} {i : Int} (hu : X.A.units + 1 < cLine) (q : k (Bl (valD kvs (.inl i)).isSome) env) : CO X .In (I i) (.dct kvs) env k := co_inK (ky := .inl i) hu q
theorem co_niKI {kvs : List (Key × D)} {i : Int} (hu : X.A.units + 1 < cLine) (q : k (Bl (!(valD kvs (.inl i)).isSome)) env) : CO X .NotIn (I i) (.dct kvs) env k := co_niK (ky := .inl i) hu q
end
end Sy
namespace Sy
open PySem PySem.Spec PyProof.Rows L2
/-! ### sorted(set(l)), a long list of few ints -/
theorem nodup_len_le : ∀ {K M : List Int}, K.Nodup → (∀ k, k ∈ K → k ∈ M) → K.length ≤ M.length
  | [], _, _, _ => Nat.zero_le _
  | x :: K, M, h, hs => by
    have hx := hs x List.mem_cons_self
    obtain ⟨hn, hd⟩ := List.nodup_cons.mp h
    have ih := nodup_len_le (K := K) (M := M.erase x) hd fun k hk => (List.mem_erase_of_ne (fun e => hn (by rw [← e]; exact hk))).mpr (hs k (List.mem_cons_of_mem _ hk))
    rw [List.length_erase_of_mem hx] at ih
    have := List.length_pos_of_mem hx
    rw [List.length_cons]
    omega
section
variable {X : Cx} {a : Expr} {env : Env_} {km : MO → Env_ → Prop} {pos p p2 q : Pos}
def tSSB (K : PySem.W.Frag) (ta : TE) : TE := fun σ H Q => ta σ H fun x H1 => ∃ (l : Addr) (ns : List Int), x = .ref l ∧ SqL K H1 l (ns.map V.int) ∧ ns.length < 4000 ∧ (∃ M : List Int, M.length < 64 ∧ ∀ k, k ∈ ns → k ∈ M) ∧
  ∀ (out : List Int) (p : Addr), out.Pairwise (· < ·) → (∀ k : Int, k ∈ out ↔ k ∈ ns) → H1 p = none → Q (.ref p) (upd H1 p (.lst (out.map V.int)))
theorem setR_few {w : World} {h : Heap} {ad : Addr} {S : Int → Bool} {n : Nat} {M : List Int} (R : SetR w h ad S n) (hS : ∀ k, S k = true → k ∈ M) : n ≤ M.length := by
  obtain ⟨o, es, ep, t, _, _, _, _, nd, hm, _, _, hn, _⟩ := R
  have := nodup_len_le nd fun k hk => hS k ((hm k).mpr hk)
  rw [List.length_map, Array.length_toList, hn] at this
  exact this
theorem pe_ssb {ta : TE} (hg : Gl X "sorted") (hm : X.mg "sorted" = none) (hg2 : Gl X "set") (hm2 : X.mg "set" = none) (ha : PE X a ta) (hc : X.calm = true := by rfl)
    (na : starEach [a] X.env = (false, eval a X.env) :: starEach [] X.env := by rfl) : PE X (.Call (.Name "sorted" p) [.Call (.Name "set" p2) [a] [] q] [] pos) (tSSB X.K ta) := by
  refine ⟨fun pins s σ H Q I h => ?_⟩
  refine Call_ (ld_blt I hg hm (show bootBuiltins "sorted" = some (.builtin "sorted") by decide +kernel) ?_)
  refine PyProof.Rows.callWith_builtin1 (PyProof.Rows.args_cons ?_ rfl) rfl rfl
  refine Call_ (ld_blt I hg2 hm2 boot_set ?_)
  refine PyProof.Rows.callWith_type1 (PyProof.Rows.args_cons (thn (ha.run pins s σ H _ I h) fun v s1 ⟨x, H1, I1, r1, q1⟩ => PyProof.Rows.args_nil ?_) na) na rfl
  obtain ⟨l, ns, rfl, hq, h4k, ⟨M, hM, hMs⟩, q1⟩ := q1
  cases r1
  obtain ⟨its, r, pl, hz⟩ := I1.list hq
  refine set_lstI ns (I1.ok.hd hc) pl.isList (by simpa using RZ.intsAre_vals r) (by unfold scanBound; omega) fun h' tk cc hS hcc hk => ?_
  refine PyProof.Rows.args_nil ?_
  have I2 : Inv X pins σ H1 { s1 with heap := h', toks := tk } := I1.kept hk
  have hS2 : SetR X.w ({ s1 with heap := h', toks := tk } : Shared).heap s1.heap.objs.size (fun j => decide (j ∈ ns)) cc := hS
  generalize ({ s1 with heap := h', toks := tk } : Shared) = s2 at hS2 I2 ⊢
  have hfew := setR_few (M := M) hS2 (fun k hk => hMs k (of_decide_eq_true hk))
  refine sorted_set hS2 (I1.ok.hd hc) (by omega) fun s' p out c ns' k g o hp hg hi hs hm hl => ?_
  have hlen : (ns'.map V.int).length ≤ sizeLine := by rw [List.length_map, hl, sizeLine_eq]; omega
  have hn : H1 p = none := I2.hok.fresh hp
  have e : s' = { s2 with heap := s'.heap, gens := s'.gens, drawn := s'.drawn, toks := s'.toks } := by
    cases s'; cases s2; cases o; rfl
  have J : Inv X pins σ (upd H1 p (.lst (ns'.map V.int))) { s2 with heap := s'.heap, gens := s'.gens, drawn := s'.drawn, toks := s'.toks } :=
    I2.call (ch := []) (Un.laid k hp hn) (I2.hok.laid k hp ⟨hlen, out.toList, c, vals_of_ints hi, hg⟩) (by rw [g]; exact I2.bare) (fun _ z => nomatch z)
  rw [e]
  exact ⟨.ref p, _, J, rfl, q1 ns' p hs (fun k => by rw [hm k]; simp) hn⟩
theorem em_sstB (hm : X.mg "sorted" = none) (hm2 : X.mg "set" = none) (h : EL X a env fun ds env' => ∃ ns : List Int, ds = ns.map I ∧ ns.length < 4000 ∧ (∃ M : List Int, M.length < 64 ∧ ∀ k, k ∈ ns → k ∈ M) ∧ ∀ out : List Int, out.Pairwise (· < ·) → (∀ k, k ∈ out ↔ k ∈ ns) → km (.lst (out.map I)) env')
    (hg : Gl X "sorted" := by rfl) (hg2 : Gl X "set" := by rfl) (hc : X.calm = true := by rfl) (na : starEach [a] X.env = (false, eval a X.env) :: starEach [] X.env := by rfl) : EM X (.Call (.Name "sorted" p) [.Call (.Name "set" p2) [a] [] q] [] pos) env km :=
  .of (pe_ssb hg hm hg2 hm2 pe_can hc na) fun M0 B M σ c Q hQ => h M0 B M σ c _ fun v H ⟨ad, xs, ds, env', B', M', e1, e2, c', sm, hs, hr, ns, e3, h64, hfew, q⟩ => by
  subst e1 e2 e3
  rw [hr.ints_eq] at hs
  refine ⟨ad, ns, rfl, hs, h64, hfew, fun out p hp hm hn => hQ _ _ ?_⟩
  obtain ⟨h1, h2⟩ := J_none hn
  exact ⟨p, .lst (out.map I), .lst (out.map V.int), env', B', M', rfl, upd_JM, h1, h2, c', sm, ⟨_, rfl, RpA.ints⟩, q out hp hm⟩
end
/-! ### a, b, c = x, y, z where a name is a cell -/
section
variable {X : Cx} {a b c : Expr} {env : Env_} {k4 : K4} {pos : Pos}
theorem s_parC3 (i j m : Nat) {x y z : Str} {px py pz pt : Pos} {kt k2 pt2} (h : EU X [a, b, c] env fun ts env' => Put [i, j, m] ts env' k4.nx) (hN : X.N.Nodup) (hc : X.calm = true := by rfl) (hi : X.N[i]? = some x := by rfl) (hj : X.N[j]? = some y := by rfl) (hm : X.N[m]? = some z := by rfl)
    (hx : Loc X.env.scope x := by first | exact Or.inl rfl | exact Or.inr rfl) (hy : Loc X.env.scope y := by first | exact Or.inl rfl | exact Or.inr rfl) (hz : Loc X.env.scope z := by first | exact Or.inl rfl | exact Or.inr rfl)
    (fx : X.fn x = true ∨ X.env.scope.names.lookup x = some .local := by first | exact .inl rfl | exact .inr rfl) (fy : X.fn y = true ∨ X.env.scope.names.lookup y = some .local := by first | exact .inl rfl | exact .inr rfl) (fz : X.fn z = true ∨ X.env.scope.names.lookup z = some .local := by first | exact .inl rfl | exact .inr rfl)
    (hs : swapsWithSole [.Tuple [.Name x px, .Name y py, .Name z pz] kt pt] (.Tuple [a, b, c] k2 pt2) pos.line X.env = pure false := by rfl) (hw : swappedStores [.Tuple [.Name x px, .Name y py, .Name z pz] kt pt] (.Tuple [a, b, c] k2 pt2) X.env = pure none := by rfl)
    (h1 : (assignEach [.Tuple [.Name x px, .Name y py, .Name z pz] kt pt] X.env).map (·.2) = [assign (.Tuple [.Name x px, .Name y py, .Name z pz] kt pt) X.env] := by rfl)
    (hn : (assignEach [.Name x px, .Name y py, .Name z pz] X.env).length = 3 := by rfl) (hst : (assignEach [.Name x px, .Name y py, .Name z pz] X.env).findIdx? (·.1) = none := by rfl)
    (ha : (assignEach [.Name x px, .Name y py, .Name z pz] X.env).map (·.2) = assign (.Name x px) X.env :: (assignEach [.Name y py, .Name z pz] X.env).map (·.2) := by rfl) (hb : (assignEach [.Name y py, .Name z pz] X.env).map (·.2) = assign (.Name y py) X.env :: (assignEach [.Name z pz] X.env).map (·.2) := by rfl)
    (hd : (assignEach [.Name z pz] X.env).map (·.2) = assign (.Name z pz) X.env :: (assignEach [] X.env).map (·.2) := by rfl) :
    S1 X (.Assign [.Tuple [.Name x px, .Name y py, .Name z pz] kt pt] (.Tuple [a, b, c] k2 pt2) pos) env k4 :=
  .of (ps_asg (pe_tup pa_can) (pg_tup hc (pgs_cons (pg_name hN hi hx fx) (pgs_cons (pg_name hN hj hy fy) (pgs_cons (pg_name hN hm hz fz) pgs_nil hd) hb) ha) hn hst) hs hw h1) fun M0 B M σ c Dd q1 _ _ _ => h M0 B M σ c _ fun vs H ⟨ts, env2, B2, M2, Mf, e2, c2, s2, r2, p2⟩ => by
    subst e2
    obtain ⟨u, v, w, rfl⟩ : ∃ u v w, vs = [u, v, w] := by
      have hl : vs.length = 3 := (tvs_len r2).trans (put_len p2 3 rfl)
      match vs, hl with
      | [u, v, w], _ => exact ⟨u, v, w, rfl⟩
    refine ⟨by rw [sizeLine_eq]; show 3 ≤ _; decide, fun p hp => ?_⟩
    obtain ⟨n1, n2⟩ := J_none hp
    have c3 := c2.new (o := .tup [u, v, w]) n1 n2
    have s3 : Same B2 (upd B2 p (.tup [u, v, w])) := same_new n2
    rw [upd_JB n1]
    have hT : J (upd B2 p (.tup [u, v, w])) M2 p = some (.tup [u, v, w]) := by rw [← upd_JB n1, upd_same]
    exact ⟨p, [u, v, w], rfl, SqT.of hT, rfl, u, [v, w], rfl, v, [w], rfl, w, [], rfl, rfl, q1 _ _ ((put_ok ts [i, j, m] [u, v, w] M0 Mf _ M2 env2 σ c3 (r2.mono s3) p2).back (s2.trans s3))⟩
end
theorem co_isB {X : Cx} {env : Env_} {k : D → Env_ → Prop} {a b : Bool} (q : k (Bl (decide (a = b))) env) : CO X .Is (Bl a) (Bl b) env k := .of op_is_bl fun M0 B M σ c v1 v2 r1 r2 Q hQ => by
  cases r1; cases r2
  exact ⟨a, b, rfl, rfl, hQ _ _ (.nowA c q)⟩
end Sy
namespace Sy
open PySem PySem.Spec PyProof.Rows L2
/-! ### dicts as data: walked by their keys, {x: y}, d != {} -/
def keysD (kvs : List (Key × D)) : List D := kvs.map fun p => kD p.1
section
variable {X : Cx} {K : PySem.W.Frag} {e a b tg : Expr} {env : Env_} {k : D → Env_ → Prop} {km : MO → Env_ → Prop} {ki : List D → (Env_ → Prop) → Env_ → Prop} {pos : Pos}
theorem RpK.at {K : PySem.W.Frag} {B : Hp} : ∀ {kvs : List (Key × D)} {ks : List (Key × V)} {i : Nat} {ky : Key} {v : V}, RpK K B kvs ks → ks[i]? = some (ky, v) → ∃ d, kvs[i]? = some (ky, d) ∧ Rp K B d v
  | [], ks, i, ky, v, h, e => by cases h; simp at e
  | (k0, d0) :: r, ks, 0, ky, v, ⟨x, t, e1, h1, h2⟩, e => by
    subst e1
    have e2 : (k0, x) = (ky, v) := Option.some.inj e
    cases e2
    exact ⟨d0, rfl, h1⟩
  | (k0, d0) :: r, ks, i + 1, ky, v, ⟨x, t, e1, h1, h2⟩, e => by
    subst e1
    obtain ⟨d, hd, hr⟩ := RpK.at (i := i) (ky := ky) (v := v) h2 e
    exact ⟨d, hd, hr⟩
theorem ei_dct (h : EE X e env fun d env' => ∃ kvs, d = .dct kvs ∧ ki (keysD kvs) Still env') : EI X tg e env ki := .of (pi_keys pe_can) fun M0 B M σ c R hR => h M0 B M σ c _ fun v H ⟨d, env', B', M', e1, c', sm, r, kvs, e2, q⟩ => by
  subst e1 e2
  obtain ⟨ad, ks, o, rfl, hB, hr⟩ := r
  refine ⟨ad, o, rfl, .inl ⟨ks, c'.same _ _ hB, hR _ _ ⟨keysD kvs, Still, env', B', M', rfl, c', sm, fun M0 env2 B2 M2 σ2 s2 c2 _ => ?_, q⟩⟩⟩
  have hB2 : J B2 M2 ad = some (.frz o (.dK ks)) := (s2.trans c2.same) _ _ hB
  have hl : (keysD kvs).length = ks.length := by unfold keysD; rw [List.length_map, RpK.length hr]
  refine ⟨fun i hi => ⟨hB2, by omega⟩, ⟨hB2, by omega⟩, fun i d x H' hd hy => ?_⟩
  obtain ⟨rfl, ky, v, hk, rfl⟩ := hy
  obtain ⟨d', hd', _⟩ := RpK.at hr hk
  unfold keysD at hd
  rw [List.getElem?_map, hd'] at hd
  have e : kD ky = d := Option.some.inj hd
  subst e
  exact ⟨B2, rfl, Same.refl B2, c2.dis, rfl⟩
/-- {a: b} -/
theorem em_disp1 (h : EE X a env fun d1 env1 => EE X b env1 fun d2 env2 => ∃ ky, d1 = kD ky ∧ km (.dK [(ky, d2)]) env2) : EM X (.Dict [some a] [b] pos) env km :=
  .of (pe_disp (pps_cons pe_can pe_can pps_nil) rfl rfl (List.cons_ne_nil _ _) (Nat.le_of_ble_eq_true rfl)) fun M0 B M σ c Q hQ p hp => by
    obtain ⟨n1, n2⟩ := J_none hp
    rw [upd_JM]
    refine h (upd M0 p (.dK [])) B (upd M p (.dK [])) σ (c.hide n1 n2) _ fun v1 H ⟨d1, env1, B1, M1, e1, c1, s1, r1, h2⟩ => ?_
    subst e1
    refine h2 _ B1 M1 σ c1 _ fun v2 H ⟨d2, env2, B2, M2, e2, c2, s2, r2, ky, e3, q⟩ => ?_
    subst e2 e3; cases r1
    have at0 := c2.at0 (upd_same (H := M0) (a := p) (o := .dK []))
    obtain ⟨c3, eM⟩ := c2.shown (upd_same (H := M0) (a := p) (o := .dK []))
    have h0 : M0 p = none := by
      rw [← c.frame p fun i mo z => ?_]
      · exact n1
      · obtain ⟨s, _, _, u, hu, _⟩ := c.slot i _ z
        rw [n1] at hu; cases hu
    rw [del_upd h0] at c3
    refine ⟨J_M at0.1, [(ky, v2)], rfl, Nat.le_of_ble_eq_true rfl, hQ _ _ ⟨p, .dK [(ky, d2)], .dK (mergeK [] [(ky, v2)]), env2, B2, del M2 p, rfl, ?_, del_same, at0.2, c3, s1.trans s2, ⟨_, rfl, v2, [], rfl, r2, rfl⟩, q⟩⟩
    rw [upd_JM]
    congr 1
    funext z
    by_cases hz : z = p
    · rw [hz, upd_same, upd_same]
    · rw [upd_ne hz, upd_ne hz, del_ne hz]
/-- d != {} -/
def rNe0 : R2 := fun x y H Q => ∃ a b o o' ks, x = .ref a ∧ y = .ref b ∧ H a = some (.frz o (.dK ks)) ∧ H b = some (.frz o' (.dK [])) ∧ Q (.bl (!(ks.length == 0))) H
theorem op_ne0 (hu : X.A.units < cLine) : OpR X (compareOp .NotEq) rNe0 := by
  intro pins s σ H x y v u Q I rx ry h
  obtain ⟨a, b, o, o', ks, rfl, rfl, ea, eb, q⟩ := h
  obtain rfl : v = Value.ref a := rx
  obtain rfl : u = Value.ref b := ry
  obtain ⟨_, ya, va, ra, da⟩ := (I.hok a _ ea).2
  obtain ⟨_, yb, vb, rb, db⟩ := (I.hok b _ eb).2
  cases rb
  have hl : va.length = ks.length := (Paired.length ra).symm
  refine PySem.W.keq_ne (knd := mixKind X.prog X.w) (r := true) ya yb da db hu (fun z => ?_) ?_
  · cases va with
    | nil => exact .nil
    | cons y t => cases z
  · rw [Bool.and_true, hl]
    exact ⟨.bl (!(ks.length == 0)), _, I, rfl, q⟩
theorem co_neDct {kvs : List (Key × D)} (hu : X.A.units < cLine) (q : k (Bl (!(kvs.length == 0))) env) : CO X .NotEq (.dct kvs) (.dct []) env k := .of (op_ne0 hu) fun M0 B M σ c v1 v2 r1 r2 Q hQ => by
  obtain ⟨a1, ks, o, rfl, h1, g1⟩ := r1
  obtain ⟨a2, ks2, o2, rfl, h2, g2⟩ := r2
  cases g2
  refine ⟨a1, a2, o, o2, ks, rfl, rfl, c.same _ _ h1, c.same _ _ h2, hQ _ _ (.nowA c ?_)⟩
  rw [RpK.length g1]
  exact q
end
end Sy
namespace Sy
open PySem PySem.Spec PyProof.Rows L2
/-! ### dicts whose keys are tuples of ints -/
abbrev TKs := List (List Int × Addr × V)
def RdT (H : Hp) (a : Addr) (ks : TKs) : Prop := H a = some (TdO a ks) ∨ ∃ o, H a = some (.frz o (TdO a ks))
def KeysIn (K : PySem.W.Frag) (H : Hp) (ks : TKs) : Prop := ∀ p, p ∈ ks → PlT K H p.2.1 (p.1.map V.int)
theorem KeysIn.mono {K : PySem.W.Frag} {B H : Hp} {ks : TKs} (e : Same B H) (h : KeysIn K B ks) : KeysIn K H ks := fun p hp => (h p hp).mono e
def valT (ks : TKs) (k : List Int) : Option V := (ks.find? fun p => decide (p.1 = k)).map (·.2.2)
def putT (ks : TKs) (k : List Int) (q : Addr) (v : V) : TKs := if (ks.any fun p => decide (p.1 = k)) then ks.map (fun p => if p.1 = k then (p.1, p.2.1, v) else p) else ks ++ [(k, q, v)]
def valTD (kvs : List (List Int × D)) (k : List Int) : Option D := (kvs.find? fun p => decide (p.1 = k)).map (·.2)
def putTD (kvs : List (List Int × D)) (k : List Int) (d : D) : List (List Int × D) := if (kvs.any fun p => decide (p.1 = k)) then kvs.map (fun p => if p.1 = k then (p.1, d) else p) else kvs ++ [(k, d)]
theorem putT_len (ks : TKs) (k : List Int) (q : Addr) (v : V) : (putT ks k q v).length ≤ ks.length + 1 := by
  unfold putT
  split
  · rw [List.length_map]; omega
  · rw [List.length_append, List.length_singleton]; omega
theorem items_ints {P : Program} {w : World} : ∀ {k : List Int} {us : List Value}, Vals (k.map V.int) us → ItemsAre (PySem.intKind P w) k us
  | [], us, h => by cases h; exact .nil
  | i :: k, us, h => by
    cases h with
    | cons h t =>
      obtain ⟨t0, e⟩ := (show ∃ t, _ = Value.int i t from h)
      exact .cons (by rw [e]; show Value.isInt i (Value.int i t0) = true; simp [Value.isInt]) (items_ints t)
section
variable {X : Cx} {pins : List (Addr × Obj)} {σ : L2.St} {H : Hp} {s : Shared} {a q : Addr} {k : List Int} {ks : TKs}
theorem keyT (I : Inv X pins σ H s) (h : PlT X.K H q (k.map V.int)) : (tupleKind (PySem.intKind X.prog X.w)).is s.heap k q := by
  obtain ⟨its, r, ⟨o, h1, h2, n, h3⟩, _⟩ := I.tuple h.sq
  exact ⟨o, its.toArray, n, h1, h2, h3, by simpa using items_ints r⟩
theorem td_at (I : Inv X pins σ H s) (r : RdT H a ks) (hk : KeysIn X.K H ks) : (a == sysModules) = false ∧ ks.length ≤ sizeLine ∧ ∃ xs, KTs ks xs ∧ s.heap.DictOfH (tupleKind (PySem.intKind X.prog X.w)) a xs := by
  have h : TdP a ks s.heap := r.elim (fun e => (I.hok a _ e).1) fun ⟨o, e⟩ => (I.hok a _ e).2.1
  obtain ⟨h1, h2, xs, kt, o, es, ep, g1, g2, g3, g4, g5⟩ := h
  refine ⟨h1, h2, xs, kt, o, es, ep, g1, g2, g3, g4, ?_, g5⟩
  have all : ∀ {l : TKs} {m : List (List Int × Addr × Value)}, KTs l m → (∀ p, p ∈ l → PlT X.K H p.2.1 (p.1.map V.int)) → ∀ x ∈ m, (tupleKind (PySem.intKind X.prog X.w)).is s.heap x.1 x.2.1 := by
    intro l m z
    induction z with
    | nil => intro _ x hx; exact nomatch hx
    | @cons p q ps qs hq t ih =>
      intro hp x hx
      rcases List.mem_cons.mp hx with e | hx
      · subst e
        rw [← hq.1, ← hq.2.1]
        exact keyT I (hp p List.mem_cons_self)
      · exact ih (fun p h => hp p (List.mem_cons_of_mem _ h)) x hx
  exact all kt hk
end
theorem KTs.val {ks : TKs} {xs : List (List Int × Addr × Value)} (r : KTs ks xs) (k : List Int) : RelO (valT ks k) ((atKey xs k).map (·.2)) := by
  induction r with
  | nil => exact True.intro
  | @cons p q ps qs h t ih =>
    obtain ⟨h1, _, h2⟩ := h
    by_cases e : p.1 = k
    · have e' : q.1 = k := h1.symm.trans e
      have b : atKey (q :: qs) k = some q.2 := by simp [atKey, List.find?_cons, e']
      have b2 : valT (p :: ps) k = some p.2.2 := by simp [valT, List.find?_cons, e]
      rw [b2, b]; exact h2
    · have e' : ¬ q.1 = k := fun z => e (h1.trans z)
      have b : atKey (q :: qs) k = atKey qs k := by simp [atKey, List.find?_cons, e']
      have b2 : valT (p :: ps) k = valT ps k := by simp [valT, List.find?_cons, e]
      rw [b2, b]; exact ih
theorem KTs.any {ks : TKs} {xs : List (List Int × Addr × Value)} (r : KTs ks xs) (k : List Int) : (ks.any fun p => decide (p.1 = k)) = (atKey xs k).isSome := by
  induction r with
  | nil => rfl
  | @cons p q ps qs h t ih =>
    by_cases e : p.1 = k
    · have e' : q.1 = k := h.1.symm.trans e
      have b : atKey (q :: qs) k = some q.2 := by simp [atKey, List.find?_cons, e']
      rw [List.any_cons, decide_eq_true e, b]; rfl
    · have e' : ¬ q.1 = k := fun z => e (h.1.trans z)
      have b : atKey (q :: qs) k = atKey qs k := by simp [atKey, List.find?_cons, e']
      rw [List.any_cons, decide_eq_false e, b, Bool.false_or]; exact ih
theorem KTs.repl {ks : TKs} {xs : List (List Int × Addr × Value)} (r : KTs ks xs) (k : List Int) {y : V} {u : Value} (ry : RelV y u) : KTs (ks.map fun p => if p.1 = k then (p.1, p.2.1, y) else p) (xs.map (putAt k u)) := by
  induction r with
  | nil => exact .nil
  | @cons p q ps qs h t ih =>
    rw [List.map_cons, List.map_cons]
    refine .cons ?_ ih
    obtain ⟨h1, h2, h3⟩ := h
    unfold putAt
    by_cases e : p.1 = k
    · rw [if_pos e, if_pos (h1.symm.trans e)]; exact ⟨h1, h2, ry⟩
    · rw [if_neg e, if_neg (fun z => e (h1.trans z))]; exact ⟨h1, h2, h3⟩
theorem KTs.put {ks : TKs} {xs : List (List Int × Addr × Value)} (r : KTs ks xs) (k : List Int) {b : Addr} {y : V} {u : Value} (ry : RelV y u) : KTs (putT ks k b y) (storedH xs k b u) := by
  unfold putT storedH
  rw [r.any k]
  by_cases z : (atKey xs k).isSome = true
  · rw [if_pos z, if_pos z]; exact r.repl k ry
  · rw [if_neg z, if_neg z]; exact Paired.snoc r ⟨rfl, rfl, ry⟩
/-! the data and what stands in the heap -/
section
variable {K : PySem.W.Frag} {B : Hp}
theorem RpT.length : ∀ {kvs : List (List Int × D)} {ks : TKs}, RpT K B kvs ks → ks.length = kvs.length
  | [], ks, h => by rw [show ks = [] from h]; rfl
  | (k, d) :: r, ks, ⟨q, x, t, e, _, _, h⟩ => by rw [e, List.length_cons, List.length_cons, RpT.length h]
theorem RpT.keys : ∀ {kvs : List (List Int × D)} {ks : TKs}, RpT K B kvs ks → KeysIn K B ks
  | [], ks, h => by rw [show ks = [] from h]; exact fun p hp => nomatch hp
  | (k, d) :: r, ks, ⟨q, x, t, e, h0, _, h⟩ => by
    rw [e]
    intro p hp
    rcases List.mem_cons.mp hp with z | z
    · rw [z]; exact h0
    · exact RpT.keys h p z
theorem RpT.val : ∀ {kvs : List (List Int × D)} {ks : TKs}, RpT K B kvs ks → ∀ k, (∀ d, valTD kvs k = some d → ∃ v, valT ks k = some v ∧ Rp K B d v) ∧ (valTD kvs k = none → valT ks k = none)
  | [], ks, h, k => by rw [show ks = [] from h]; exact ⟨fun d z => (nomatch z), fun _ => rfl⟩
  | (k0, d0) :: r, ks, ⟨q, x, t, e, h0, h1, h⟩, k => by
    subst e
    by_cases z : k0 = k
    · have b : valTD ((k0, d0) :: r) k = some d0 := by simp [valTD, List.find?_cons, z]
      have b2 : valT ((k0, q, x) :: t) k = some x := by simp [valT, List.find?_cons, z]
      rw [b, b2]
      exact ⟨fun d e => ⟨x, rfl, by rw [← Option.some.inj e]; exact h1⟩, fun e => (nomatch e)⟩
    · have b : valTD ((k0, d0) :: r) k = valTD r k := by simp [valTD, List.find?_cons, z]
      have b2 : valT ((k0, q, x) :: t) k = valT t k := by simp [valT, List.find?_cons, z]
      rw [b, b2]
      exact RpT.val h k
theorem RpT.any : ∀ {kvs : List (List Int × D)} {ks : TKs}, RpT K B kvs ks → ∀ k : List Int, (ks.any fun p => decide (p.1 = k)) = kvs.any fun p => decide (p.1 = k)
  | [], ks, h, k => by rw [show ks = [] from h]; rfl
  | (k0, d0) :: r, ks, ⟨q, x, t, e, h0, h1, h⟩, k => by rw [e, List.any_cons, List.any_cons, RpT.any h k]
theorem RpT.repl {d : D} {v : V} (rd : Rp K B d v) (k : List Int) : ∀ {kvs : List (List Int × D)} {ks : TKs}, RpT K B kvs ks → RpT K B (kvs.map fun p => if p.1 = k then (p.1, d) else p) (ks.map fun p => if p.1 = k then (p.1, p.2.1, v) else p)
  | [], ks, h => by rw [show ks = [] from h]; exact rfl
  | (k0, d0) :: r, ks, ⟨q, x, t, e, h0, h1, h⟩ => by
    subst e
    rw [List.map_cons, List.map_cons]
    by_cases z : k0 = k
    · rw [if_pos z, if_pos z]
      exact ⟨q, v, _, rfl, h0, rd, RpT.repl rd k h⟩
    · rw [if_neg z, if_neg z]
      exact ⟨q, x, _, rfl, h0, h1, RpT.repl rd k h⟩
theorem RpT.snoc {d : D} {v : V} {q : Addr} {k : List Int} (hq : PlT K B q (k.map V.int)) (rd : Rp K B d v) : ∀ {kvs : List (List Int × D)} {ks : TKs}, RpT K B kvs ks → RpT K B (kvs ++ [(k, d)]) (ks ++ [(k, q, v)])
  | [], ks, h => by rw [show ks = [] from h]; exact ⟨q, v, [], rfl, hq, rd, rfl⟩
  | (k0, d0) :: r, ks, ⟨q0, x, t, e, h0, h1, h⟩ => by
    subst e
    exact ⟨q0, x, _, rfl, h0, h1, RpT.snoc hq rd h⟩
theorem RpT.put {kvs : List (List Int × D)} {ks : TKs} (h : RpT K B kvs ks) {d : D} {v : V} {q : Addr} {k : List Int} (hq : PlT K B q (k.map V.int)) (rd : Rp K B d v) : RpT K B (putTD kvs k d) (putT ks k q v) := by
  unfold putTD putT
  rw [h.any k]
  split
  · exact h.repl rd k
  · exact h.snoc hq rd
theorem RpT.isSome {kvs : List (List Int × D)} {ks : TKs} (h : RpT K B kvs ks) (k : List Int) : (valT ks k).isSome = (valTD kvs k).isSome := by
  cases e : valTD kvs k with
  | none => rw [(h.val k).2 e]; rfl
  | some d =>
    obtain ⟨v, hv, _⟩ := (h.val k).1 d e
    rw [hv]; rfl
theorem RpT.at : ∀ {kvs : List (List Int × D)} {ks : TKs} {i : Nat} {p : List Int × Addr × V}, RpT K B kvs ks → ks[i]? = some p → ∃ d, kvs[i]? = some (p.1, d) ∧ PlT K B p.2.1 (p.1.map V.int)
  | [], ks, i, p, h, e => by rw [show ks = [] from h] at e; simp at e
  | (k0, d0) :: r, ks, 0, p, ⟨q, x, t, e1, h0, h1, h⟩, e => by
    subst e1
    have e2 : (k0, q, x) = p := Option.some.inj e
    subst e2
    exact ⟨d0, rfl, h0⟩
  | (k0, d0) :: r, ks, i + 1, p, ⟨q, x, t, e1, h0, h1, h⟩, e => by
    subst e1
    exact RpT.at (i := i) (p := p) h e
theorem tup_key {v : V} {k : List Int} (h : Rp K B (.tup (k.map I)) v) : ∃ q, v = .ref q ∧ PlT K B q (k.map V.int) := by
  obtain ⟨q, xs, e, h1, h2⟩ := h
  rw [RpA.ints_eq h2] at h1
  exact ⟨q, e, h1⟩
end
/-! rules over the heap -/
section
variable {X : Cx} {pins : List (Addr × Obj)} {σ : L2.St} {H : Hp} {s : Shared} {A : Around} {E : Value → Shared → Prop} {a q : Addr} {k : List Int} {ks : TKs} {v : V}
theorem t_getItem {Q : Value → Shared → Prop} (hu : A.units + 1 < cLine) (I : Inv X pins σ H s) (r : RdT H a ks) (hk : KeysIn X.K H ks) (hq : PlT X.K H q (k.map V.int)) (l : valT ks k = some v) (h : ∀ w' s', Inv X pins σ H s' → RelV v w' → Q w' s') :
    wpAny (model X.prog X.w) A (getItem (.ref a) (.ref q)) Q E s := by
  obtain ⟨hd, z, xs, rel, dd⟩ := td_at I r hk
  obtain ⟨w', hw, rw'⟩ := RelO.some_of (v := v) (o := (atKey xs k).map (·.2)) (by rw [← l]; exact rel.val k)
  obtain ⟨p, hp, hp2⟩ := Option.map_eq_some_iff.mp hw
  refine wpAny_getItem_heap (tupleKind_room_in1 hu) (keyT I hq) dd hp ?_
  rw [hp2]
  exact h w' _ (I.tok _) rw'
theorem t_in {Q : Value → Shared → Prop} (hu : A.units + 1 < cLine) (I : Inv X pins σ H s) (r : RdT H a ks) (hk : KeysIn X.K H ks) (hq : PlT X.K H q (k.map V.int)) (h : ∀ s', Inv X pins σ H s' → Q (.bool (valT ks k).isSome) s') :
    wpAny (model X.prog X.w) A (compareOp .In (.ref q) (.ref a)) Q E s := by
  obtain ⟨hd, z, xs, rel, dd⟩ := td_at I r hk
  refine wpAny_in_heap (tupleKind_room_in1 hu) (keyT I hq) hd dd ?_
  have e := (rel.val k).isSome_eq
  rw [Option.isSome_map] at e
  rw [← e]
  exact h _ (I.tok _)
theorem t_get2 {Q : Value → Shared → Prop} {d : V} {u : Value} (hu : A.units + 1 < cLine) (I : Inv X pins σ H s) (r : RdT H a ks) (hk : KeysIn X.K H ks) (hq : PlT X.K H q (k.map V.int)) (rd : RelV d u) (h : ∀ w' s', Inv X pins σ H s' → RelV ((valT ks k).getD d) w' → Q w' s') :
    wpAny (model X.prog X.w) A (call (.builtin "dict.get") [.ref a, .ref q, u]) Q E s := by
  obtain ⟨hd, z, xs, rel, dd⟩ := td_at I r hk
  refine call_meetsIn PySem.F.slot_dict_get dd.typeIs PySem.F.entry_dict_get (PySem.F.args_dict_get_3 _ _ _) (meetsH_dict_get_default (tupleKind (PySem.intKind X.prog X.w)) a q hd u) ⟨tupleKind_room_in1 hu, k, xs, keyT I hq, dd, h _ _ (I.tok _) ?_⟩
  exact (rel.val k).getD rd
theorem td_stable {a : Addr} {ks : TKs} : ∀ h1 h2 : Heap, TdP a ks h1 → (∀ o, h1.get? a = some o → h2.get? a = some o) → TdP a ks h2 := fun h1 h2 ⟨g1, g2, xs, kt, o, es, ep, g3, g⟩ k => ⟨g1, g2, xs, kt, o, es, ep, k _ g3, g⟩
theorem t_setItem {Q : Unit → Shared → Prop} {u : Value} (hu : A.units + 1 < cLine) (I : Inv X pins σ H s) (e : H a = some (TdO a ks)) (hk : KeysIn X.K H ks) (hq : PlT X.K H q (k.map V.int)) (hl : ks.length < sizeLine) (rv : RelV v u) (h : ∀ s', Inv X pins σ (upd H a (TdO a (putT ks k q v))) s' → Q () s') :
    wpAny (model X.prog X.w) A (setItem (.ref a) (.ref q) u) Q E s := by
  obtain ⟨hd, z, xs, rel, dd⟩ := td_at I (.inl e) hk
  have hz : xs.length ≤ sizeLine := by rw [← Paired.length rel]; exact z
  refine wpAny_setItem_heap (hsz := hz) (tupleKind_room_in1 hu) (keyT I hq) dd fun h' dd' hs => h _ ?_
  obtain ⟨o, es, ep, hq', h2, h3, h4, _, h5⟩ := dd'
  refine d_write I (by rw [e]; exact True.intro) hs ⟨o, hq'⟩ ⟨⟨hd, by have := putT_len ks k q v; omega, _, rel.put k rv, o, es, ep, hq', h2, h3, h4, h5⟩, ⟨o, hq'⟩, td_stable⟩
end
section
variable {X : Cx} {o i e f value tg : Expr} {pos pos' apos cpos : Pos} {td ty tv tx : TE}
theorem dictT_is {pins : List (Addr × Obj)} {σ : L2.St} {H : Hp} {s : Shared} {a : Addr} {ks : TKs} (I : Inv X pins σ H s) (r : RdT H a ks) (hk : KeysIn X.K H ks) : s.TypeIs (.ref a) "dict" ∧ ∀ b, Value.ref a = .ref b → ∃ ob, s.heap.get? b = some ob ∧ ob.dict = none := by
  obtain ⟨hd, z, xs, rel, dd⟩ := td_at I r hk
  refine ⟨dd.typeIs, fun b q => ?_⟩
  cases q
  obtain ⟨ob, _, _, h1, h2, _⟩ := dd
  exact ⟨ob, h1, h2.2.1⟩
def tTGet (K : PySem.W.Frag) (td ty : TE) : TE := fun σ H Q => td σ H fun x H1 => ty σ H1 fun y H2 => ∃ a ks k q v, x = .ref a ∧ RdT H2 a ks ∧ KeysIn K H2 ks ∧ y = .ref q ∧ PlT K H2 q (k.map V.int) ∧ valT ks k = some v ∧ Q v H2
theorem pe_tget (hu : X.A.units + 1 < cLine) (ho : PE X o td) (hi : PE X i ty) (hs : NoSl i) : PE X (.Subscript o i pos) (tTGet X.K td ty) := by
  refine ⟨fun pins s σ H Q I h => ?_⟩
  refine subD_of PySem.F.slot_dict_getitem.lookup hs (thn (ho.run pins s σ H _ I h) fun u s1 ⟨x, H1, I1, rx, q1⟩ => thn (hi.run pins s1 σ H1 _ I1 q1) fun iv s2 ⟨y, H2, I2, ry, a, ks, k, q, v, ex, r, hk, ey, hq, l, q2⟩ => ?_)
  subst ex ey
  obtain rfl : u = Value.ref a := rx
  obtain rfl : iv = Value.ref q := ry
  exact ⟨(dictT_is I2 r hk).1, t_getItem hu I2 r hk hq l fun w' s3 I3 rw' => ⟨v, H2, I3, rw', q2⟩⟩
def rInT (K : PySem.W.Frag) : R2 := fun y x H Q => ∃ a ks k q, x = .ref a ∧ RdT H a ks ∧ KeysIn K H ks ∧ y = .ref q ∧ PlT K H q (k.map V.int) ∧ Q (.bl (valT ks k).isSome) H
theorem op_inT (hu : X.A.units + 1 < cLine) : OpR X (compareOp .In) (rInT X.K) := by
  intro pins s σ H y x u v Q I ry rx h
  obtain ⟨a, ks, k, q, rfl, r, hk, rfl, hq, g⟩ := h
  obtain rfl : v = Value.ref a := rx
  obtain rfl : u = Value.ref q := ry
  exact t_in hu I r hk hq fun s3 I3 => ⟨.bl (valT ks k).isSome, H, I3, rfl, g⟩
def sTPut (K : PySem.W.Frag) (td ty tv : TE) : TS := fun D σ H => tv σ H fun v H1 => td σ H1 fun x H2 => ty σ H2 fun y H3 => ∃ a ks k q, x = .ref a ∧ H3 a = some (TdO a ks) ∧ KeysIn K H3 ks ∧ y = .ref q ∧ PlT K H3 q (k.map V.int) ∧ ks.length < sizeLine ∧ D.nx σ (upd H3 a (TdO a (putT ks k q v)))
theorem ps_tput (hu : X.A.units + 1 < cLine) (ho : PE X o td) (hi : PE X i ty) (hv : PE X value tv) (hs : swapsWith value (some (.Subscript o i pos')) pos.line X.env = pure false) :
    PS X (.Assign [.Subscript o i pos'] value pos) (sTPut X.K td ty tv) := by
  refine ⟨fun pins s σ H D I h => ?_⟩
  refine wpAny_Assign_Subscript (thn (hv.run pins s σ H _ I h) fun r s1 ⟨v, H1, I1, rv, q1⟩ => thn (ho.run pins s1 σ H1 _ I1 q1) fun u s2 ⟨x, H2, I2, rx, q2⟩ => thn (hi.run pins s2 σ H2 _ I2 q2) fun iv s3 ⟨y, H3, I3, ry, a, ks, k, q, ex, e, hk, ey, hq, hl, q3⟩ => ?_) hs
  subst ex ey
  obtain rfl : u = Value.ref a := rx
  obtain rfl : iv = Value.ref q := ry
  exact t_setItem hu I3 e hk hq hl rv fun s4 I4 => ⟨σ, _, I4, q3⟩
def tTGet2 (K : PySem.W.Frag) (td ty tx : TE) : TE := fun σ H Q => td σ H fun x H1 => ∃ a, x = .ref a ∧ (∃ ks, RdT H1 a ks ∧ KeysIn K H1 ks) ∧ ty σ H1 fun y H2 => tx σ H2 fun z H3 => ∃ ks k q, RdT H3 a ks ∧ KeysIn K H3 ks ∧ y = .ref q ∧ PlT K H3 q (k.map V.int) ∧ Q ((valT ks k).getD z) H3
theorem pe_tget2 (hu : X.A.units + 1 < cLine) (ho : PE X o td) (he : PE X e ty) (hf : PE X f tx) (m : M2 X o "get" apos e f cpos) : PE X (.Call (.Attribute o "get" apos) [e, f] [] cpos) (tTGet2 X.K td ty tx) := by
  refine ⟨fun pins s σ H Q I h => ?_⟩
  refine wpAny_Call_method m.base m.few m.line PySem.F.plainAttrs_dict PySem.F.slot_dict_get PySem.F.type_dict_get (thn (ho.run pins s σ H _ I h) fun u s1 ⟨x, H1, I1, rx, a, ex, ⟨ks0, r0, hk0⟩, q1⟩ => ?_)
  subst ex
  obtain rfl : u = Value.ref a := rx
  obtain ⟨t1, t2⟩ := dictT_is I1 r0 hk0
  refine ⟨t1, t2, ?_⟩
  rw [m.trees]
  refine Calls.callWith_builtin rfl (Calls.evalArgs_plain (Calls.spliced_cons (thn (he.run pins s1 σ H1 _ I1 q1) fun iv s2 ⟨y, H2, I2, ry, q2⟩ =>
    Calls.spliced_cons (thn (hf.run pins s2 σ H2 _ I2 q2) fun fv s3 ⟨z, H3, I3, rz, ks, k, q, r, hk, ey, hq, q3⟩ => Calls.spliced_nil ?_))))
  subst ey
  obtain rfl : iv = Value.ref q := ry
  exact t_get2 hu I3 r hk hq rz fun w' s4 I4 rw' => ⟨_, H3, I4, rw', q3⟩
theorem td_empty {P : Program} {w : World} {H : Hp} (h : Heap) (hb : sysModules < h.objs.size) : ObjOk P w H (h.push { cls := .type "dict", data := .dict #[] }) h.objs.size (TdO h.objs.size []) :=
  ⟨⟨beq_eq_false_iff_ne.mpr (Ne.symm (Nat.ne_of_lt hb)), Nat.zero_le _, [], .nil, _, #[], 0, Heap.get?_push_size _ rfl, ⟨rfl, rfl, rfl⟩, rfl, rfl, List.nodup_nil⟩, ⟨_, Heap.get?_push_size _ rfl⟩, td_stable⟩
theorem pe_tnew : PE X (.Dict [] [] pos) (fun _ H Q => ∀ p, H p = none → Q (.ref p) (upd H p (TdO p []))) := ⟨fun pins s σ H Q I h =>
  wpAny_Dict_empty ⟨.ref s.heap.objs.size, _, I.laid (a := s.heap.objs.size) (o := TdO s.heap.objs.size []) (t' := s.toks) (fun _ _ q => Heap.get?_push_of_some _ q) (Nat.le_refl _) (td_empty s.heap I.big), rfl, h _ (I.hok.fresh (Nat.le_refl _))⟩⟩
/-- the keys of the locked dict at d -/
def Itq (d : Addr) (o : Obj) (ks : TKs) : It :=
  ⟨fun i H => H d = some (.frz o (TdO d ks)) ∧ i < ks.length, fun i H x H' => H' = H ∧ ∃ p, ks[i]? = some p ∧ x = .ref p.2.1, fun i H => H d = some (.frz o (TdO d ks)) ∧ ks.length ≤ i⟩
theorem frzQ {pins : List (Addr × Obj)} {σ : L2.St} {H : Hp} {s : Shared} {d : Addr} {ob : Obj} {ks : TKs} (I : Inv X pins σ H s) (h : H d = some (.frz ob (TdO d ks))) :
    (d == sysModules) = false ∧ s.heap.get? d = some ob ∧ ob.ExactDict ∧ ∃ (es : Array DictEntry) (ep : Nat), ob.data = .dict es ep ∧ es.size = ks.length ∧ ∀ (i : Nat) (p : List Int × Addr × V), ks[i]? = some p → ∃ en : DictEntry, es[i]? = some en ∧ en.key = .ref p.2.1 := by
  obtain ⟨hd, ⟨hs, z, xs, pr, o', es, ep, ho, hx, hdt, he, _⟩, _⟩ := I.hok d _ h
  rw [hd] at ho
  cases ho
  refine ⟨hs, hd, hx, es, ep, hdt, ?_, fun i p e => ?_⟩
  · have l1 : es.size = xs.length := by rw [← Array.length_toList, he, List.length_map]
    have l2 : ks.length = xs.length := Paired.length pr
    omega
  · obtain ⟨b, hb, e1, e2, _⟩ := paired_get pr e
    have q : es[i]? = some (entT b) := by rw [← Array.getElem?_toList, he, List.getElem?_map, hb]; rfl
    exact ⟨_, q, by rw [e2]; rfl⟩
theorem turn_keysQ {P : Program} {w : World} {K : PySem.W.Frag} {tg : Expr} {d : Addr} {ob : Obj} {es : Array DictEntry} {ep : Nat} {ks : TKs} (it : Addr) (hod : ob.data = .dict es ep) : Turn P w K tg (Itq d ob ks) [it] it (fun i h => h.IsKeyIter it d i ks.length ep) where
  mem := by simp
  obj := fun i h st b hb => by
    have e : b = it := by simpa using hb
    subst e
    obtain ⟨oi, e, c, dd⟩ := st
    exact ⟨oi, e, fun v z => by rw [dd] at z; cases z⟩
  keep := fun i h h' st k => st.at fun oi e => k it (by simp) oi e
  item := by
    intro X hP hw hK hc i pins s σ H E I hf st hg
    subst hP hw hK
    obtain ⟨hd, hi⟩ := hg
    obtain ⟨f0, f1, f2, f3, f4, f5⟩ := hf it (by simp)
    obtain ⟨hs, hgd, hx, es', ep', hdt, hsz, ent⟩ := frzQ I hd
    obtain ⟨rfl, rfl⟩ := dict_ep hod hdt
    obtain ⟨p, hkv⟩ : ∃ p, ks[i]? = some p := ⟨ks[i], List.getElem?_eq_getElem hi⟩
    obtain ⟨en, hen, hkey⟩ := ent i p hkv
    refine next_key_item st hgd hdt hsz hen fun h' st' sb => ?_
    have I1 : Inv X pins σ H { s with heap := h' } := I.turned (t' := s.toks) (fun b ob hb e => (sb.2 b hb).trans e) f0 f1 f3 f4 f5
    obtain ⟨oi, e, c, dd⟩ := id st'
    exact ⟨en.key, rfl, go_of (s := { s with heap := h' }) e c dd (by decide) ⟨.ref p.2.1, H, I1, hkey, ⟨rfl, p, hkv, rfl⟩, st', fun b hb => (hf b hb).1⟩⟩
  done := by
    intro X hP hw hK hc i pins s σ H E I hf st hg
    subst hP hw hK
    obtain ⟨hd, hi⟩ := hg
    obtain ⟨f0, f1, f2, f3, f4, f5⟩ := hf it (by simp)
    obtain ⟨hs, hgd, hx, es', ep', hdt, hsz, ent⟩ := frzQ I hd
    obtain ⟨rfl, rfl⟩ := dict_ep hod hdt
    exact next_key_end (I.ok.hd hc) st hgd hdt hsz hi fun h' eb => ⟨rfl, I.turned (t' := s.toks) (fun b ob hb e => eb b ob hb e) f0 f1 f3 f4 f5⟩
  self := fun A i s Q E st h => by
    refine wpAny_pyIter_slot st.typeIs F.slot_dict_keyiterator_iter (wpAny_call_entry F.slot_dict_keyiterator_iter st.typeIs F.entry_dict_keyiterator_iter ?_ (F.args_dict_keyiterator_iter_1 _))
    show wpAny _ _ (ret (.ref it)) _ _ s
    exact wpAny_pure ⟨_, rfl, "dict_keyiterator", _, st.typeIs, F.slot_dict_keyiterator_next.lookup, h⟩
theorem pi_keysQ (he : PE X e td) : PI X tg e (fun σ H R => td σ H fun x H1 => ∃ d ob ks, x = .ref d ∧ H1 d = some (.frz ob (TdO d ks)) ∧ R (Itq d ob ks) H1) := by
  refine ⟨fun pins s σ H R I h => ?_⟩
  refine thn (he.run pins s σ H _ I h) fun u s1 ⟨x, H1, I1, rx, d, ob, ks, ex, hd, q⟩ => ?_
  subst ex
  obtain rfl : u = Value.ref d := rx
  obtain ⟨hs, hgd, hx, es, ep, hdt, hsz, ent⟩ := frzQ I1 hd
  refine iter_keys hs hgd hx hdt (pi_one (tk := s1.toks) I1 _ (turn_keysQ _ hdt) ⟨_, Heap.get?_push_size _ rfl, rfl, ?_⟩ q)
  rw [hsz] <;> rfl
theorem call_list_Q (hc : X.calm = true) : CallR X (.type "list") (fun xs H Q => ∃ d ob ks, xs = [V.ref d] ∧ H d = some (.frz ob (TdO d ks)) ∧ ∀ p, H p = none → Q (.ref p) (upd H p (.lst (ks.map fun x => V.ref x.2.1)))) := by
  intro pins s σ H xs us Q I r h
  obtain ⟨d, ob, ks, rfl, hd, q⟩ := h
  obtain ⟨u, rfl, rx⟩ := r.one
  cases rx
  obtain ⟨hs, hgd, hx, es, ep, hdt, hsz, ent⟩ := frzQ I hd
  have hz : ks.length ≤ sizeLine := (I.hok d _ hd).2.1.2.1
  refine PySem.W.kdl_call (kdl_raw hs hx hdt) (I.ok.hd hc) hgd (by omega) fun h' tk acc' c' kp e it => ?_
  have hl : acc'.toList.length = ks.length := by rw [Array.length_toList, it.1]; exact hsz
  have eb : acc'.toList = (ks.map fun x => x.2.1).map Value.ref := by
    apply List.ext_getElem?
    intro j
    rw [List.getElem?_map, List.getElem?_map]
    cases hj : acc'.toList[j]? with
    | none =>
      have h1 := List.getElem?_eq_none_iff.mp hj
      rw [List.getElem?_eq_none (by omega)]
      all_goals rfl
    | some v =>
      have hjl := (List.getElem?_eq_some_iff.mp hj).1
      obtain ⟨en, hen, hv⟩ := it.2 j v (by rw [← Array.getElem?_toList]; exact hj)
      have hk : ks[j]? = some ks[j] := List.getElem?_eq_getElem (by omega)
      obtain ⟨en2, h2, h3⟩ := ent j _ hk
      rw [hen] at h2
      cases h2
      rw [hk, hv, h3]
      rfl
  have rv : Vals ((ks.map fun x => x.2.1).map V.ref) acc'.toList := by rw [eb]; exact vals_refs _
  have e2 : (ks.map fun x => x.2.1).map V.ref = ks.map fun x => V.ref x.2.1 := by rw [List.map_map]; rfl
  rw [e2] at rv
  refine ⟨.ref s.heap.objs.size, _, I.laid (t' := tk) (o := .lst (ks.map fun x => V.ref x.2.1)) kp (Nat.le_refl _) ?_, rfl, q _ (I.hok.fresh (Nat.le_refl _))⟩
  exact ⟨by rw [List.length_map]; exact hz, acc'.toList, c', rv, by rw [Array.toArray_toList]; exact e⟩
end
/-! ### the rules over the states -/
def keysTD (kvs : List (List Int × D)) : List D := kvs.map fun p => .tup (p.1.map I)
section
variable {X : Cx} {K : PySem.W.Frag} {e a b c tg : Expr} {env : Env_} {k : D → Env_ → Prop} {km : MO → Env_ → Prop} {ki : List D → (Env_ → Prop) → Env_ → Prop} {k4 : K4} {pos p : Pos}
theorem em_tnew (q : km (.dT []) env) : EM X (.Dict [] [] pos) env km := .of pe_tnew fun M0 B M σ c Q hQ p hp => hQ _ _ (PostM.new (mo := .dT []) c hp ⟨[], rfl, rfl⟩ q)
theorem s_tput (i : Nat) {x : Str} {pn p2 : Pos} {ad : Addr} {mo0 : MO} (hu : X.A.units + 1 < cLine) (hi0 : env[i]? = some (.mu ad mo0)) (h : EE X e env fun d env1 => ∃ mo1, env1[i]? = some (.mu ad mo1) ∧ EE X b env1 fun d2 env2 => ∃ kvs ky, env2[i]? = some (.mu ad (.dT kvs)) ∧ d2 = .tup (ky.map I) ∧ kvs.length ≤ 1000000 ∧ k4.nx (env2.set i (.mu ad (.dT (putTD kvs ky d)))))
    (hN : X.N[i]? = some x := by rfl) (hv : Vis X.env.scope x := by first | exact Or.inl rfl | exact Or.inr (Or.inl rfl) | exact Or.inr (Or.inr rfl)) (hd : (x == ("__debug__" : Str)) = false := by decide) (hcd : (x == ("__classdict__" : Str)) = false := by decide)
    (hs : swapsWith e (some (.Subscript (.Name x pn) b p2)) pos.line X.env = pure false := by rfl) : S1 X (.Assign [.Subscript (.Name x pn) b p2] e pos) env k4 :=
  .of (ps_tput hu (pe_var hN hv hd hcd) pe_can pe_can hs) fun M0 B M σ c Dd q1 q2 q3 q4 => h M0 B M σ c _ fun v H ⟨d, env1, B1, M1, e1, c1, s1, r1, mo1, hi1, h2⟩ => by
    subst e1
    obtain ⟨s0, hs0, es0, o0, ho0, hr0⟩ := c1.slot i _ hi1
    refine ⟨mo1.val ad, by rw [hs0, es0], h2 M0 B1 M1 σ c1 _ fun v2 H ⟨d2, env2, B2, M2, e2, c2, s2, r2, kvs, ky, hi2, e3, hl, z⟩ => ?_⟩
    subst e2 e3
    obtain ⟨q, rfl, hq⟩ := tup_key r2
    obtain ⟨s3, hs3, es3, o1, ho1, ks, rfl, hr⟩ := c2.slot i _ hi2
    refine ⟨ad, ks, ky, q, c1.valeq hi1 c2 hi2, J_M ho1, hr.keys.mono c2.same, rfl, hq.mono c2.same, by rw [hr.length, sizeLine_eq]; omega, ?_⟩
    rw [upd_JM]
    exact q1 _ _ ⟨_, B2, _, rfl, c2.mut (mo' := .dT (putTD kvs ky d)) hi2 ⟨_, rfl, hr.put hq (Rp.mono s2 d v r1)⟩, s1.trans s2, z⟩
theorem ee_tget (hu : X.A.units + 1 < cLine) (h : EE X a env fun d env1 => EE X b env1 fun d2 env2 => ∃ kvs ky v, d = .dti kvs ∧ d2 = .tup (ky.map I) ∧ valTD kvs ky = some v ∧ k v env2) (hs : NoSl b := by exact fun _ _ => rfl) : EE X (.Subscript a b pos) env k :=
  .of (pe_tget hu pe_can pe_can hs) fun M0 B M σ c Q hQ => h M0 B M σ c _ fun v H ⟨d, env1, B1, M1, e1, c1, s1, r1, h2⟩ => by
    subst e1
    refine h2 M0 B1 M1 σ c1 _ fun v2 H ⟨d2, env2, B2, M2, e2, c2, s2, r2, kvs, ky, w, e3, e4, hj, q⟩ => ?_
    subst e2 e3 e4
    obtain ⟨q0, rfl, hq⟩ := tup_key r2
    obtain ⟨ad, ks, od, rfl, hB, hr⟩ := Rp.mono s2 _ _ r1
    obtain ⟨u, hv, rv⟩ := (hr.val ky).1 w hj
    exact ⟨ad, ks, ky, q0, u, rfl, .inr ⟨od, c2.same _ _ hB⟩, hr.keys.mono c2.same, rfl, hq.mono c2.same, hv, hQ _ _ ((PostD.now c2 rv q).back (s1.trans s2))⟩
theorem co_inTD {kvs : List (List Int × D)} {ky : List Int} (hu : X.A.units + 1 < cLine) (q : k (Bl (valTD kvs ky).isSome) env) : CO X .In (.tup (ky.map I)) (.dti kvs) env k := .of (op_inT hu) fun M0 B M σ c v1 v2 r1 r2 Q hQ => by
  obtain ⟨q0, rfl, hq⟩ := tup_key r1
  obtain ⟨ad, ks, od, rfl, hB, hr⟩ := r2
  refine ⟨ad, ks, ky, q0, rfl, .inr ⟨od, c.same _ _ hB⟩, hr.keys.mono c.same, rfl, hq.mono c.same, hQ _ _ (.nowA c ?_)⟩
  rw [hr.isSome]
  exact q
/-- x.get(b, c), x a dict of one's own in slot i -/
theorem ee_tget2X (i : Nat) {x : Str} {pn apos : Pos} {ad : Addr} {kvs0 : List (List Int × D)} (hu : X.A.units + 1 < cLine) (hi0 : env[i]? = some (.mu ad (.dT kvs0))) (h : EE X b env fun d2 env2 => EE X c env2 fun d3 env3 => ∃ kvs ky, env3[i]? = some (.mu ad (.dT kvs)) ∧ d2 = .tup (ky.map I) ∧ k ((valTD kvs ky).getD d3) env3)
    (hN : X.N[i]? = some x := by rfl) (hv : Vis X.env.scope x := by first | exact Or.inl rfl | exact Or.inr (Or.inl rfl) | exact Or.inr (Or.inr rfl)) (hd : (x == ("__debug__" : Str)) = false := by decide) (hcd : (x == ("__classdict__" : Str)) = false := by decide)
    (m : M2 X (.Name x pn) "get" apos b c pos := by exact ⟨rfl, rfl, rfl, rfl⟩) : EE X (.Call (.Attribute (.Name x pn) "get" apos) [b, c] [] pos) env k :=
  .of (pe_tget2 hu (pe_var hN hv hd hcd) pe_can pe_can m) fun M0 B M σ cc Q hQ => by
    obtain ⟨s0, hs0, es0, o0, ho0, ks0, rfl, hr0⟩ := cc.slot i _ hi0
    refine ⟨.ref ad, by rw [hs0, es0], ad, rfl, ⟨ks0, .inl (J_M ho0), hr0.keys.mono cc.same⟩, h M0 B M σ cc _ fun v2 H ⟨d2, env2, B2, M2, e2, c2, s2, r2, h3⟩ => ?_⟩
    subst e2
    refine h3 M0 B2 M2 σ c2 _ fun v3 H ⟨d3, env3, B3, M3, e3, c3, s3, r3, kvs, ky, hi3, e4, q⟩ => ?_
    subst e3 e4
    obtain ⟨q0, rfl, hq⟩ := tup_key (Rp.mono s3 _ _ r2)
    obtain ⟨s4, hs4, es4, o1, ho1, ks, rfl, hr⟩ := c3.slot i _ hi3
    refine ⟨ks, ky, q0, .inl (J_M ho1), hr.keys.mono c3.same, rfl, hq.mono c3.same, ?_⟩
    cases e : valTD kvs ky with
    | none =>
      rw [(hr.val ky).2 e]
      rw [e] at q
      exact hQ _ _ ((PostD.now c3 r3 q).back (s2.trans s3))
    | some d =>
      obtain ⟨v, hv2, rv⟩ := (hr.val ky).1 d e
      rw [hv2]
      rw [e] at q
      exact hQ _ _ ((PostD.now c3 rv q).back (s2.trans s3))
theorem ei_dti (h : EE X e env fun d env' => ∃ kvs, d = .dti kvs ∧ ki (keysTD kvs) Still env') : EI X tg e env ki := .of (pi_keysQ pe_can) fun M0 B M σ c R hR => h M0 B M σ c _ fun v H ⟨d, env', B', M', e1, c', sm, r, kvs, e2, q⟩ => by
  subst e1 e2
  obtain ⟨ad, ks, o, rfl, hB, hr⟩ := r
  refine ⟨ad, o, ks, rfl, c'.same _ _ hB, hR _ _ ⟨keysTD kvs, Still, env', B', M', rfl, c', sm, fun M0 env2 B2 M2 σ2 s2 c2 _ => ?_, q⟩⟩
  have hB2 : J B2 M2 ad = some (.frz o (TdO ad ks)) := (s2.trans c2.same) _ _ hB
  have hl : (keysTD kvs).length = ks.length := by unfold keysTD; rw [List.length_map, RpT.length hr]
  refine ⟨fun i hi => ⟨hB2, by omega⟩, ⟨hB2, by omega⟩, fun i d x H' hd hy => ?_⟩
  obtain ⟨rfl, p, hk, rfl⟩ := hy
  obtain ⟨d', hd', hp⟩ := RpT.at hr hk
  unfold keysTD at hd
  rw [List.getElem?_map, hd'] at hd
  have e : D.tup (p.1.map I) = d := Option.some.inj hd
  subst e
  exact ⟨B2, rfl, Same.refl B2, c2.dis, p.2.1, _, rfl, hp.mono s2, RpA.ints⟩
/-- list(d) -/
theorem em_listQ (hm : X.mg "list" = none) (h : EE X e env fun d env' => ∃ kvs, d = .dti kvs ∧ km (.lst (keysTD kvs)) env') (hc : X.calm = true := by rfl) (hg : Gl X "list" := by rfl) (he : starEach (e :: []) X.env = (false, eval e X.env) :: starEach [] X.env := by rfl) (hpl : (backTo pos (starEach [] X.env)).any (·.1) = false := by rfl) : EM X (.Call (.Name "list" p) [e] [] pos) env km :=
  .of (pe_callTy (call_list_Q hc) hg hm (by decide +kernel) (pa_cons pe_can pa_nil he) (by decide) (by decide) he hpl) fun M0 B M σ c Q hQ => h M0 B M σ c _ fun v H ⟨d, env', B', M', e1, c', sm, r, kvs, e2, q⟩ => by
    subst e1 e2
    obtain ⟨ad, ks, o, rfl, hB, hr⟩ := r
    refine ⟨ad, o, ks, rfl, c'.same _ _ hB, fun p hp => hQ _ _ ((PostM.newL c' hp ?_ q).back sm)⟩
    have go : ∀ {kvs : List (List Int × D)} {ks : TKs}, RpT X.K B' kvs ks → RpA X.K B' (keysTD kvs) (ks.map fun x => V.ref x.2.1) := by
      intro kvs
      induction kvs with
      | nil => intro ks h; rw [show ks = [] from h]; exact rfl
      | cons p0 r ih =>
        intro ks ⟨q0, x, t, e, h0, h1, h⟩
        subst e
        exact ⟨.ref q0, _, rfl, ⟨q0, _, rfl, h0, RpA.ints⟩, ih h⟩
    exact go hr
end
end Sy
namespace Sy
open PySem PySem.Spec PyProof.Rows L2
/-! ### sorted(d.items()), d a dict of ints -/
section
variable {X : Cx} {pins : List (Addr × Obj)} {σ : L2.St} {H : Hp} {s : Shared}
/-- many things are laid at once -/
theorem many_laid {N : Hp} {h' : Heap} {tk : Nat} (I : Inv X pins σ H s) (hk : ∀ b o, s.heap.get? b = some o → h'.get? b = some o) (hn : ∀ b u, N b = some u → s.heap.objs.size ≤ b) (ok : ∀ b u, N b = some u → ObjOk X.prog X.w (J H N) h' b u) :
    Inv X pins σ (J H N) { s with heap := h', toks := tk } := by
  have none_low : ∀ b, b < s.heap.objs.size → N b = none := fun b hb => by
    cases e : N b with
    | none => rfl
    | some u => exact absurd (hn b u e) (by omega)
  have none_H : ∀ b u, H b = some u → N b = none := fun b u e => none_low b (I.hok b u e).lt
  have kp : ∀ b u, H b = some u → J H N b = some u := fun b u e => by rw [J_B (none_H b u e)]; exact e
  refine I.call' (ch := []) rfl ⟨fun b o q _ _ _ => hk b o q, fun b o q _ _ _ => ⟨o.slots, hk b o q⟩, fun b o q n _ => ?_, fun b o q _ => ⟨o, hk b o q⟩, fun b xs q => kp b _ q, fun b o u q => kp b _ q, fun b ps q => ⟨#[], by rw [kp b _ q]; simp⟩⟩ (fun b u q => ?_) I.bare fun b z => by simp at z
  · rw [J_B (none_low b (Heap.lt_size q))]
    exact n
  · cases e : N b with
    | some v =>
      rw [J_M e] at q
      cases q
      exact ok b _ e
    | none =>
      rw [J_B e] at q
      exact (I.hok b u q).stay (fun d v _ y => hk d v y) (fun d y => kp d _ y) fun d xs y => kp d _ y
end
/-- the view -/
def viewO (p d : Addr) : HO := .ext fun h => h.IsItemsView p d
theorem viewO_ok {P : Program} {w : World} {H : Hp} {h : Heap} {p d : Addr} (e : h.get? p = some { cls := .type "dict_items", data := .fields #[.ref d] }) : ObjOk P w H h p (viewO p d) :=
  ⟨⟨_, e, rfl, rfl⟩, ⟨_, e⟩, fun h1 h2 x k => let ⟨o, ho, r⟩ := x; ⟨o, k o ho, r⟩⟩
abbrev prK (p : Int × Int) : Key × V := (.inl p.1, .int p.2)
def tItems (te : TE) : TE := fun σ H Q => te σ H fun x H1 => ∃ d o kvs, x = .ref d ∧ H1 d = some (.frz o (.dK kvs)) ∧ ∀ p, H1 p = none → Q (.ref p) (upd H1 p (viewO p d))
section
variable {X : Cx} {e : Expr} {te : TE} {p apos cpos pos : Pos}
theorem pe_items (he : PE X e te) (hbase : attributeBase e "items" X.env (eval e X.env) = eval e X.env := by rfl) (hline : (apos.endLine == cpos.line) = true := by rfl) : PE X (.Call (.Attribute e "items" apos) [] [] cpos) (tItems te) := by
  refine ⟨fun pins s σ H Q I hq => ?_⟩
  refine wpAny_Call_method (T := "dict") (id := "dict.items") hbase rfl hline F.plainAttrs_dict F.slot_dict_items F.type_dict_items (thn (he.run pins s σ H _ I hq) fun u s1 ⟨x, H1, I1, rx, d, o, kvs, ex, hd, q⟩ => ?_)
  subst ex
  obtain rfl : u = Value.ref d := rx
  obtain ⟨hz, hs0, vs, kv, hdo⟩ := (I1.hok d _ hd).2
  refine ⟨hdo.typeIs, hdo.mapOf.noDict, ?_⟩
  show wpAny _ _ (callWith cpos (.builtin "dict.items") [.ref d] [] []) _ X.xe s1
  refine method_meetsIn F.slot_dict_items F.entry_dict_items rfl (PySem.evalArgs_none ⟨rfl, hdo.typeIs, F.args_dict_items_1 _, _, meets_dict_items (mixKind X.prog X.w) d hs0, ⟨vs, hdo⟩, ?_⟩)
  exact ⟨.ref s1.heap.objs.size, _, I1.laid (t' := s1.toks) (o := viewO s1.heap.objs.size d) (fun b u e => Heap.get?_push_of_some _ e) (Nat.le_refl _) (viewO_ok (Heap.get?_push_size _ rfl)), rfl, q _ (I1.hok.fresh (Nat.le_refl _))⟩
/-- sorted(the view) -/
def rSortV : List V → Hp → VK → Prop := fun vs H Q => ∃ (p d : Addr) (o : Obj) (ps : List (Int × Int)), vs = [.ref p] ∧ H p = some (viewO p d) ∧ H d = some (.frz o (.dK (ps.map prK))) ∧ ps.length ≤ 1000 ∧
  ∀ (N : Hp) (l : Addr) (ts : List Addr), (∀ b u, N b = some u → H b = none) → N l = some (.lst (ts.map V.ref)) → Paired (fun t (p : Int × Int) => ∃ ot, N t = some (.frz ot (.tup [.int p.1, .int p.2])) ∧ ot.cls = .type "tuple" ∧ ot.dict = none) ts (ps.mergeSort pLe) → Q (.ref l) (J H N)
theorem eachR {h' : Heap} {as : List Addr} : ∀ {out : List Value} {qs : List (Int × Int)}, PySem.W.EachIs (fun v (p : Int × Int) => ∃ t t1 t2, v = Value.ref t ∧ t ∈ as ∧ h'.get? t = some { cls := .type "tuple", data := .seq #[.int p.1 t1, .int p.2 t2] }) out qs →
    ∃ ts : List (Addr × Tok × Tok), out = ts.map (fun z => Value.ref z.1) ∧ Paired (fun (z : Addr × Tok × Tok) (p : Int × Int) => z.1 ∈ as ∧ h'.get? z.1 = some { cls := .type "tuple", data := .seq #[.int p.1 z.2.1, .int p.2 z.2.2] }) ts qs
  | _, _, .nil => ⟨[], rfl, .nil⟩
  | _, _, .cons ⟨t, t1, t2, e, h1, h2⟩ r => by
    obtain ⟨ts, e1, e2⟩ := eachR r
    exact ⟨(t, t1, t2) :: ts, by rw [e, e1]; rfl, .cons ⟨h1, h2⟩ e2⟩
theorem cr_sortV (hc : X.calm = true) (hu : X.A.units + 64 < cLine) : CallR X (.builtin "sorted") rSortV := by
  intro pins s σ H xs us Q I r h
  obtain ⟨p, d, o, ps, rfl, hp, hd, hl, q⟩ := h
  obtain rfl := Vals.ref1 r
  have view : s.heap.IsItemsView p d := (show ObjOk X.prog X.w H s.heap p (viewO p d) from I.hok p _ hp).1
  obtain ⟨hs, hgd, hx, es, ep, vs, hdt, hsz, kv, o', es', hgd', hx', hdt', hrest⟩ := I.frzK hd
  rw [hgd] at hgd'
  cases hgd'
  obtain ⟨rfl, -⟩ := dict_ep hdt hdt'
  have hpl : (ps.map prK).length = ps.length := List.length_map ..
  refine DT.sortedI (es := es') (ep := ep) (I.ok.hd hc) view ⟨o, hgd, hx, hdt⟩ (by rw [sizeLine_eq]; omega) fun h' tk as hk hlt hal hG => ?_
  have lak : as.length = ps.length := by omega
  -- the pairs
  have pr : ∀ (j : Nat) (b : Addr), as[j]? = some b → ∃ (pp : Int × Int) (t1 t2 : Tok), ps[j]? = some pp ∧ h'.get? b = some { cls := .type "tuple", data := .seq #[.int pp.1 t1, .int pp.2 t2] } := fun j b hj => by
    obtain ⟨en, he, hg⟩ := hG.pairs j b hj
    have hjl : j < ps.length := by rw [← lak]; exact (List.getElem?_eq_some_iff.mp hj).1
    obtain ⟨pp, hpp⟩ : ∃ pp, ps[j]? = some pp := ⟨_, List.getElem?_eq_getElem hjl⟩
    obtain ⟨u, hu1, ru⟩ := kv_get (i := j) (k := .inl pp.1) (v := .int pp.2) kv (by rw [List.getElem?_map, hpp]; rfl)
    obtain ⟨t2, rfl⟩ := (show ∃ t, u = Value.int pp.2 t from ru)
    obtain ⟨hkey, hval⟩ := hrest.2.1.get? (i := j) (e := en) (k := .inl pp.1) (v := .int pp.2 t2) (by rw [Array.getElem?_toList]; exact he) hu1
    obtain ⟨t1, e1⟩ := (show ∃ t, en.key = Value.int pp.1 t from relV_key (k := .inl pp.1) hkey)
    exact ⟨pp, t1, t2, hpp, by rw [hg, e1, hval]⟩
  have hob : (h'.push { cls := .type "list", data := .seq (as.map Value.ref).toArray }).get? h'.objs.size = some (seqObj "list" (as.map Value.ref).toArray 0) := Heap.get?_push_size _ rfl
  have ka : ∀ b o, h'.get? b = some o → (h'.push { cls := .type "list", data := .seq (as.map Value.ref).toArray }).get? b = some o := fun b o e => Heap.get?_push_of_some _ e
  have hz2 : (h'.push { cls := .type "list", data := .seq (as.map Value.ref).toArray }).objs.size = h'.objs.size + 1 := Heap.size_push ..
  have each : ∀ (as' : List Addr) (ps' : List (Int × Int)), as'.length = ps'.length → (∀ (j : Nat) (b : Addr), as'[j]? = some b → b ∈ as ∧ ∃ (pp : Int × Int) (t1 t2 : Tok), ps'[j]? = some pp ∧ h'.get? b = some { cls := .type "tuple", data := .seq #[.int pp.1 t1, .int pp.2 t2] }) →
      PySem.W.EachIs (fun v (p : Int × Int) => ∃ t t1 t2, v = Value.ref t ∧ t ∈ as ∧ h'.get? t = some { cls := .type "tuple", data := .seq #[.int p.1 t1, .int p.2 t2] }) (as'.map Value.ref) ps' := by
    intro as'
    induction as' with
    | nil => intro ps' hl _; cases ps' with
      | nil => exact .nil
      | cons _ _ => cases hl
    | cons a r ih =>
      intro ps' hl hh
      cases ps' with
      | nil => cases hl
      | cons pp t =>
        obtain ⟨hm, pp', t1, t2, e1, e2⟩ := hh 0 a rfl
        cases e1
        exact .cons ⟨a, t1, t2, rfl, hm, e2⟩ (ih t (Nat.succ.inj hl) fun j b hj => hh (j + 1) b hj)
  have e0 := each as ps lak fun j b hj => ⟨List.mem_of_getElem? hj, pr j b hj⟩
  have hne : ∀ t, t ∈ as → t < h'.objs.size := fun t ht => hG.there ht
  have er : PySem.W.EachIs (fun v b => ∃ as', Reads (h'.push { cls := .type "list", data := .seq (as.map Value.ref).toArray }) v (pEnc b) as' ∧ h'.objs.size ∉ as') (as.map Value.ref) ps := e0.mono fun v b ⟨t, t1, t2, e1, e2, e3⟩ => by
    subst e1
    exact ⟨[], .tuple (ka _ _ e3) rfl rfl (.cons (.int _ _) (.cons (.int _ _) .nil)), fun z => nomatch z⟩
  refine PySem.W.list_sort_data (s := { s with heap := h'.push { cls := .type "list", data := .seq (as.map Value.ref).toArray }, toks := tk }) (enc := pEnc) hob e0 er (PySem.W.AllAlike.of fun b b' => by simp [pEnc, PySem.W.alike, PySem.W.alikeAll]) (PySem.W.Sortable.tuples fun b => ⟨_, _, rfl⟩) (by rw [sizeLine_eq]; omega) (fun b _ => by
    have : (pEnc b).depth ≤ 1 := by simp [pEnc, PyData.depth, PyData.depthAll]
    show X.A.units + 1 + 1 + _ < _
    omega) fun out ho eo => ?_
  · rw [pLe_eq] at eo
    obtain ⟨zs, e1, e2⟩ := eachR eo
    generalize hh2 : h'.push { cls := .type "list", data := .seq (as.map Value.ref).toArray } = h2 at hob ka hz2 ⊢
    obtain ⟨c, hat⟩ := sortedHeap_at (out := out.toArray) hob
    have old : ∀ b u, h'.get? b = some u → (sortedHeap h2 h'.objs.size (as.map Value.ref) out.toArray).get? b = some u := fun b u e => by
      have hb := Heap.lt_size e
      rw [sortedHeap_old (Nat.ne_of_lt hb) (by rw [hz2]; exact Nat.lt_succ_of_lt hb)]
      exact ka b u e
    let N : Hp := fun b => if b = h'.objs.size then some (.lst (zs.map fun z => V.ref z.1)) else ((zs.zip (ps.mergeSort pLe)).find? fun z => decide (z.1.1 = b)).map fun z => .frz { cls := .type "tuple", data := .seq #[.int z.2.1 z.1.2.1, .int z.2.2 z.1.2.2] } (.tup [.int z.2.1, .int z.2.2])
    have zf : ∀ z, z ∈ zs.zip (ps.mergeSort pLe) → z.1.1 ∈ as ∧ h'.get? z.1.1 = some { cls := .type "tuple", data := .seq #[.int z.2.1 z.1.2.1, .int z.2.2 z.1.2.2] } := fun z hz => by
      obtain ⟨j, hj⟩ := List.mem_iff_getElem?.mp hz
      obtain ⟨h1, h2⟩ := List.getElem?_zip_eq_some.mp hj
      obtain ⟨b, hb, g⟩ := L2.paired_get e2 h1
      rw [h2] at hb
      cases hb
      exact g
    have Nt : ∀ b u, N b = some u → b ≠ h'.objs.size → ∃ z, z ∈ zs.zip (ps.mergeSort pLe) ∧ z.1.1 = b ∧ u = .frz { cls := .type "tuple", data := .seq #[.int z.2.1 z.1.2.1, .int z.2.2 z.1.2.2] } (.tup [.int z.2.1, .int z.2.2]) := fun b u e hb => by
      have e : (if b = h'.objs.size then some (HO.lst (zs.map fun z => V.ref z.1)) else _) = some u := e
      rw [if_neg hb] at e
      obtain ⟨z, hz, rfl⟩ := Option.map_eq_some_iff.mp e
      exact ⟨z, List.mem_of_find?_eq_some hz, (by simpa using List.find?_some hz), rfl⟩
    have Nl : N h'.objs.size = some (.lst (zs.map fun z => V.ref z.1)) := if_pos rfl
    have hge : ∀ b u, N b = some u → s.heap.objs.size ≤ b := fun b u e => by
      by_cases hb : b = h'.objs.size
      · rw [hb]; exact Nat.le_of_lt hlt
      · obtain ⟨z, hz, rfl, _⟩ := Nt b u e hb
        exact Nat.le_of_lt (hG.above _ (zf z hz).1)
    have hzl : zs.length = ps.length := by rw [Paired.length e2, List.length_mergeSort]
    have I' := many_laid (N := N) (h' := sortedHeap h2 h'.objs.size (as.map Value.ref) out.toArray) (tk := tk) I (fun b u e => old b u (hk b u e)) hge fun b u e => by
      by_cases hb : b = h'.objs.size
      · rw [hb] at e ⊢
        rw [Nl] at e
        cases e
        refine ⟨by rw [List.length_map, hzl, sizeLine_eq]; omega, out, c, ?_, hat⟩
        rw [e1]
        have : ∀ l : List (Addr × Tok × Tok), Vals (l.map fun z => V.ref z.1) (l.map fun z => Value.ref z.1) := by
          intro l
          induction l with
          | nil => exact .nil
          | cons a r ih => exact .cons rfl ih
        exact this zs
      · obtain ⟨z, hz, rfl, rfl⟩ := Nt b u e hb
        have hg := old _ _ (zf z hz).2
        exact ⟨hg, by show 2 ≤ sizeLine; decide, [.int z.2.1 z.1.2.1, .int z.2.2 z.1.2.2], .cons ⟨_, rfl⟩ (.cons ⟨_, rfl⟩ .nil), ⟨_, hg, rfl, 0, rfl⟩⟩
    refine ⟨.ref h'.objs.size, _, I', rfl, q N h'.objs.size (zs.map fun z => z.1) (fun b u e => I.hok.fresh (hge b u e)) (by rw [List.map_map]; exact Nl) ?_⟩
    have fin : ∀ (zs' : List (Addr × Tok × Tok)) (qs' : List (Int × Int)), Paired (fun (z : Addr × Tok × Tok) (p : Int × Int) => z.1 ∈ as ∧ h'.get? z.1 = some { cls := .type "tuple", data := .seq #[.int p.1 z.2.1, .int p.2 z.2.2] }) zs' qs' → (∀ z, z ∈ zs'.zip qs' → z ∈ zs.zip (ps.mergeSort pLe)) →
        Paired (fun t (p : Int × Int) => ∃ ot, N t = some (.frz ot (.tup [.int p.1, .int p.2])) ∧ ot.cls = .type "tuple" ∧ ot.dict = none) (zs'.map fun z => z.1) qs' := by
      intro zs' qs' hp
      induction hp with
      | nil => intro _; exact .nil
      | @cons z pp zr qr g t ih =>
        intro hsub
        refine .cons ?_ (ih fun z hz => hsub z (List.mem_cons_of_mem _ hz))
        have hm := hsub (z, pp) List.mem_cons_self
        have hb : z.1 ≠ h'.objs.size := Nat.ne_of_lt (hne _ g.1)
        obtain ⟨u, hu⟩ : ∃ u, N z.1 = some u := by
          show ∃ u, (if z.1 = h'.objs.size then some (HO.lst (zs.map fun z => V.ref z.1)) else _) = some u
          rw [if_neg hb]
          cases ef : (zs.zip (ps.mergeSort pLe)).find? fun w => decide (w.1.1 = z.1) with
          | some w => exact ⟨_, rfl⟩
          | none =>
            have := List.find?_eq_none.mp ef _ hm
            exact absurd (decide_eq_true rfl) this
        obtain ⟨w, hw, ew, rfl⟩ := Nt _ _ hu hb
        have g2 := (zf w hw).2
        rw [ew, g.2] at g2
        have g3 := Option.some.inj g2
        have a1 : w.2 = pp := by
          injection g3 with _ _ g4 _
          injection g4 with g5 _
          have g6 := congrArg Array.toList g5
          simp at g6
          exact Prod.ext g6.1.1.symm g6.2.1.symm
        exact ⟨_, by rw [hu, a1], rfl, rfl⟩
    exact fin zs _ e2 fun z hz => hz
end
section
variable {X : Cx} {e : Expr} {env : Env_} {km : MO → Env_ → Prop} {pos p apos cpos : Pos}
/-- sorted(e.items()) -/
theorem em_sortedItems (hm : X.mg "sorted" = none) (hu : X.A.units + 64 < cLine) (h : EE X e env fun d env' => ∃ ps : List (Int × Int), d = .dct (ps.map fun p => (.inl p.1, I p.2)) ∧ ps.length ≤ 1000 ∧ km (.lst ((ps.mergeSort pLe).map pD)) env') (hc : X.calm = true := by rfl) (hg : Gl X "sorted" := by rfl)
    (hbase : attributeBase e "items" X.env (eval e X.env) = eval e X.env := by rfl) (hline : (apos.endLine == cpos.line) = true := by rfl)
    (he : starEach (.Call (.Attribute e "items" apos) [] [] cpos :: []) X.env = (false, eval (.Call (.Attribute e "items" apos) [] [] cpos) X.env) :: starEach [] X.env := by rfl) (hpl : (backTo pos (starEach [] X.env)).any (·.1) = false := by rfl) :
    EM X (.Call (.Name "sorted" p) [.Call (.Attribute e "items" apos) [] [] cpos] [] pos) env km :=
  .of (pe_callB (cr_sortV hc hu) hg hm (by decide +kernel) (pa_cons (pe_items pe_can hbase hline) pa_nil he) (by decide) (by decide) he hpl) fun M0 B M σ c Q hQ => h M0 B M σ c _ fun v H ⟨d, env', B', M', e1, c', sm, r, ps, e2, hl, q⟩ => by
    subst e1 e2
    obtain ⟨ad, ks, o, rfl, hB, hr⟩ := r
    have hks : ks = ps.map prK := by
      have go : ∀ {ps : List (Int × Int)} {ks : List (Key × V)}, RpK X.K B' (ps.map fun p => ((.inl p.1 : Key), I p.2)) ks → ks = ps.map prK := by
        intro ps
        induction ps with
        | nil => intro ks h; exact h
        | cons p0 r ih =>
          intro ks ⟨x, t, e, h1, h2⟩
          rw [e, ih h2, show x = V.int p0.2 from h1]
          rfl
      exact go hr
    subst hks
    refine ⟨ad, o, _, rfl, c'.same _ _ hB, fun pv hpv => ?_⟩
    obtain ⟨n1, n2⟩ := J_none hpv
    have hadne : ad ≠ pv := fun z => by rw [z, n2] at hB; cases hB
    refine ⟨pv, ad, o, ps, rfl, upd_same, by rw [upd_ne hadne]; exact c'.same _ _ hB, hl, fun N l ts hN hl2 hts => hQ _ _ ?_⟩
    -- the view, the pairs stay; the list is new
    have cv := c'.new (o := viewO pv ad) n1 n2
    have hJ : upd (J B' M') pv (viewO pv ad) = J (upd B' pv (viewO pv ad)) M' := upd_JB n1
    rw [hJ] at hN ⊢
    have sm2 : Same B' (upd B' pv (viewO pv ad)) := same_new n2
    generalize upd B' pv (viewO pv ad) = Bv at cv hN sm2 ⊢
    have hN1 : ∀ b u, N b = some u → M' b = none ∧ Bv b = none := fun b u e => J_none (hN b u e)
    let B2 : Hp := fun b => if b = l then Bv b else match N b with
      | some u => some u
      | none => Bv b
    have hl0 := hN1 l _ hl2
    have same2 : Same Bv B2 := fun b u e => by
      show (if b = l then Bv b else _) = some u
      by_cases hb : b = l
      · rw [if_pos hb]; exact e
      · rw [if_neg hb]
        cases eN : N b with
        | none => exact e
        | some w => rw [(hN1 b w eN).2] at e; cases e
    have dis2 : ∀ a o, M' a = some o → B2 a = none := fun a o e => by
      show (if a = l then Bv a else _) = none
      by_cases hb : a = l
      · rw [if_pos hb]; exact cv.dis a o e
      · rw [if_neg hb]
        cases eN : N a with
        | none => exact cv.dis a o e
        | some w => rw [(hN1 a w eN).1] at e; cases e
    have cv2 := cv.ext same2 dis2
    have B2l : B2 l = none := by
      show (if l = l then Bv l else _) = none
      rw [if_pos rfl]; exact hl0.2
    have eH : J (J Bv M') N = J B2 (upd M' l (.lst (ts.map V.ref))) := by
      funext b
      by_cases hb : b = l
      · rw [hb, J_M hl2, J_M upd_same]
      · cases eN : N b with
        | some u =>
          rw [J_M eN, J_B (by rw [upd_ne hb]; exact (hN1 b u eN).1)]
          show _ = (if b = l then Bv b else _)
          rw [if_neg hb, eN]
        | none =>
          rw [J_B eN]
          have e2 : B2 b = Bv b := by
            show (if b = l then Bv b else _) = _
            rw [if_neg hb, eN]
          cases eM : M' b with
          | some u => rw [J_M eM, J_M (by rw [upd_ne hb]; exact eM)]
          | none => rw [J_B eM, J_B (by rw [upd_ne hb]; exact eM), e2]
    refine ⟨l, .lst ((ps.mergeSort pLe).map pD), .lst (ts.map V.ref), env', B2, M', rfl, eH, hl0.1, B2l, cv2, sm.trans (sm2.trans same2), ⟨_, rfl, ?_⟩, q⟩
    have go : ∀ {ts : List Addr} {qs : List (Int × Int)}, Paired (fun t (p : Int × Int) => ∃ ot, N t = some (.frz ot (.tup [.int p.1, .int p.2])) ∧ ot.cls = .type "tuple" ∧ ot.dict = none) ts qs → RpA X.K B2 (qs.map pD) (ts.map V.ref) := by
      intro ts qs h
      induction h with
      | nil => exact rfl
      | @cons t p0 tr qr g r ih =>
        obtain ⟨ot, g1, g2, g3⟩ := g
        refine ⟨.ref t, _, rfl, ⟨t, [.int p0.1, .int p0.2], rfl, .inl ⟨ot, ?_, g2, g3⟩, .int p0.1, [.int p0.2], rfl, rfl, .int p0.2, [], rfl, rfl, rfl⟩, ih⟩
        have htl : t ≠ l := fun z => by rw [z, hl2] at g1; cases g1
        show (if t = l then Bv t else _) = _
        rw [if_neg htl, g1]
    exact go hts
end
end Sy
namespace Sy
open PySem PySem.Spec PyProof.Rows L2
theorem co_notB {X : Cx} {env : Env_} {k : D → Env_ → Prop} {a b : Bool} (q : k (Bl (!decide (a = b))) env) : CO X .IsNot (Bl a) (Bl b) env k := .of op_isnot_bl fun M0 B M σ c v1 v2 r1 r2 Q hQ => by
  cases r1; cases r2
  exact ⟨a, b, rfl, rfl, hQ _ _ (.nowA c q)⟩
/-! what a dict with tuple keys holds -/
theorem valTD_put {kvs : List (List Int × D)} {k j : List Int} {d : D} : valTD (putTD kvs k d) j = if j = k then some d else valTD kvs j := by
  unfold putTD
  by_cases ha : (kvs.any fun p => decide (p.1 = k)) = true
  · rw [if_pos ha]
    have go : ∀ kvs : List (List Int × D), valTD (kvs.map fun p => if p.1 = k then (p.1, d) else p) j = (valTD kvs j).map fun x => if j = k then d else x := by
      intro kvs
      induction kvs with
      | nil => rfl
      | cons p r ih =>
        rw [List.map_cons]
        by_cases hp : p.1 = k
        · rw [if_pos hp]
          by_cases hj : p.1 = j
          · have hjk : j = k := hj.symm.trans hp
            simp [valTD, List.find?_cons, hj, hjk]
          · have e1 : ∀ x, valTD ((p.1, x) :: r) j = valTD r j := fun x => by simp [valTD, List.find?_cons, hj]
            have e2 : valTD ((p.1, d) :: r.map fun p => if p.1 = k then (p.1, d) else p) j = valTD (r.map fun p => if p.1 = k then (p.1, d) else p) j := by simp [valTD, List.find?_cons, hj]
            rw [e2, ih]
            exact congrArg _ (e1 p.2).symm
        · rw [if_neg hp]
          by_cases hj : p.1 = j
          · have hjk : ¬ j = k := fun z => hp (hj.trans z)
            simp [valTD, List.find?_cons, hj, hjk]
          · have e2 : valTD (p :: r.map fun p => if p.1 = k then (p.1, d) else p) j = valTD (r.map fun p => if p.1 = k then (p.1, d) else p) j := by simp [valTD, List.find?_cons, hj]
            have e1 : valTD (p :: r) j = valTD r j := by simp [valTD, List.find?_cons, hj]
            rw [e2, ih, e1]
    rw [go]
    by_cases hj : j = k
    · subst hj
      rw [if_pos rfl]
      obtain ⟨p, hp, hpk⟩ := List.any_eq_true.mp ha
      have : (valTD kvs j).isSome = true := by
        unfold valTD
        rw [Option.isSome_map, List.find?_isSome]
        exact ⟨p, hp, hpk⟩
      obtain ⟨x, hx⟩ := Option.isSome_iff_exists.mp this
      rw [hx]
      simp
    · rw [if_neg hj]
      cases valTD kvs j <;> simp [hj]
  · rw [if_neg ha]
    unfold valTD
    rw [List.find?_append]
    by_cases hj : j = k
    · subst hj
      rw [if_pos rfl]
      have : kvs.find? (fun p => decide (p.1 = j)) = none := by
        rw [List.find?_eq_none]
        intro p hp h
        exact ha (List.any_eq_true.mpr ⟨p, hp, h⟩)
      rw [this]
      simp
    · rw [if_neg hj]
      cases h : kvs.find? (fun p => decide (p.1 = j)) with
      | some p => rfl
      | none =>
        have : ([(k, d)] : List (List Int × D)).find? (fun p => decide (p.1 = j)) = none := by simp [Ne.symm hj]
        rw [this]
        rfl
theorem putTD_len (kvs : List (List Int × D)) (k : List Int) (d : D) : (putTD kvs k d).length ≤ kvs.length + 1 := by
  unfold putTD
  split
  · rw [List.length_map]; omega
  · rw [List.length_append, List.length_singleton]; omega
theorem valTD_mem {kvs : List (List Int × D)} {p : List Int × D} (h : p ∈ kvs) : ∃ d, valTD kvs p.1 = some d := by
  have : (valTD kvs p.1).isSome = true := by
    unfold valTD
    rw [Option.isSome_map, List.find?_isSome]
    exact ⟨p, h, decide_eq_true rfl⟩
  exact Option.isSome_iff_exists.mp this
theorem mem_valTD {kvs : List (List Int × D)} {k : List Int} {d : D} (h : valTD kvs k = some d) : ∃ p, p ∈ kvs ∧ p.1 = k := by
  unfold valTD at h
  obtain ⟨p, hp, _⟩ := Option.map_eq_some_iff.mp h
  exact ⟨p, List.mem_of_find?_eq_some hp, of_decide_eq_true (by have := List.find?_some hp; exact this)⟩
end Sy
namespace Ln
/-! ### what a row tells of places -/
def between (a b : Int) : List Int := (List.range (b - a - 1).toNat).map fun j : Nat => a + 1 + j
theorem mem_between {a b x : Int} : x ∈ between a b ↔ a < x ∧ x < b := by
  unfold between
  rw [List.mem_map]
  constructor
  · rintro ⟨j, hj, rfl⟩
    have := List.mem_range.mp hj
    omega
  · rintro ⟨h1, h2⟩
    exact ⟨(x - a - 1).toNat, List.mem_range.mpr (by omega), by omega⟩
theorem between_len {a b : Int} (h : a < b) : ((between a b).length : Int) = b - a - 1 := by
  unfold between
  rw [List.length_map, List.length_range]
  omega
theorem between_nodup {a b : Int} : (between a b).Nodup := by
  unfold between
  rw [List.nodup_iff_pairwise_ne, List.pairwise_map]
  exact List.Pairwise.imp (fun h => by omega) (List.nodup_iff_pairwise_ne.mp List.nodup_range)
/-- the cars fixed, the cars free: car, outside, places, least, the rest of the row -/
def wk (n : Int) : Int → Int → List Int → Int → List Int → List (Int × Int) × List (Int × List Int)
  | _, _, _, _, [] => ([], [])
  | c, o, P, l, x :: xs => if 0 < o ∧ x = 0 then ((wk n (c + 1) (o - 1) P l xs).1, (c, srt P) :: (wk n (c + 1) (o - 1) P l xs).2)
    else ((c, n - c + 1 - x) :: (wk n (c + 1) x ((if o = 0 then [] else P) ++ between (n - c + 1 - x) l) (n - c + 1 - x) xs).1, (wk n (c + 1) x ((if o = 0 then [] else P) ++ between (n - c + 1 - x) l) (n - c + 1 - x) xs).2)
theorem wk_free {n c o l x : Int} {P xs : List Int} (h : 0 < o ∧ x = 0) : wk n c o P l (x :: xs) = ((wk n (c + 1) (o - 1) P l xs).1, (c, srt P) :: (wk n (c + 1) (o - 1) P l xs).2) := if_pos h
theorem wk_rec {n c o l x : Int} {P xs : List Int} (h : ¬ (0 < o ∧ x = 0)) : wk n c o P l (x :: xs) = ((c, n - c + 1 - x) :: (wk n (c + 1) x ((if o = 0 then [] else P) ++ between (n - c + 1 - x) l) (n - c + 1 - x) xs).1, (wk n (c + 1) x ((if o = 0 then [] else P) ++ between (n - c + 1 - x) l) (n - c + 1 - x) xs).2) := if_neg h
def fixedR (R : List Int) : List (Int × Int) := (wk R.length 1 0 [] ((R.length : Int) + 1) R).1
def freeR (R : List Int) : List (Int × List Int) := (wk R.length 1 0 [] ((R.length : Int) + 1) R).2
/-- what stands before a car's turn: m cars to come -/
structure Wk (o : Int) (P : List Int) (l : Int) (n m : Nat) : Prop where
  o0 : 0 ≤ o
  lo : l + o = (m : Int) + 1
  l1 : 1 ≤ l
  ln : l ≤ (n : Int) + 1
  pl : (P.length : Int) + l ≤ (n : Int) + 1
  pm : ∀ x, x ∈ P → l < x ∧ x ≤ n
  nd : P.Nodup
theorem Wk.init (n : Nat) : Wk 0 [] ((n : Int) + 1) n n := ⟨by omega, by omega, by omega, by omega, by rw [List.length_nil]; omega, (fun x h => nomatch h), List.nodup_nil⟩
/-- a row's number at a turn, read -/
theorem good_two {o x : Int} {xs : List Int} (ho : 0 ≤ o) (h : good o (x :: xs) = true) : (0 < o ∧ x = 0 ∧ good (o - 1) xs = true) ∨ (¬ (0 < o ∧ x = 0) ∧ o ≤ x ∧ x ≤ xs.length ∧ good x xs = true) := by
  cases e : stepZ xs.length o x with
  | none => rw [good_bad e] at h; cases h
  | some o' =>
    rw [good_cons e] at h
    unfold stepZ at e
    split at e
    · split at e
      · cases e
        exact .inl ⟨by omega, by omega, h⟩
      · split at e
        · cases e
          exact .inr ⟨by omega, by omega, by omega, h⟩
        · cases e
    · cases e
theorem Wk.free {o l : Int} {P : List Int} {n m : Nat} (w : Wk o P l n (m + 1)) (h : 0 < o) : Wk (o - 1) P l n m :=
  ⟨by omega, by have := w.lo; omega, w.l1, w.ln, w.pl, w.pm, w.nd⟩
theorem Wk.recd {o l x : Int} {P : List Int} {n m : Nat} (w : Wk o P l n (m + 1)) (h1 : o ≤ x) (h2 : x ≤ m) : Wk x ((if o = 0 then [] else P) ++ between ((m : Int) + 1 - x) l) ((m : Int) + 1 - x) n m := by
  have hlo := w.lo
  have hln := w.ln
  have ho := w.o0
  have hpl := w.pl
  have hp : (m : Int) + 1 - x < l := by omega
  have hm : ∀ y, y ∈ (if o = 0 then [] else P) → y ∈ P := fun y hy => by
    split at hy
    · cases hy
    · exact hy
  have hl : ((if o = 0 then [] else P).length : Int) ≤ P.length := by
    split
    · rw [List.length_nil]; omega
    · omega
  refine ⟨by omega, by omega, by omega, by omega, ?_, fun y hy => ?_, ?_⟩
  · rw [List.length_append]
    have := between_len hp
    omega
  · rcases List.mem_append.mp hy with h | h
    · have := w.pm y (hm y h)
      omega
    · have := mem_between.mp h
      omega
  · rw [List.nodup_append]
    refine ⟨?_, between_nodup, fun a ha b hb e => ?_⟩
    · split
      · exact List.nodup_nil
      · exact w.nd
    · have h1 := w.pm a (hm a ha)
      have h2 := mem_between.mp hb
      omega
/-! ### each car once -/
theorem wk_lo {n : Int} : ∀ {xs : List Int} {c o l : Int} {P : List Int}, (∀ q, q ∈ (wk n c o P l xs).1 → c ≤ q.1) ∧ ∀ q, q ∈ (wk n c o P l xs).2 → c ≤ q.1
  | [], c, o, l, P => ⟨(fun q h => nomatch h), (fun q h => nomatch h)⟩
  | x :: xs, c, o, l, P => by
    by_cases h : 0 < o ∧ x = 0
    · rw [wk_free h]
      have ih := wk_lo (n := n) (xs := xs) (c := c + 1) (o := o - 1) (l := l) (P := P)
      refine ⟨fun q hq => by have := ih.1 q hq; omega, fun q hq => ?_⟩
      rcases List.mem_cons.mp hq with rfl | hq
      · exact Int.le_refl _
      · have := ih.2 q hq
        omega
    · rw [wk_rec h]
      have ih := wk_lo (n := n) (xs := xs) (c := c + 1) (o := x) (l := n - c + 1 - x) (P := (if o = 0 then [] else P) ++ between (n - c + 1 - x) l)
      refine ⟨fun q hq => ?_, fun q hq => by have := ih.2 q hq; omega⟩
      rcases List.mem_cons.mp hq with rfl | hq
      · exact Int.le_refl _
      · have := ih.1 q hq
        omega
theorem wk_pw {n : Int} : ∀ {xs : List Int} {c o l : Int} {P : List Int}, (wk n c o P l xs).1.Pairwise (fun p q => p.1 < q.1) ∧ (wk n c o P l xs).2.Pairwise fun p q => p.1 < q.1
  | [], c, o, l, P => ⟨.nil, .nil⟩
  | x :: xs, c, o, l, P => by
    by_cases h : 0 < o ∧ x = 0
    · rw [wk_free h]
      have ih := wk_pw (n := n) (xs := xs) (c := c + 1) (o := o - 1) (l := l) (P := P)
      refine ⟨ih.1, List.pairwise_cons.mpr ⟨fun q hq => ?_, ih.2⟩⟩
      have := wk_lo.2 q hq
      show c < q.1
      omega
    · rw [wk_rec h]
      have ih := wk_pw (n := n) (xs := xs) (c := c + 1) (o := x) (l := n - c + 1 - x) (P := (if o = 0 then [] else P) ++ between (n - c + 1 - x) l)
      refine ⟨List.pairwise_cons.mpr ⟨fun q hq => ?_, ih.1⟩, ih.2⟩
      have := wk_lo.1 q hq
      show c < q.1
      omega
theorem wk_cover {n : Int} : ∀ {xs : List Int} {c o l : Int} {P : List Int} {k : Int}, c ≤ k → k < c + xs.length → (∃ p, (k, p) ∈ (wk n c o P l xs).1) ∨ ∃ S, (k, S) ∈ (wk n c o P l xs).2
  | [], c, o, l, P, k, h1, h2 => by rw [List.length_nil] at h2; omega
  | x :: xs, c, o, l, P, k, h1, h2 => by
    rw [List.length_cons] at h2
    by_cases h : 0 < o ∧ x = 0
    · rw [wk_free h]
      by_cases e : k = c
      · subst e
        exact .inr ⟨_, List.mem_cons_self⟩
      · rcases wk_cover (n := n) (xs := xs) (c := c + 1) (o := o - 1) (l := l) (P := P) (k := k) (by omega) (by omega) with ⟨p, hp⟩ | ⟨S, hS⟩
        · exact .inl ⟨p, hp⟩
        · exact .inr ⟨S, List.mem_cons_of_mem _ hS⟩
    · rw [wk_rec h]
      by_cases e : k = c
      · subst e
        exact .inl ⟨_, List.mem_cons_self⟩
      · rcases wk_cover (n := n) (xs := xs) (c := c + 1) (o := x) (l := n - c + 1 - x) (P := (if o = 0 then [] else P) ++ between (n - c + 1 - x) l) (k := k) (by omega) (by omega) with ⟨p, hp⟩ | ⟨S, hS⟩
        · exact .inl ⟨p, List.mem_cons_of_mem _ hp⟩
        · exact .inr ⟨S, hS⟩
def spotsR (R : List Int) (c : Int) : List Int := match (fixedR R).find? fun q => decide (q.1 = c) with
  | some q => [q.2]
  | none => match (freeR R).find? fun q => decide (q.1 = c) with
    | some q => q.2
    | none => []
theorem find_pw {α : Type} : ∀ {ps : List (Int × α)} {c : Int} {v : α}, ps.Pairwise (fun p q => p.1 < q.1) → (c, v) ∈ ps → (ps.find? fun q => decide (q.1 = c)) = some (c, v)
  | [], _, _, _, h => nomatch h
  | p :: ps, c, v, hp, h => by
    rw [List.pairwise_cons] at hp
    rcases List.mem_cons.mp h with rfl | h
    · rw [List.find?_cons_of_pos (by simp)]
    · have := hp.1 _ h
      have hne : p.1 ≠ c := by
        have h2 : p.1 < c := this
        omega
      rw [List.find?_cons_of_neg (by simpa using hne)]
      exact find_pw hp.2 h
theorem spots_fixed {R : List Int} {c p : Int} (h : (c, p) ∈ fixedR R) : spotsR R c = [p] := by
  unfold spotsR
  rw [find_pw (show (fixedR R).Pairwise _ from wk_pw.1) h]
theorem find_none {α : Type} {ps : List (Int × α)} {c : Int} (h : ∀ v, (c, v) ∉ ps) : (ps.find? fun q => decide (q.1 = c)) = none := by
  rw [List.find?_eq_none]
  intro q hq z
  have z : q.1 = c := by simpa using z
  exact h q.2 (by rw [← z]; exact hq)
theorem spots_free {R : List Int} {c : Int} {S : List Int} (hn : ∀ p, (c, p) ∉ fixedR R) (h : (c, S) ∈ freeR R) : spotsR R c = S := by
  unfold spotsR
  rw [find_none hn, find_pw (show (freeR R).Pairwise _ from wk_pw.2) h]
end Ln
namespace Ln
/-! ### a lane's places are among those its row tells -/
def pos (L : List Int) (c : Int) : Int := ((L.idxOf c : Nat) : Int) + 1
theorem row_at {L : List Int} (h : Ord L) {t : Nat} (ht : t < L.length) : (row .srt L)[t]? = some (val L L.length t ((t : Int) + 1)) := by
  rw [row_srt (ord_nodup h), ord_srt h]
  have := tv_get (val L L.length) 0 (upto L.length) t ((t : Int) + 1) (upto_get ht)
  rwa [Nat.zero_add] at this
theorem pos_le {L : List Int} {c : Int} (h : c ∈ L) : pos L c ≤ L.length := by
  have := List.idxOf_lt_length_of_mem h
  unfold pos
  omega
theorem pos_inj {L : List Int} {a b : Int} (ha : a ∈ L) (hb : b ∈ L) (h : pos L a = pos L b) : a = b := by
  have h1 : L.idxOf a = L.idxOf b := by unfold pos at h; omega
  have e1 := List.getElem_idxOf (List.idxOf_lt_length_of_mem ha)
  have e2 := List.getElem_idxOf (List.idxOf_lt_length_of_mem hb)
  rw [← e1, ← e2]
  congr 1
theorem mem_drop_pos {L : List Int} {c : Int} {k : Nat} (h : c ∈ L) (hk : (k : Int) + 1 ≤ pos L c) : c ∈ L.drop k := by
  have hl := List.idxOf_lt_length_of_mem h
  unfold pos at hk
  rw [List.mem_drop_iff_getElem]
  exact ⟨L.idxOf c - k, by omega, by
    have : L[k + (L.idxOf c - k)]'(by omega) = L[L.idxOf c] := by congr 1; omega
    rw [this]
    exact List.getElem_idxOf hl⟩
theorem le_filter {n t : Nat} (h : t ≤ n) : ((upto n).filter fun x => decide (x ≤ (t : Int))).length = t := by
  have e : (upto n).filter (fun x => decide (x ≤ (t : Int))) = upto t := by
    unfold upto
    rw [show n = t + (n - t) from by omega, List.range_add, List.map_append, List.filter_append]
    have e1 : ((List.range t).map fun j : Nat => (j : Int) + 1).filter (fun x => decide (x ≤ (t : Int))) = (List.range t).map fun j : Nat => (j : Int) + 1 := by
      rw [List.filter_eq_self]
      intro a ha
      rw [List.mem_map] at ha
      obtain ⟨j, hj, rfl⟩ := ha
      have := List.mem_range.mp hj
      exact decide_eq_true (by omega)
    have e2 : (((List.range (n - t)).map (t + ·)).map fun j : Nat => (j : Int) + 1).filter (fun x => decide (x ≤ (t : Int))) = [] := by
      rw [List.filter_eq_nil_iff]
      intro a ha
      rw [List.map_map, List.mem_map] at ha
      obtain ⟨j, hj, rfl⟩ := ha
      have : ¬ (((t + j : Nat) : Int) + 1 ≤ (t : Int)) := by omega
      simpa using this
    rw [e1, e2, List.append_nil]
  rw [e, upto_len]
/-- where the small cars fill the end of the lane, nothing else stands there -/
theorem full_tail {L : List Int} (h : Ord L) {t k : Nat} (hk : k + t = L.length) (hs : ∀ c, c ∈ L → c ≤ (t : Int) → (k : Int) + 1 ≤ pos L c) {c : Int} (hc : c ∈ L) (hp : (k : Int) + 1 ≤ pos L c) : c ≤ t := by
  have h1 : (L.filter fun x => decide (x ≤ (t : Int))).length = t := by
    rw [(h.2.2.filter _).length_eq, le_filter (by omega)]
  have h2 : (L.take k).filter (fun x => decide (x ≤ (t : Int))) = [] := by
    rw [List.filter_eq_nil_iff]
    intro a ha z
    have z := of_decide_eq_true z
    have hm := List.mem_of_mem_take ha
    have h3 := hs a hm z
    have hi : L.idxOf a < k := by
      obtain ⟨i, hi, e⟩ := List.mem_iff_getElem.mp ha
      rw [List.length_take] at hi
      rw [List.getElem_take] at e
      have := (ord_nodup h).idxOf_getElem i (by omega)
      rw [e] at this
      omega
    unfold pos at h3
    omega
  have h4 : ((L.drop k).filter fun x => decide (x ≤ (t : Int))).length = (L.drop k).length := by
    have e : L.filter (fun x => decide (x ≤ (t : Int))) = (L.drop k).filter fun x => decide (x ≤ (t : Int)) := by
      conv => lhs; rw [← List.take_append_drop k L, List.filter_append, h2, List.nil_append]
    rw [← e, h1, List.length_drop]
    omega
  have h5 := (List.length_filter_eq_length_iff.mp h4) c (mem_drop_pos hc hp)
  exact of_decide_eq_true h5
theorem lmin_pos {L : List Int} (h : Ord L) {t : Nat} {l : Int} (hi : ∀ c, c ∈ L → c ≤ (t : Int) → l ≤ pos L c) (hii : l = (L.length : Int) + 1 ∨ ∃ c, c ∈ L ∧ c ≤ (t : Int) ∧ pos L c = l) (hc : ((t : Int) + 1) ∈ L) : lmin L ((t : Int) + 1) ↔ pos L ((t : Int) + 1) < l := by
  constructor
  · rintro ⟨_, hm⟩
    rcases hii with e | ⟨c, hcL, hct, e⟩
    · have := pos_le hc
      omega
    · apply Classical.byContradiction
      intro z
      have hlt : pos L c < pos L ((t : Int) + 1) := by
        by_cases e2 : pos L c = pos L ((t : Int) + 1)
        · have := pos_inj hcL hc e2
          omega
        · omega
      have : c ∈ L.take (L.idxOf ((t : Int) + 1)) := mem_take_of_idx hcL (by unfold pos at hlt; omega)
      have := hm c this
      omega
  · intro hlt
    refine ⟨hc, fun x hx => ?_⟩
    have hxL := List.mem_of_mem_take hx
    have hne := idxOf_take_ne hx
    apply Classical.byContradiction
    intro z
    have h1 := hi x hxL (by omega)
    obtain ⟨i, hil, e⟩ := List.mem_iff_getElem.mp hx
    rw [List.length_take] at hil
    rw [List.getElem_take] at e
    have h2 := (ord_nodup h).idxOf_getElem i (by omega)
    rw [e] at h2
    unfold pos at h1 hlt
    omega
theorem pos_ne {L : List Int} {a b : Int} (ha : a ∈ L) (hb : b ∈ L) (h : a ≠ b) : pos L a ≠ pos L b := fun z => h (pos_inj ha hb z)
theorem sound_wk {L : List Int} (h : Ord L) : ∀ (m t : Nat) (o l : Int) (P xs : List Int), t + m = L.length → xs = (row .srt L).drop t → Wk o P l L.length m → good o xs = true →
    (∀ c, c ∈ L → c ≤ (t : Int) → l ≤ pos L c) → (l = (L.length : Int) + 1 ∨ ∃ c, c ∈ L ∧ c ≤ (t : Int) ∧ pos L c = l) → (∀ c, c ∈ L → (t : Int) < c → l < pos L c → pos L c ∈ P) →
    ∀ k, k ∈ L → (t : Int) < k → (lmin L k → (k, pos L k) ∈ (wk L.length ((t : Int) + 1) o P l xs).1) ∧ (¬ lmin L k → ∃ S, (k, S) ∈ (wk L.length ((t : Int) + 1) o P l xs).2 ∧ pos L k ∈ S)
  | 0, t, o, l, P, xs, hm, hx, hw, hg, h1, h2, h3, k, hk, hkt => by
    have := (ord_mem h hk).2
    omega
  | m + 1, t, o, l, P, xs, hm, hx, hw, hg, h1, h2, h3, k, hk, hkt => by
    have htl : t < L.length := by omega
    have hrl : (row .srt L).length = L.length := by unfold row; rw [List.length_map, rows_len]
    have hc : ((t : Int) + 1) ∈ L := h.2.2.mem_iff.mpr (mem_upto.mpr ⟨by omega, by omega⟩)
    have hat := row_at h htl
    obtain ⟨x, ys, rfl⟩ : ∃ x ys, xs = x :: ys := by
      cases xs with
      | nil =>
        have := congrArg List.length hx
        rw [List.length_drop, hrl, List.length_nil] at this
        omega
      | cons x ys => exact ⟨x, ys, rfl⟩
    have hx0 : x = val L L.length t ((t : Int) + 1) := by
      have e := congrArg (fun l => l[0]?) hx
      rw [List.getElem?_drop, Nat.add_zero, hat] at e
      exact Option.some.inj e
    have hys : ys = (row .srt L).drop (t + 1) := by
      have e := congrArg List.tail hx
      rw [List.tail_drop] at e
      exact e
    have hyl : ys.length = m := by rw [hys, List.length_drop, hrl]; omega
    have hlo := hw.lo
    have hl1 := hw.l1
    have ho := hw.o0
    have hlm := lmin_pos h h1 h2 hc
    have hgt := good_two ho hg
    by_cases hr : lmin L ((t : Int) + 1)
    · have hlt := hlm.mp hr
      have hxv : x = (L.length : Int) - (t : Int) - pos L ((t : Int) + 1) := by
        rw [hx0, val_t hr]
        unfold pos
        omega
      have hnf : ¬ (0 < o ∧ x = 0) := fun z => by omega
      obtain ⟨hx1, hx2, hgn⟩ := (hgt.resolve_left (fun z => hnf ⟨z.1, z.2.1⟩)).2
      rw [hyl] at hx2
      have ep : (L.length : Int) - ((t : Int) + 1) + 1 - x = pos L ((t : Int) + 1) := by omega
      have hw' := hw.recd hx1 hx2
      have ep2 : (m : Int) + 1 - x = pos L ((t : Int) + 1) := by omega
      rw [ep2] at hw'
      rw [wk_rec hnf, ep]
      have key := sound_wk h m (t + 1) x (pos L ((t : Int) + 1)) ((if o = 0 then [] else P) ++ between (pos L ((t : Int) + 1)) l) ys (by omega) hys hw' hgn (fun c hcL hct => by
          by_cases e : c = (t : Int) + 1
          · rw [e]
            exact Int.le_refl _
          · have := h1 c hcL (by omega)
            omega) (.inr ⟨_, hc, by omega, rfl⟩) (fun c hcL hct hcp => by
          rw [List.mem_append]
          by_cases e : pos L c < l
          · exact .inr (mem_between.mpr ⟨hcp, e⟩)
          · have hcl : l ≤ pos L c := by omega
            by_cases e0 : o = 0
            · have hk0 : ((l.toNat - 1 : Nat) : Int) + 1 = l := by omega
              have := full_tail h (t := t) (k := l.toNat - 1) (by omega) (fun c hc ht => by rw [hk0]; exact h1 c hc ht) hcL (by rw [hk0]; exact hcl)
              omega
            · rw [if_neg e0]
              refine .inl (h3 c hcL (by omega) ?_)
              rcases h2 with e2 | ⟨c2, hc2, hct2, e2⟩
              · have := pos_le hcL
                omega
              · have := pos_ne hcL hc2 (by omega)
                omega)
      by_cases e : k = (t : Int) + 1
      · subst e
        exact ⟨fun _ => List.mem_cons_self, fun z => absurd hr z⟩
      · have hk2 := key k hk (by omega)
        exact ⟨fun z => List.mem_cons_of_mem _ (hk2.1 z), hk2.2⟩
    · have hlt : l < pos L ((t : Int) + 1) := by
        have h4 : ¬ pos L ((t : Int) + 1) < l := fun z => hr (hlm.mpr z)
        rcases h2 with e2 | ⟨c2, hc2, hct2, e2⟩
        · have := pos_le hc
          omega
        · have := pos_ne hc hc2 (by omega)
          omega
      have hxv : x = 0 := by rw [hx0, val_f hr]
      have ho0 : 0 < o := by
        apply Classical.byContradiction
        intro z
        have hk0 : ((l.toNat - 1 : Nat) : Int) + 1 = l := by omega
        have := full_tail h (t := t) (k := l.toNat - 1) (by omega) (fun c hc ht => by rw [hk0]; exact h1 c hc ht) hc (by rw [hk0]; omega)
        omega
      have hgn : good (o - 1) ys = true := by
        rcases hgt with z | z
        · exact z.2.2
        · exact absurd ⟨ho0, hxv⟩ z.1
      rw [wk_free ⟨ho0, hxv⟩]
      have key := sound_wk h m (t + 1) (o - 1) l P ys (by omega) hys (hw.free ho0) hgn (fun c hcL hct => by
          by_cases e : c = (t : Int) + 1
          · rw [e]
            omega
          · exact h1 c hcL (by omega)) (by
          rcases h2 with e2 | ⟨c2, hc2, hct2, e2⟩
          · exact .inl e2
          · exact .inr ⟨c2, hc2, by omega, e2⟩) (fun c hcL hct hcp => h3 c hcL (by omega) hcp)
      by_cases e : k = (t : Int) + 1
      · subst e
        exact ⟨fun z => absurd z hr, fun _ => ⟨_, List.mem_cons_self, (srt_perm P).mem_iff.mpr (h3 _ hc (by omega) hlt)⟩⟩
      · have hk2 := key k hk (by omega)
        exact ⟨hk2.1, fun z => by
          obtain ⟨S, hS, hp⟩ := hk2.2 z
          exact ⟨S, List.mem_cons_of_mem _ hS, hp⟩⟩
theorem row_len (r : Rl) (L : List Int) : (row r L).length = L.length := by unfold row; rw [List.length_map, rows_len]
theorem sound {L : List Int} (h : Ord L) {k : Int} (hk : k ∈ L) : (lmin L k → (k, pos L k) ∈ fixedR (row .srt L)) ∧ (¬ lmin L k → ∃ S, (k, S) ∈ freeR (row .srt L) ∧ pos L k ∈ S) := by
  have := sound_wk h L.length 0 0 ((L.length : Int) + 1) [] (row .srt L) (by omega) rfl (Wk.init _) (good_row (ord_nodup h)) (fun c hc h0 => by have := ord_mem h hc; omega) (.inl rfl) (fun c hc h0 h1 => by have := pos_le hc; omega) k hk (by have := ord_mem h hk; omega)
  unfold fixedR freeR
  rw [row_len]
  exact this
theorem wk_disj {n : Int} : ∀ {xs : List Int} {c o l : Int} {P : List Int} {k p : Int} {S : List Int}, (k, p) ∈ (wk n c o P l xs).1 → (k, S) ∉ (wk n c o P l xs).2
  | [], c, o, l, P, k, p, S, h => nomatch h
  | x :: xs, c, o, l, P, k, p, S, h => by
    intro h2
    by_cases hf : 0 < o ∧ x = 0
    · rw [wk_free hf] at h h2
      rcases List.mem_cons.mp h2 with e | h2
      · have := wk_lo.1 _ h
        have e : k = c := congrArg Prod.fst e
        have : c + 1 ≤ k := this
        omega
      · exact wk_disj h h2
    · rw [wk_rec hf] at h h2
      rcases List.mem_cons.mp h with e | h
      · have := wk_lo.2 _ h2
        have e : k = c := congrArg Prod.fst e
        have : c + 1 ≤ k := this
        omega
      · exact wk_disj h h2
theorem sound_spots {L : List Int} (h : Ord L) {k : Int} (hk : k ∈ L) : pos L k ∈ spotsR (row .srt L) k := by
  by_cases hr : lmin L k
  · rw [spots_fixed ((sound h hk).1 hr)]
    exact List.mem_singleton.mpr rfl
  · obtain ⟨S, hS, hp⟩ := (sound h hk).2 hr
    rw [spots_free (fun p hp2 => wk_disj hp2 hS) hS]
    exact hp
end Ln
namespace Ln
/-! ### what a row still has to come -/
theorem ahead {n : Nat} : ∀ {xs : List Int} {m : Nat} {c o l : Int} {P : List Int}, xs.length = m → c + m = (n : Int) + 1 → Wk o P l n m → good o xs = true →
    (∀ w q, (w, q) ∈ (wk n c o P l xs).1 → 1 ≤ q ∧ q < l) ∧ (∀ w S, (w, S) ∈ (wk n c o P l xs).2 → S.Pairwise (· < ·) ∧ ∀ q, q ∈ S → 1 ≤ q ∧ q ≤ n ∧ (q < l ∨ (0 < o ∧ q ∈ P)))
  | [], m, c, o, l, P, hl, hc, hw, hg => ⟨(fun w q h => nomatch h), (fun w S h => nomatch h)⟩
  | x :: xs, m, c, o, l, P, hl, hc, hw, hg => by
    obtain ⟨m, rfl⟩ : ∃ k, m = k + 1 := ⟨xs.length, hl.symm⟩
    have hl : xs.length = m := Nat.succ.inj hl
    have hlo := hw.lo
    have hln := hw.ln
    have hl1 := hw.l1
    rcases good_two hw.o0 hg with ⟨h1, h2, hgn⟩ | ⟨hnf, hx1, hx2, hgn⟩
    · rw [wk_free ⟨h1, h2⟩]
      have ih := ahead (n := n) (c := c + 1) hl (by omega) (hw.free h1) hgn
      refine ⟨ih.1, fun w S h => ?_⟩
      rcases List.mem_cons.mp h with e | h
      · have e : S = srt P := congrArg Prod.snd e
        subst e
        refine ⟨srt_lt hw.nd, fun q hq => ?_⟩
        have hq := (srt_perm P).mem_iff.mp hq
        have := hw.pm q hq
        exact ⟨by omega, this.2, .inr ⟨h1, hq⟩⟩
      · obtain ⟨h3, h4⟩ := ih.2 w S h
        refine ⟨h3, fun q hq => ?_⟩
        obtain ⟨h5, h6, h7⟩ := h4 q hq
        exact ⟨h5, h6, h7.imp_right fun z => ⟨h1, z.2⟩⟩
    · have ep : (n : Int) - c + 1 - x = (m : Int) + 1 - x := by omega
      rw [hl] at hx2
      rw [wk_rec hnf, ep]
      have hw' := hw.recd hx1 hx2
      have ih := ahead (n := n) (c := c + 1) hl (by omega) hw' hgn
      refine ⟨fun w q h => ?_, fun w S h => ?_⟩
      · rcases List.mem_cons.mp h with e | h
        · have e : q = (m : Int) + 1 - x := congrArg Prod.snd e
          omega
        · have := ih.1 w q h
          omega
      · obtain ⟨h3, h4⟩ := ih.2 w S h
        refine ⟨h3, fun q hq => ?_⟩
        obtain ⟨h5, h6, h7⟩ := h4 q hq
        refine ⟨h5, h6, ?_⟩
        rcases h7 with h7 | ⟨h7, h8⟩
        · exact .inl (by omega)
        · rcases List.mem_append.mp h8 with h8 | h8
          · by_cases e : o = 0
            · rw [if_pos e] at h8
              cases h8
            · rw [if_neg e] at h8
              exact .inr ⟨by have := hw.o0; omega, h8⟩
          · exact .inl (mem_between.mp h8).2
theorem between_cons {a b : Int} (h : a + 1 < b) : between a b = (a + 1) :: between (a + 1) b := by
  unfold between
  rw [show (b - a - 1).toNat = (b - (a + 1) - 1).toNat + 1 from by omega, List.range_succ_eq_map, List.map_cons, List.map_map]
  congr 1
  · show a + 1 + ((0 : Nat) : Int) = a + 1
    omega
  · refine List.map_congr_left fun j _ => ?_
    show a + 1 + (((j + 1 : Nat)) : Int) = a + 1 + 1 + (j : Int)
    omega
/-! ### a lane that is filled car by car -/
structure Md (R : List Int) (n t : Nat) (l : Int) (g : Nat → Int) : Prop where
  a0 : ∀ q, n ≤ q → g q = 0
  a1 : ∀ q, g q = 0 ∨ (1 ≤ g q ∧ g q ≤ t)
  a2 : ∀ q q', g q = g q' → g q ≠ 0 → q = q'
  a3 : ∀ v : Int, 1 ≤ v → v ≤ t → ∃ q, g q = v
  a4 : ∀ q, g q ≠ 0 → l ≤ (q : Int) + 1
  a5 : l = (n : Int) + 1 ∨ g (l.toNat - 1) ≠ 0
  a6 : ∀ q, g q ≠ 0 → ((∀ q', g q' ≠ 0 → g q' < g q → q < q') ∧ R.getD (g q - 1).toNat 0 = (n : Int) - g q - q) ∨ ((∃ q', g q' ≠ 0 ∧ g q' < g q ∧ q' < q) ∧ R.getD (g q - 1).toNat 0 = 0)
def put (g : Nat → Int) (i : Nat) (c : Int) : Nat → Int := fun q => if q = i then c else g q
theorem Md.init (R : List Int) (n : Nat) : Md R n 0 ((n : Int) + 1) fun _ => 0 :=
  ⟨fun _ _ => rfl, fun _ => .inl rfl, fun _ _ _ h => absurd rfl h, fun v h1 h2 => by omega, fun _ h => absurd rfl h, .inl rfl, fun _ h => absurd rfl h⟩
theorem Md.step {R : List Int} {n t i : Nat} {l l' : Int} {g : Nat → Int} (h : Md R n t l g) (hi : i < n) (h0 : g i = 0) (hl1 : 1 ≤ l')
    (hc : (l' = l ∧ l ≤ (i : Int) ∧ R.getD t 0 = 0) ∨ (l' = (i : Int) + 1 ∧ l' < l ∧ R.getD t 0 = (n : Int) - ((t : Int) + 1) - i)) : Md R n (t + 1) l' (put g i ((t : Int) + 1)) := by
  have hll : l' ≤ l := by omega
  have hp : ∀ q, q = i ∧ put g i ((t : Int) + 1) q = (t : Int) + 1 ∨ q ≠ i ∧ put g i ((t : Int) + 1) q = g q := fun q => by
    unfold put
    by_cases e : q = i
    · exact .inl ⟨e, if_pos e⟩
    · exact .inr ⟨e, if_neg e⟩
  have hlt : ∀ q, g q ≤ t := fun q => by rcases h.a1 q with z | z <;> omega
  refine ⟨fun q hq => ?_, fun q => ?_, fun q q' e hq => ?_, fun v h1 h2 => ?_, fun q hq => ?_, ?_, fun q hq => ?_⟩
  · rcases hp q with ⟨rfl, e⟩ | ⟨hne, e⟩
    · omega
    · rw [e]
      exact h.a0 q hq
  · rcases hp q with ⟨_, e⟩ | ⟨_, e⟩
    · rw [e]
      exact .inr ⟨by omega, by omega⟩
    · rw [e]
      rcases h.a1 q with z | z
      · exact .inl z
      · exact .inr ⟨z.1, by omega⟩
  · rcases hp q with ⟨e1, e2⟩ | ⟨e1, e2⟩ <;> rcases hp q' with ⟨e3, e4⟩ | ⟨e3, e4⟩
    · rw [e1, e3]
    · rw [e2, e4] at e
      have := hlt q'
      omega
    · rw [e2, e4] at e
      have := hlt q
      omega
    · rw [e2, e4] at e
      rw [e2] at hq
      exact h.a2 q q' e hq
  · by_cases e : v = (t : Int) + 1
    · refine ⟨i, ?_⟩
      rcases hp i with ⟨_, z⟩ | ⟨z, _⟩
      · rw [z, e]
      · exact absurd rfl z
    · obtain ⟨q, hq⟩ := h.a3 v h1 (by omega)
      refine ⟨q, ?_⟩
      rcases hp q with ⟨z, _⟩ | ⟨_, z⟩
      · rw [z, h0] at hq
        omega
      · rw [z, hq]
  · rcases hp q with ⟨z, _⟩ | ⟨_, z⟩
    · subst z
      omega
    · rw [z] at hq
      have := h.a4 q hq
      omega
  · rcases hc with ⟨e, e2, _⟩ | ⟨e, e2, _⟩
    · rcases h.a5 with z | z
      · exact .inl (by omega)
      · refine .inr ?_
        rw [e]
        rcases hp (l.toNat - 1) with ⟨z2, _⟩ | ⟨_, z2⟩
        · omega
        · rw [z2]
          exact z
    · refine .inr ?_
      have : l'.toNat - 1 = i := by omega
      rw [this]
      rcases hp i with ⟨_, z⟩ | ⟨z, _⟩
      · rw [z]
        omega
      · exact absurd rfl z
  · rcases hp q with ⟨z, e⟩ | ⟨hne, e⟩
    · subst z
      rw [e, show ((t : Int) + 1 - 1).toNat = t from by omega]
      rcases hc with ⟨e1, e2, e3⟩ | ⟨e1, e2, e3⟩
      · refine .inr ⟨?_, e3⟩
        rcases h.a5 with z | z
        · omega
        · refine ⟨l.toNat - 1, ?_⟩
          rcases hp (l.toNat - 1) with ⟨z2, _⟩ | ⟨_, z2⟩
          · omega
          · rw [z2]
            exact ⟨z, by have := hlt (l.toNat - 1); omega, by omega⟩
      · refine .inl ⟨fun q' hq' hlt' => ?_, e3⟩
        rcases hp q' with ⟨z, e4⟩ | ⟨_, e4⟩
        · rw [e4] at hlt'
          omega
        · rw [e4] at hq'
          have := h.a4 q' hq'
          omega
    · rw [e] at hq ⊢
      rcases h.a6 q hq with ⟨h1, h2⟩ | ⟨⟨q', h3, h4, h5⟩, h2⟩
      · refine .inl ⟨fun q' hq' hlt' => ?_, h2⟩
        rcases hp q' with ⟨_, e4⟩ | ⟨_, e4⟩
        · rw [e4] at hlt'
          have := hlt q
          omega
        · rw [e4] at hq' hlt'
          exact h1 q' hq' hlt'
      · refine .inr ⟨⟨q', ?_⟩, h2⟩
        rcases hp q' with ⟨z, _⟩ | ⟨_, e4⟩
        · rw [z, h0] at h3
          exact absurd rfl h3
        · rw [e4]
          exact ⟨h3, h4, h5⟩
theorem len_two {α : Type} (p : α → Bool) : ∀ l : List α, l.length = (l.filter p).length + (l.filter fun x => !p x).length
  | [] => rfl
  | x :: l => by
    have ih := len_two p l
    cases h : p x with
    | true => rw [List.filter_cons_of_pos h, List.filter_cons_of_neg (by rw [h]; decide), List.length_cons, List.length_cons]; omega
    | false => rw [List.filter_cons_of_neg (by rw [h]; decide), List.filter_cons_of_pos (by rw [h]; rfl), List.length_cons, List.length_cons]; omega
/-- the spots behind the last record that are free -/
def gaps (n : Nat) (l : Int) (g : Nat → Int) : List Int := (between l ((n : Int) + 1)).filter fun s => decide (g (s - 1).toNat = 0)
theorem gaps_len {R : List Int} {n t : Nat} {l o : Int} {g : Nat → Int} (h : Md R n t l g) (hl1 : 1 ≤ l) (hln : l ≤ (n : Int) + 1) (hlo : l + o + t = (n : Int) + 1) : ((gaps n l g).length : Int) = o := by
  have hB : ((between (l - 1) ((n : Int) + 1)).length : Int) = (n : Int) + 1 - l := by rw [between_len (by omega)]; omega
  have hN : (((between (l - 1) ((n : Int) + 1)).filter fun s => !decide (g (s - 1).toNat = 0)).map fun s => g (s - 1).toNat).Perm (upto t) := by
    refine (List.perm_ext_iff_of_nodup ?_ (upto_nodup t)).mpr fun v => ?_
    · rw [List.nodup_iff_pairwise_ne, List.pairwise_map]
      have hnd := (between_nodup (a := l - 1) (b := (n : Int) + 1)).filter (fun s => !decide (g (s - 1).toNat = 0))
      refine List.Pairwise.imp_of_mem (fun {a b} ha hb hne z => ?_) hnd
      obtain ⟨ha1, ha2⟩ := List.mem_filter.mp ha
      obtain ⟨hb1, hb2⟩ := List.mem_filter.mp hb
      have ha1 := mem_between.mp ha1
      have hb1 := mem_between.mp hb1
      have := h.a2 _ _ z (by simpa using ha2)
      omega
    · rw [List.mem_map, mem_upto]
      constructor
      · rintro ⟨s, hs, rfl⟩
        obtain ⟨_, hs2⟩ := List.mem_filter.mp hs
        rcases h.a1 (s - 1).toNat with z | z
        · rw [z] at hs2
          simp at hs2
        · exact z
      · rintro ⟨h1, h2⟩
        obtain ⟨q, hq⟩ := h.a3 v h1 h2
        have hq0 : g q ≠ 0 := by omega
        have hql := h.a4 q hq0
        have hqn : q < n := by
          apply Classical.byContradiction
          intro z
          exact hq0 (h.a0 q (by omega))
        refine ⟨(q : Int) + 1, List.mem_filter.mpr ⟨mem_between.mpr ⟨by omega, by omega⟩, ?_⟩, ?_⟩
        · rw [show ((q : Int) + 1 - 1).toNat = q from by omega, decide_eq_false hq0]
          rfl
        · rw [show ((q : Int) + 1 - 1).toNat = q from by omega, hq]
  have hNl := hN.length_eq
  rw [List.length_map, upto_len] at hNl
  have hsum := len_two (fun s => decide (g (s - 1).toNat = 0)) (between (l - 1) ((n : Int) + 1))
  have hG : (between (l - 1) ((n : Int) + 1)).filter (fun s => decide (g (s - 1).toNat = 0)) = gaps n l g := by
    unfold gaps
    by_cases e : l = (n : Int) + 1
    · have e1 : between (l - 1) ((n : Int) + 1) = [] := List.eq_nil_of_length_eq_zero (by omega)
      have e2 : between l ((n : Int) + 1) = [] := by
        unfold between
        rw [show ((n : Int) + 1 - l - 1).toNat = 0 from by omega]
        rfl
      rw [e1, e2]
    · rw [between_cons (by omega), show l - 1 + 1 = l from by omega, List.filter_cons_of_neg]
      rcases h.a5 with z | z
      · exact absurd z e
      · rw [show (l - 1).toNat = l.toNat - 1 from by omega]
        simpa using z
  rw [hG] at hsum
  omega
end Ln
namespace Ln
/-- car w can stand at place q, as the rest of the row tells -/
def Can (n c o : Int) (P : List Int) (l : Int) (xs : List Int) (w q : Int) : Prop := (w, q) ∈ (wk n c o P l xs).1 ∨ ∃ S, (w, S) ∈ (wk n c o P l xs).2 ∧ q ∈ S
theorem Can.free {n c o l x w q : Int} {P xs : List Int} (hf : 0 < o ∧ x = 0) (h : Can n c o P l (x :: xs) w q) : (w = c → q ∈ P) ∧ (w ≠ c → Can n (c + 1) (o - 1) P l xs w q) := by
  unfold Can at h
  rw [wk_free hf] at h
  rcases h with h | ⟨S, hS, hq⟩
  · have := wk_lo.1 _ h
    have : c + 1 ≤ w := this
    exact ⟨fun e => by omega, fun _ => .inl h⟩
  · rcases List.mem_cons.mp hS with e | hS
    · have e1 : w = c := congrArg Prod.fst e
      have e2 : S = srt P := congrArg Prod.snd e
      subst e2
      exact ⟨fun _ => (srt_perm P).mem_iff.mp hq, fun z => absurd e1 z⟩
    · have := wk_lo.2 _ hS
      have : c + 1 ≤ w := this
      exact ⟨fun e => by omega, fun _ => .inr ⟨S, hS, hq⟩⟩
theorem Can.recd {n c o l x w q : Int} {P xs : List Int} (hf : ¬ (0 < o ∧ x = 0)) (h : Can n c o P l (x :: xs) w q) : (w = c → q = n - c + 1 - x) ∧ (w ≠ c → Can n (c + 1) x ((if o = 0 then [] else P) ++ between (n - c + 1 - x) l) (n - c + 1 - x) xs w q) := by
  unfold Can at h
  rw [wk_rec hf] at h
  rcases h with h | ⟨S, hS, hq⟩
  · rcases List.mem_cons.mp h with e | h
    · exact ⟨fun _ => congrArg Prod.snd e, fun z => absurd (congrArg Prod.fst e) z⟩
    · have := wk_lo.1 _ h
      have : c + 1 ≤ w := this
      exact ⟨fun e => by omega, fun _ => .inl h⟩
  · have := wk_lo.2 _ hS
    have : c + 1 ≤ w := this
    exact ⟨fun e => by omega, fun _ => .inr ⟨S, hS, hq⟩⟩
theorem Can.before {n m : Nat} {c o l w q : Int} {P xs : List Int} (hl : xs.length = m) (hc : c + m = (n : Int) + 1) (hw : Wk o P l n m) (hg : good o xs = true) (h : Can n c o P l xs w q) : 1 ≤ q ∧ q ≤ n ∧ (q < l ∨ (0 < o ∧ q ∈ P)) := by
  have ha := ahead hl hc hw hg
  rcases h with h | ⟨S, hS, hq⟩
  · have := ha.1 _ _ h
    have := hw.ln
    exact ⟨by omega, by omega, .inl (by omega)⟩
  · exact (ha.2 _ _ hS).2 q hq
/-- the state of the making of a lane with car w at place q -/
structure Mt (R : List Int) (n t : Nat) (o : Int) (P : List Int) (l : Int) (g : Nat → Int) (w q : Int) : Prop where
  le : t ≤ n
  hw : Wk o P l n (n - t)
  hg : good o (R.drop t) = true
  md : Md R n t l g
  b1 : (t : Int) < w → g (q - 1).toNat = 0 ∧ Can n ((t : Int) + 1) o P l (R.drop t) w q
  b2 : w ≤ t → g (q - 1).toNat = w
theorem Mt.init {R : List Int} {w q : Int} (hg : good 0 R = true) (h1 : 1 ≤ w) (h : Can R.length 1 0 [] ((R.length : Int) + 1) R w q) : Mt R R.length 0 0 [] ((R.length : Int) + 1) (fun _ => 0) w q :=
  ⟨Nat.zero_le _, Wk.init _, hg, Md.init R _, fun _ => ⟨rfl, h⟩, fun z => by omega⟩
section
variable {R : List Int} {n t : Nat} {o l w q x : Int} {P xs : List Int} {g : Nat → Int}
theorem Mt.parts (h : Mt R n t o P l g w q) (hR : R.length = n) (ht : t < n) : ∃ x, R.getD t 0 = x ∧ R.drop t = x :: R.drop (t + 1) ∧ (R.drop (t + 1)).length = n - (t + 1) ∧ n - t = n - (t + 1) + 1 := by
  refine ⟨R[t], ?_, List.drop_eq_getElem_cons (by omega), by rw [List.length_drop, hR], by omega⟩
  rw [List.getD_eq_getElem?_getD, List.getElem?_eq_getElem (by omega)]
  rfl
theorem mem_gaps {s : Int} : s ∈ gaps n l g ↔ (l < s ∧ s < (n : Int) + 1) ∧ g (s - 1).toNat = 0 := by
  unfold gaps
  rw [List.mem_filter, mem_between]
  simp
theorem Mt.gl (h : Mt R n t o P l g w q) : ((gaps n l g).length : Int) = o := gaps_len h.md h.hw.l1 h.hw.ln (by have := h.hw.lo; have := h.le; omega)
/-- what can be chosen at a free car's turn -/
theorem Mt.choice (h : Mt R n t o P l g w q) (hR : R.length = n) (ht : t < n) (hq : 1 ≤ q ∧ q ≤ n) (hf : 0 < o ∧ R.getD t 0 = 0) : (w = (t : Int) + 1 → q ∈ gaps n l g) ∧ ((t : Int) + 1 < w → ∃ s, s ∈ gaps n l g ∧ s ≠ q) ∧ ∃ s, s ∈ gaps n l g := by
  obtain ⟨x, hx, hd, hdl, hm⟩ := h.parts hR ht
  have hx0 : x = 0 := hx.symm.trans hf.2
  have hgl := h.gl
  have hne : ∃ s, s ∈ gaps n l g := by
    cases e : gaps n l g with
    | nil => rw [e, List.length_nil] at hgl; omega
    | cons s r => exact ⟨s, List.mem_cons_self⟩
  refine ⟨fun e => ?_, fun hlt => ?_, hne⟩
  · obtain ⟨h1, h2⟩ := h.b1 (by omega)
    rw [hd] at h2
    have h3 := (Can.free ⟨hf.1, hx0⟩ h2).1 e
    have := h.hw.pm q h3
    exact mem_gaps.mpr ⟨⟨this.1, by omega⟩, h1⟩
  · apply Classical.byContradiction
    intro hno
    have hall : ∀ s, s ∈ gaps n l g → s = q := fun s hs => Classical.byContradiction fun z => hno ⟨s, hs, z⟩
    have hnd : (gaps n l g).Nodup := between_nodup.filter _
    have hone : (gaps n l g).length ≤ 1 := by
      match e : gaps n l g, hnd, hall with
      | [], _, _ => exact Nat.zero_le _
      | [_], _, _ => exact Nat.le_refl _
      | a :: b :: r, hnd, hall =>
        have e1 := hall a (by simp)
        have e2 := hall b (by simp)
        rw [e1, e2] at hnd
        simp at hnd
    have ho1 : o = 1 := by omega
    obtain ⟨s, hs⟩ := hne
    have hsq := hall s hs
    subst hsq
    obtain ⟨⟨h3, _⟩, _⟩ := mem_gaps.mp hs
    obtain ⟨_, h2⟩ := h.b1 (by omega)
    rw [hd] at h2
    have h4 := (Can.free ⟨hf.1, hx0⟩ h2).2 (by omega)
    have hw' := h.hw
    rw [hm] at hw'
    have hgn : good (o - 1) (R.drop (t + 1)) = true := by
      have := h.hg
      rw [hd] at this
      rcases good_two h.hw.o0 this with z | z
      · exact z.2.2
      · exact absurd ⟨hf.1, hx0⟩ z.1
    have h5 := (Can.before hdl (by omega) (hw'.free hf.1) hgn h4).2.2
    omega
theorem Mt.free (h : Mt R n t o P l g w q) (hR : R.length = n) (ht : t < n) (hq : 1 ≤ q ∧ q ≤ n) (hw1 : 1 ≤ w) (hf : 0 < o ∧ R.getD t 0 = 0) {s : Int} (hs : s ∈ gaps n l g) (h1 : w = (t : Int) + 1 → s = q) (h2 : (t : Int) + 1 < w → s ≠ q) : Mt R n (t + 1) (o - 1) P l (put g (s - 1).toNat ((t : Int) + 1)) w q := by
  obtain ⟨x, hx, hd, hdl, hm⟩ := h.parts hR ht
  have hx0 : x = 0 := hx.symm.trans hf.2
  obtain ⟨⟨hs1, hs2⟩, hs0⟩ := mem_gaps.mp hs
  have hl1 := h.hw.l1
  have hw' := h.hw
  rw [hm] at hw'
  have hgn : good (o - 1) (R.drop (t + 1)) = true := by
    have := h.hg
    rw [hd] at this
    rcases good_two h.hw.o0 this with z | z
    · exact z.2.2
    · exact absurd ⟨hf.1, hx0⟩ z.1
  refine ⟨by omega, hw'.free hf.1, hgn, h.md.step (by omega) hs0 hl1 (.inl ⟨rfl, by omega, hf.2⟩), fun hlt => ?_, fun hle => ?_⟩
  · obtain ⟨h3, h4⟩ := h.b1 (by omega)
    rw [hd] at h4
    have hne := h2 (by omega)
    refine ⟨?_, (Can.free ⟨hf.1, hx0⟩ h4).2 (by omega)⟩
    unfold put
    rw [if_neg (by omega)]
    exact h3
  · unfold put
    by_cases e : w = (t : Int) + 1
    · rw [h1 e, if_pos rfl, e]
    · have h3 := h.b2 (by omega)
      rw [if_neg (fun z => ?_)]
      · exact h3
      · rw [z, hs0] at h3
        omega
theorem Mt.recd (h : Mt R n t o P l g w q) (hR : R.length = n) (ht : t < n) (hq : 1 ≤ q ∧ q ≤ n) (hw1 : 1 ≤ w) (hf : ¬ (0 < o ∧ R.getD t 0 = 0)) : (w = (t : Int) + 1 → (n : Int) - ((t : Int) + 1) + 1 - R.getD t 0 = q) ∧
    (1 ≤ (n : Int) - ((t : Int) + 1) + 1 - R.getD t 0 ∧ (n : Int) - ((t : Int) + 1) + 1 - R.getD t 0 ≤ n) ∧ g ((n : Int) - ((t : Int) + 1) + 1 - R.getD t 0 - 1).toNat = 0 ∧
    Mt R n (t + 1) (R.getD t 0) ((if o = 0 then [] else P) ++ between ((n : Int) - ((t : Int) + 1) + 1 - R.getD t 0) l) ((n : Int) - ((t : Int) + 1) + 1 - R.getD t 0) (put g ((n : Int) - ((t : Int) + 1) + 1 - R.getD t 0 - 1).toNat ((t : Int) + 1)) w q := by
  obtain ⟨x, hx, hd, hdl, hm⟩ := h.parts hR ht
  rw [hx] at hf ⊢
  have hw' := h.hw
  rw [hm] at hw'
  have hg' := h.hg
  rw [hd] at hg'
  obtain ⟨_, hx1, hx2, hgn⟩ := (good_two h.hw.o0 hg').resolve_left (fun z => hf ⟨z.1, z.2.1⟩)
  rw [hdl] at hx2
  have hlo := h.hw.lo
  have hln := h.hw.ln
  have ho := h.hw.o0
  have ep : ((n - (t + 1) : Nat) : Int) + 1 - x = (n : Int) - ((t : Int) + 1) + 1 - x := by omega
  have hwn := hw'.recd hx1 hx2
  rw [ep] at hwn
  have hp1 := hwn.l1
  generalize hp : (n : Int) - ((t : Int) + 1) + 1 - x = p at ep hwn hp1 ⊢
  have hpl : p < l := by omega
  have hg0 : g (p - 1).toNat = 0 := by
    apply Classical.byContradiction
    intro z
    have := h.md.a4 _ z
    omega
  have hmd := h.md.step (i := (p - 1).toNat) (l' := p) (by omega) hg0 hp1 (.inr ⟨by omega, hpl, by rw [hx]; omega⟩)
  refine ⟨fun e => ?_, ⟨hp1, by omega⟩, hg0, by omega, hwn, hgn, hmd, fun hlt => ?_, fun hle => ?_⟩
  · obtain ⟨_, h4⟩ := h.b1 (by omega)
    rw [hd] at h4
    have := (Can.recd hf h4).1 e
    omega
  · obtain ⟨h3, h4⟩ := h.b1 (by omega)
    rw [hd] at h4
    have h5 := (Can.recd hf h4).2 (by omega)
    rw [hp] at h5
    refine ⟨?_, h5⟩
    have h6 := (Can.before hdl (by omega) hwn hgn h5).2.2
    have hne : p ≠ q := by
      rcases h6 with h6 | ⟨_, h6⟩
      · omega
      · have := hwn.pm q h6
        omega
    unfold put
    rw [if_neg (by omega)]
    exact h3
  · unfold put
    by_cases e : w = (t : Int) + 1
    · obtain ⟨_, h4⟩ := h.b1 (by omega)
      rw [hd] at h4
      have := (Can.recd hf h4).1 e
      rw [show p = q by omega, if_pos rfl, e]
    · have h3 := h.b2 (by omega)
      rw [if_neg (fun z => ?_)]
      · exact h3
      · rw [z, hg0] at h3
        omega
end
/-! ### the lane that was made -/
def arrOf (n : Nat) (g : Nat → Int) : List Int := (List.range n).map g
theorem arr_len {n : Nat} {g : Nat → Int} : (arrOf n g).length = n := by unfold arrOf; rw [List.length_map, List.length_range]
theorem arr_at {n : Nat} {g : Nat → Int} {i : Nat} (h : i < n) : (arrOf n g)[i]? = some (g i) := by
  unfold arrOf
  rw [List.getElem?_map, List.getElem?_range h]
  rfl
section
variable {R : List Int} {n : Nat} {l : Int} {g : Nat → Int}
theorem Md.nz (h : Md R n n l g) (hl : l = 1 ∨ n = 0) {q : Nat} (hq : q < n) : g q ≠ 0 := by
  intro z
  have hl : l = 1 := by omega
  subst hl
  have hgl := gaps_len (o := 0) h (by omega) (by omega) (by omega)
  have hq0 : q ≠ 0 := by
    intro e
    rcases h.a5 with e2 | e2
    · omega
    · rw [e] at z
      exact e2 z
  have hm : ((q : Int) + 1) ∈ gaps n 1 g := mem_gaps.mpr ⟨⟨by omega, by omega⟩, by rw [show ((q : Int) + 1 - 1).toNat = q from by omega]; exact z⟩
  have := List.length_pos_of_mem hm
  omega
theorem Md.nodup (h : Md R n n l g) (hl : l = 1 ∨ n = 0) : (arrOf n g).Nodup := by
  unfold arrOf
  rw [List.nodup_iff_pairwise_ne, List.pairwise_map]
  refine List.Pairwise.imp_of_mem (fun {a b} ha hb hne z => ?_) (List.nodup_range (n := n))
  have ha := List.mem_range.mp ha
  exact hne (h.a2 a b z (h.nz hl ha))
theorem Md.ord (h : Md R n n l g) (hl : l = 1 ∨ n = 0) (h1 : 1 ≤ n) (h30 : n ≤ 30) : Ord (arrOf n g) := by
  refine ⟨by rw [arr_len]; exact h1, by rw [arr_len]; exact h30, ?_⟩
  rw [arr_len]
  refine (List.perm_ext_iff_of_nodup (h.nodup hl) (upto_nodup n)).mpr fun v => ?_
  rw [mem_upto]
  unfold arrOf
  rw [List.mem_map]
  constructor
  · rintro ⟨q, hq, rfl⟩
    have hq := List.mem_range.mp hq
    rcases h.a1 q with z | z
    · exact absurd z (h.nz hl hq)
    · exact z
  · rintro ⟨h2, h3⟩
    obtain ⟨q, hq⟩ := h.a3 v h2 h3
    refine ⟨q, List.mem_range.mpr ?_, hq⟩
    apply Classical.byContradiction
    intro z
    have := h.a0 q (by omega)
    omega
theorem Md.row (h : Md R n n l g) (hl : l = 1 ∨ n = 0) (h1 : 1 ≤ n) (h30 : n ≤ 30) (hR : R.length = n) : row .srt (arrOf n g) = R := by
  have ho := h.ord hl h1 h30
  have hnd := h.nodup hl
  refine List.ext_getElem? fun t => ?_
  by_cases ht : t < n
  · have hat := row_at ho (t := t) (by rw [arr_len]; exact ht)
    rw [hat, arr_len, List.getElem?_eq_getElem (by omega)]
    obtain ⟨q, hq⟩ := h.a3 ((t : Int) + 1) (by omega) (by omega)
    have hqn : q < n := by
      apply Classical.byContradiction
      intro z
      have := h.a0 q (by omega)
      omega
    have hq0 := h.nz hl hqn
    have hix : (arrOf n g).idxOf ((t : Int) + 1) = q := by
      have := hnd.idxOf_getElem q (by rw [arr_len]; exact hqn)
      rw [show (arrOf n g)[q]'(by rw [arr_len]; exact hqn) = (t : Int) + 1 from by
        have := arr_at (g := g) hqn
        rw [List.getElem?_eq_getElem (by rw [arr_len]; exact hqn)] at this
        rw [Option.some.inj this, hq]] at this
      exact this
    have hmem : ((t : Int) + 1) ∈ arrOf n g := by
      unfold arrOf
      rw [List.mem_map]
      exact ⟨q, List.mem_range.mpr hqn, hq⟩
    have hRt : R.getD (g q - 1).toNat 0 = R[t] := by
      rw [hq, show ((t : Int) + 1 - 1).toNat = t from by omega, List.getD_eq_getElem?_getD, List.getElem?_eq_getElem (by omega)]
      rfl
    congr 1
    rcases h.a6 q hq0 with ⟨h2, h3⟩ | ⟨⟨q', h4, h5, h6⟩, h3⟩
    · rw [hRt] at h3
      have hlm : lmin (arrOf n g) ((t : Int) + 1) := by
        refine ⟨hmem, fun y hy => ?_⟩
        rw [hix] at hy
        obtain ⟨i, hi, e⟩ := List.mem_iff_getElem.mp hy
        rw [List.length_take, arr_len] at hi
        rw [List.getElem_take] at e
        have hai := arr_at (g := g) (n := n) (i := i) (by omega)
        rw [List.getElem?_eq_getElem (by rw [arr_len]; omega), e] at hai
        have hai := Option.some.inj hai
        have hi0 := h.nz hl (q := i) (by omega)
        apply Classical.byContradiction
        intro z
        by_cases e2 : g i = g q
        · have := h.a2 i q e2 hi0
          omega
        · have := h2 i hi0 (by omega)
          omega
      rw [val_t hlm, hix, h3]
      omega
    · rw [hRt] at h3
      have hlm : ¬ lmin (arrOf n g) ((t : Int) + 1) := by
        rintro ⟨_, hm⟩
        have hq'n : q' < n := by omega
        have : g q' ∈ (arrOf n g).take ((arrOf n g).idxOf ((t : Int) + 1)) := by
          rw [hix, List.mem_iff_getElem?]
          exact ⟨q', by rw [List.getElem?_take, if_pos h6, arr_at hq'n]⟩
        have := hm _ this
        omega
      rw [val_f hlm, h3]
  · rw [List.getElem?_eq_none (by rw [row_len, arr_len]; omega), List.getElem?_eq_none (by omega)]
theorem Mt.done {o : Int} {P : List Int} {w q : Int} (h : Mt R n n o P l g w q) (hR : R.length = n) (h1 : 1 ≤ n) (h30 : n ≤ 30) (hq : 1 ≤ q ∧ q ≤ n) (hwn : w ≤ n) : Ord (arrOf n g) ∧ row .srt (arrOf n g) = R ∧ (arrOf n g)[(q - 1).toNat]? = some w := by
  have hl : l = 1 ∨ n = 0 := by
    have := h.hw.lo
    have := h.hw.l1
    have := h.hw.o0
    omega
  refine ⟨h.md.ord hl h1 h30, h.md.row hl h1 h30 hR, ?_⟩
  rw [arr_at (by omega), h.b2 hwn]
end
theorem make {R : List Int} {n : Nat} {w q : Int} (hR : R.length = n) (hq : 1 ≤ q ∧ q ≤ n) (hw1 : 1 ≤ w) : ∀ (m t : Nat) (o l : Int) (P : List Int) (g : Nat → Int), t + m = n → Mt R n t o P l g w q → ∃ o l P g, Mt R n n o P l g w q
  | 0, t, o, l, P, g, hm, h => by
    obtain rfl : t = n := by omega
    exact ⟨o, l, P, g, h⟩
  | m + 1, t, o, l, P, g, hm, h => by
    by_cases hf : 0 < o ∧ R.getD t 0 = 0
    · obtain ⟨c1, c2, c3⟩ := h.choice hR (by omega) hq hf
      obtain ⟨s, hs, e1, e2⟩ : ∃ s, s ∈ gaps n l g ∧ (w = (t : Int) + 1 → s = q) ∧ ((t : Int) + 1 < w → s ≠ q) := by
        by_cases e : w = (t : Int) + 1
        · exact ⟨q, c1 e, fun _ => rfl, fun z => by omega⟩
        · by_cases e2 : (t : Int) + 1 < w
          · obtain ⟨s, hs, hne⟩ := c2 e2
            exact ⟨s, hs, fun z => absurd z e, fun _ => hne⟩
          · obtain ⟨s, hs⟩ := c3
            exact ⟨s, hs, fun z => absurd z e, fun z => absurd z e2⟩
      exact make hR hq hw1 m (t + 1) _ _ _ _ (by omega) (h.free hR (by omega) hq hw1 hf hs e1 e2)
    · exact make hR hq hw1 m (t + 1) _ _ _ _ (by omega) (h.recd hR (by omega) hq hw1 hf).2.2.2
/-- the places that the row tells, as Can -/
theorem can_of {R : List Int} {w q : Int} (h1 : 1 ≤ w) (h2 : w ≤ R.length) (h : q ∈ spotsR R w) : Can R.length 1 0 [] ((R.length : Int) + 1) R w q := by
  rcases wk_cover (n := R.length) (xs := R) (c := 1) (o := 0) (l := (R.length : Int) + 1) (P := []) (k := w) (by omega) (by omega) with ⟨p, hp⟩ | ⟨S, hS⟩
  · rw [spots_fixed (show (w, p) ∈ fixedR R from hp)] at h
    rw [List.mem_singleton.mp h]
    exact .inl hp
  · rw [spots_free (fun p hp => wk_disj (show (w, p) ∈ (wk R.length 1 0 [] ((R.length : Int) + 1) R).1 from hp) hS) (show (w, S) ∈ freeR R from hS)] at h
    exact .inr ⟨S, hS, h⟩
theorem spots_in {R : List Int} {w q : Int} (hg : good 0 R = true) (h1 : 1 ≤ w) (h2 : w ≤ R.length) (h : q ∈ spotsR R w) : 1 ≤ q ∧ q ≤ R.length := by
  have := Can.before (n := R.length) (m := R.length) (c := 1) rfl (by omega) (Wk.init _) hg (can_of h1 h2 h)
  exact ⟨this.1, this.2.1⟩
theorem spots_pw {R : List Int} {w : Int} (hg : good 0 R = true) (h1 : 1 ≤ w) (h2 : w ≤ R.length) : (spotsR R w).Pairwise (· < ·) := by
  rcases wk_cover (n := R.length) (xs := R) (c := 1) (o := 0) (l := (R.length : Int) + 1) (P := []) (k := w) (by omega) (by omega) with ⟨p, hp⟩ | ⟨S, hS⟩
  · rw [spots_fixed (show (w, p) ∈ fixedR R from hp)]
    exact List.pairwise_singleton _ _
  · rw [spots_free (fun p hp => wk_disj (show (w, p) ∈ (wk R.length 1 0 [] ((R.length : Int) + 1) R).1 from hp) hS) (show (w, S) ∈ freeR R from hS)]
    exact ((ahead (n := R.length) (m := R.length) (c := 1) rfl (by omega) (Wk.init _) hg).2 w S hS).1
/-- each place that the row tells is a lane's -/
theorem complete {R : List Int} {w q : Int} (hg : good 0 R = true) (h30 : R.length ≤ 30) (h1 : 1 ≤ w) (h2 : w ≤ R.length) (h : q ∈ spotsR R w) : ∃ L, Ord L ∧ L.length = R.length ∧ row .srt L = R ∧ pos L w = q := by
  have hq := spots_in hg h1 h2 h
  obtain ⟨o, l, P, g, hm⟩ := make rfl hq h1 R.length 0 0 _ [] _ (by omega) (Mt.init hg h1 (can_of h1 h2 h))
  obtain ⟨h3, h4, h5⟩ := hm.done rfl (by omega) h30 hq h2
  refine ⟨_, h3, arr_len, h4, ?_⟩
  obtain ⟨hlt, e⟩ := List.getElem?_eq_some_iff.mp h5
  have := (ord_nodup h3).idxOf_getElem _ hlt
  rw [e] at this
  unfold pos
  omega
end Ln
namespace Ln
/-! ### all lanes -/
theorem perm_of_sub : ∀ {L M : List Int}, L.Nodup → (∀ x, x ∈ L → x ∈ M) → L.length = M.length → L.Perm M
  | [], M, _, _, hl => by
    rw [List.eq_nil_of_length_eq_zero hl.symm]
  | x :: L, M, h, hs, hl => by
    have hx := hs x List.mem_cons_self
    obtain ⟨hn, hd⟩ := List.nodup_cons.mp h
    have ih := perm_of_sub (L := L) (M := M.erase x) hd (fun k hk => (List.mem_erase_of_ne (fun e => hn (by rw [← e]; exact hk))).mpr (hs k (List.mem_cons_of_mem _ hk))) (by
      rw [List.length_erase_of_mem hx, ← hl]
      rfl)
    exact (ih.cons x).trans (List.perm_cons_erase hx).symm
theorem mem_lanesA {n : Nat} : ∀ {k : Nat} {L : List Int}, L ∈ lanesA n k ↔ L.length = k ∧ L.Nodup ∧ ∀ x, x ∈ L → x ∈ upto n
  | 0, L => by
    unfold lanesA
    rw [List.mem_singleton]
    constructor
    · rintro rfl
      exact ⟨rfl, List.nodup_nil, fun x h => nomatch h⟩
    · rintro ⟨h, _⟩
      exact List.eq_nil_of_length_eq_zero h
  | k + 1, L => by
    unfold lanesA
    rw [List.mem_flatMap]
    constructor
    · rintro ⟨l, hl, hL⟩
      obtain ⟨h1, h2, h3⟩ := mem_lanesA.mp hl
      unfold growA at hL
      rw [List.mem_map] at hL
      obtain ⟨c, hc, rfl⟩ := hL
      obtain ⟨hc1, hc2⟩ := List.mem_filter.mp hc
      have hc2 : c ∉ l := by simpa using hc2
      refine ⟨by rw [List.length_append, h1]; rfl, ?_, fun x hx => ?_⟩
      · rw [List.nodup_append]
        exact ⟨h2, List.pairwise_singleton _ _, fun a ha b hb e => hc2 (by rw [← List.mem_singleton.mp hb, ← e]; exact ha)⟩
      · rcases List.mem_append.mp hx with h | h
        · exact h3 x h
        · rw [List.mem_singleton.mp h]
          exact hc1
    · rintro ⟨h1, h2, h3⟩
      have hne : L ≠ [] := fun z => by rw [z] at h1; cases h1
      obtain ⟨l, c, rfl⟩ : ∃ l c, L = l ++ [c] := ⟨L.dropLast, L.getLast hne, (List.dropLast_concat_getLast hne).symm⟩
      rw [List.length_append, List.length_singleton] at h1
      rw [List.nodup_append] at h2
      refine ⟨l, mem_lanesA.mpr ⟨by omega, h2.1, fun x hx => h3 x (List.mem_append_left _ hx)⟩, ?_⟩
      unfold growA
      rw [List.mem_map]
      refine ⟨c, List.mem_filter.mpr ⟨h3 c (by simp), ?_⟩, rfl⟩
      have : c ∉ l := fun z => h2.2.2 c z c (List.mem_singleton.mpr rfl) rfl
      simpa using this
theorem lanesA_ord {n : Nat} (h1 : 1 ≤ n) (h30 : n ≤ 30) {L : List Int} : L ∈ lanesA n n ↔ Ord L ∧ L.length = n := by
  rw [mem_lanesA]
  constructor
  · rintro ⟨h2, h3, h4⟩
    refine ⟨⟨by omega, by omega, ?_⟩, h2⟩
    rw [h2]
    exact perm_of_sub h3 h4 (by rw [h2, upto_len])
  · rintro ⟨h, h2⟩
    have hp := h.2.2
    rw [h2] at hp
    exact ⟨h2, ord_nodup h, fun x hx => hp.mem_iff.mp hx⟩
/-! ### records -/
theorem recs_at : ∀ {ns : List Int} {i : Nat} {m : Int} {q : Int × Int}, q ∈ recs i m ns → ∃ j : Nat, ns[j]? = some q.1 ∧ q.2 = (i : Int) + j + 1 ∧ q.1 < m ∧ ∀ y, y ∈ ns.take j → q.1 < y
  | [], i, m, q, h => nomatch h
  | x :: r, i, m, q, h => by
    have e : recs i m (x :: r) = if x < m then (x, (i : Int) + 1) :: recs (i + 1) x r else recs (i + 1) m r := rfl
    rw [e] at h
    by_cases hx : x < m
    · rw [if_pos hx] at h
      rcases List.mem_cons.mp h with rfl | h
      · exact ⟨0, rfl, by show (i : Int) + 1 = (i : Int) + ((0 : Nat) : Int) + 1; omega, hx, (fun y hy => nomatch hy)⟩
      · obtain ⟨j, h1, h2, h3, h4⟩ := recs_at h
        refine ⟨j + 1, h1, by omega, by omega, fun y hy => ?_⟩
        rw [List.take_succ_cons] at hy
        rcases List.mem_cons.mp hy with rfl | hy
        · exact h3
        · exact h4 y hy
    · rw [if_neg hx] at h
      obtain ⟨j, h1, h2, h3, h4⟩ := recs_at h
      refine ⟨j + 1, h1, by omega, h3, fun y hy => ?_⟩
      rw [List.take_succ_cons] at hy
      rcases List.mem_cons.mp hy with rfl | hy
      · omega
      · exact h4 y hy
theorem record_spot {L : List Int} (h : Ord L) {q : Int × Int} (hq : q ∈ records L) : q.1 ∈ L ∧ spotsR (row .srt L) q.1 = [q.2] := by
  unfold records at hq
  rw [List.mem_reverse] at hq
  obtain ⟨j, h1, h2, _, h4⟩ := recs_at hq
  obtain ⟨hj, e⟩ := List.getElem?_eq_some_iff.mp h1
  have hix := (ord_nodup h).idxOf_getElem j hj
  rw [e] at hix
  have hm : q.1 ∈ L := by
    rw [← e]
    exact List.getElem_mem hj
  have hl : lmin L q.1 := ⟨hm, fun y hy => h4 y (by rw [← hix]; exact hy)⟩
  refine ⟨hm, ?_⟩
  rw [spots_fixed ((sound h hm).1 hl)]
  unfold pos
  rw [hix, h2]
  congr 1
  omega
/-- the places that a row tells are those of its lanes -/
theorem spots_iff {L : List Int} (h : Ord L) {c q : Int} (hc : c ∈ L) : q ∈ spotsR (row .srt L) c ↔ ∃ M, M ∈ lanesA L.length L.length ∧ row .srt M = row .srt L ∧ pos M c = q := by
  have hcm := ord_mem h hc
  constructor
  · intro hq
    obtain ⟨M, h1, h2, h3, h4⟩ := complete (good_row (ord_nodup h)) (by rw [row_len]; exact h.2.1) hcm.1 (by rw [row_len]; exact hcm.2) hq
    rw [row_len] at h2
    exact ⟨M, (lanesA_ord h.1 h.2.1).mpr ⟨h1, h2⟩, h3, h4⟩
  · rintro ⟨M, h1, h2, rfl⟩
    obtain ⟨h3, h4⟩ := (lanesA_ord h.1 h.2.1).mp h1
    rw [← h2]
    refine sound_spots h3 (h3.2.2.mem_iff.mpr (mem_upto.mpr ⟨hcm.1, by omega⟩))
end Ln
namespace Ln
/-! ### numbers of orders -/
def chF (ch : List (Int × Int)) (c : Int) : Option Int := (ch.find? fun q => decide (q.1 = c)).map (·.2)
def laterN (fr : List (Int × List Int)) (ch : List (Int × Int)) (c : Int) (S : List Int) : Nat := (fr.filter fun q => decide (q.1 > c) && match chF ch q.1 with
  | some p => decide (p ∈ S)
  | none => false).length
/-- the factor of a free car, so many of its group done -/
def fac (fr : List (Int × List Int)) (ch : List (Int × Int)) (d c : Int) (S : List Int) : Int := match chF ch c with
  | some p => if p ∈ S then 1 else 0
  | none => if (S.length : Int) - d - laterN fr ch c S > 0 then (S.length : Int) - d - laterN fr ch c S else 0
def dn (d : Int) (b S : List Int) : Int := match b.getLast? with
  | some x => if x ∈ S then d else 0
  | none => d
def cwGo (fr : List (Int × List Int)) (ch : List (Int × Int)) : Int → Int → List Int → List (Int × List Int) → Int
  | f, _, _, [] => f
  | f, d, b, q :: r => cwGo fr ch (f * fac fr ch (dn d b q.2) q.1 q.2) (dn d b q.2 + 1) q.2 r
def countW (fr : List (Int × List Int)) (ch : List (Int × Int)) : Int := cwGo fr ch 1 0 [] fr
/-- the two cars' places, those of fixed cars left out -/
def pairR (R : List Int) (c1 p1 c2 p2 : Int) : List (Int × Int) := [(c1, p1), (c2, p2)].filter fun q => !((fixedR R).any fun f => decide (f.1 = q.1))
def notSure (R : List Int) (c1 c2 : Int) : Prop := ∃ p1 p2, p1 ∈ spotsR R c1 ∧ p2 ∈ spotsR R c2 ∧ p2 < p1 ∧ countW (freeR R) (pairR R c1 p1 c2 p2) > 0
theorem find_any {α : Type} (p : α → Bool) : ∀ l : List α, (l.find? p).isSome = l.any p
  | [] => rfl
  | x :: l => by
    cases h : p x with
    | true => rw [List.find?_cons_of_pos h, List.any_cons, h]; rfl
    | false => rw [List.find?_cons_of_neg (by rw [h]; decide), List.any_cons, h, Bool.false_or]; exact find_any p l
theorem wk_len {n : Int} : ∀ {xs : List Int} {c o l : Int} {P : List Int}, (wk n c o P l xs).1.length + (wk n c o P l xs).2.length = xs.length
  | [], _, _, _, _ => rfl
  | x :: xs, c, o, l, P => by
    by_cases h : 0 < o ∧ x = 0
    · rw [wk_free h]
      have := wk_len (n := n) (xs := xs) (c := c + 1) (o := o - 1) (l := l) (P := P)
      show (wk n (c + 1) (o - 1) P l xs).1.length + ((wk n (c + 1) (o - 1) P l xs).2.length + 1) = xs.length + 1
      omega
    · rw [wk_rec h]
      have := wk_len (n := n) (xs := xs) (c := c + 1) (o := x) (l := n - c + 1 - x) (P := (if o = 0 then [] else P) ++ between (n - c + 1 - x) l)
      show (wk n (c + 1) x ((if o = 0 then [] else P) ++ between (n - c + 1 - x) l) (n - c + 1 - x) xs).1.length + 1 + (wk n (c + 1) x ((if o = 0 then [] else P) ++ between (n - c + 1 - x) l) (n - c + 1 - x) xs).2.length = xs.length + 1
      omega
theorem free_len {R : List Int} : (freeR R).length ≤ R.length := by
  have := wk_len (n := R.length) (xs := R) (c := 1) (o := 0) (l := (R.length : Int) + 1) (P := [])
  unfold freeR
  omega
theorem free_spots {R : List Int} (hg : good 0 R = true) {q : Int × List Int} (h : q ∈ freeR R) : q.2.Pairwise (· < ·) ∧ q.2.length ≤ R.length := by
  have ha := (ahead (n := R.length) (m := R.length) (c := 1) rfl (by omega) (Wk.init _) hg).2 q.1 q.2 h
  refine ⟨ha.1, ?_⟩
  have := Sy.nodup_len_le (M := upto R.length) (ha.1.imp fun z => by omega) fun x hx => mem_upto.mpr ⟨(ha.2 x hx).1, (ha.2 x hx).2.1⟩
  rwa [upto_len] at this
end Ln
namespace Ln
/-! ### a lane read along its row: the state at a turn -/
structure Sd (L : List Int) (t m : Nat) (o l : Int) (P xs : List Int) : Prop where
  tm : t + m = L.length
  rx : xs = (row .srt L).drop t
  w : Wk o P l L.length m
  g : good o xs = true
  h1 : ∀ c, c ∈ L → c ≤ (t : Int) → l ≤ pos L c
  h2 : l = (L.length : Int) + 1 ∨ ∃ c, c ∈ L ∧ c ≤ (t : Int) ∧ pos L c = l
  h3 : ∀ c, c ∈ L → (t : Int) < c → l < pos L c → pos L c ∈ P
theorem Sd.init {L : List Int} (h : Ord L) : Sd L 0 L.length 0 ((L.length : Int) + 1) [] (row .srt L) :=
  ⟨by omega, rfl, Wk.init _, good_row (ord_nodup h), fun c hc h0 => by have := ord_mem h hc; omega, .inl rfl, fun c hc h0 h1 => by have := pos_le hc; omega⟩
theorem Sd.step {L : List Int} (h : Ord L) {t m : Nat} {o l : Int} {P xs : List Int} (s : Sd L t (m + 1) o l P xs) : ∃ x ys, xs = x :: ys ∧ ((t : Int) + 1) ∈ L ∧
    ((¬ (0 < o ∧ x = 0) ∧ lmin L ((t : Int) + 1) ∧ (L.length : Int) - ((t : Int) + 1) + 1 - x = pos L ((t : Int) + 1) ∧ pos L ((t : Int) + 1) < l ∧ Sd L (t + 1) m x (pos L ((t : Int) + 1)) ((if o = 0 then [] else P) ++ between (pos L ((t : Int) + 1)) l) ys) ∨
     ((0 < o ∧ x = 0) ∧ ¬ lmin L ((t : Int) + 1) ∧ pos L ((t : Int) + 1) ∈ P ∧ Sd L (t + 1) m (o - 1) l P ys)) := by
  obtain ⟨hm, hx, hw, hg, h1, h2, h3⟩ := s
  have htl : t < L.length := by omega
  have hrl : (row .srt L).length = L.length := row_len _ _
  have hc : ((t : Int) + 1) ∈ L := h.2.2.mem_iff.mpr (mem_upto.mpr ⟨by omega, by omega⟩)
  have hat := row_at h htl
  obtain ⟨x, ys, rfl⟩ : ∃ x ys, xs = x :: ys := by
    cases xs with
    | nil =>
      have := congrArg List.length hx
      rw [List.length_drop, hrl, List.length_nil] at this
      omega
    | cons x ys => exact ⟨x, ys, rfl⟩
  have hx0 : x = val L L.length t ((t : Int) + 1) := by
    have e := congrArg (fun l => l[0]?) hx
    rw [List.getElem?_drop, Nat.add_zero, hat] at e
    exact Option.some.inj e
  have hys : ys = (row .srt L).drop (t + 1) := by
    have e := congrArg List.tail hx
    rw [List.tail_drop] at e
    exact e
  have hyl : ys.length = m := by rw [hys, List.length_drop, hrl]; omega
  have hlo := hw.lo
  have hl1 := hw.l1
  have ho := hw.o0
  have hlm := lmin_pos h h1 h2 hc
  have hgt := good_two ho hg
  refine ⟨x, ys, rfl, hc, ?_⟩
  by_cases hr : lmin L ((t : Int) + 1)
  · have hlt := hlm.mp hr
    have hxv : x = (L.length : Int) - (t : Int) - pos L ((t : Int) + 1) := by
      rw [hx0, val_t hr]
      unfold pos
      omega
    have hnf : ¬ (0 < o ∧ x = 0) := fun z => by omega
    obtain ⟨hx1, hx2, hgn⟩ := (hgt.resolve_left (fun z => hnf ⟨z.1, z.2.1⟩)).2
    rw [hyl] at hx2
    have ep : (L.length : Int) - ((t : Int) + 1) + 1 - x = pos L ((t : Int) + 1) := by omega
    have hw' := hw.recd hx1 hx2
    have ep2 : (m : Int) + 1 - x = pos L ((t : Int) + 1) := by omega
    rw [ep2] at hw'
    refine .inl ⟨hnf, hr, ep, hlt, by omega, hys, hw', hgn, fun c hcL hct => ?_, .inr ⟨_, hc, by omega, rfl⟩, fun c hcL hct hcp => ?_⟩
    · by_cases e : c = (t : Int) + 1
      · rw [e]
        exact Int.le_refl _
      · have := h1 c hcL (by omega)
        omega
    · rw [List.mem_append]
      by_cases e : pos L c < l
      · exact .inr (mem_between.mpr ⟨hcp, e⟩)
      · have hcl : l ≤ pos L c := by omega
        by_cases e0 : o = 0
        · have hk0 : ((l.toNat - 1 : Nat) : Int) + 1 = l := by omega
          have := full_tail h (t := t) (k := l.toNat - 1) (by omega) (fun c hc ht => by rw [hk0]; exact h1 c hc ht) hcL (by rw [hk0]; exact hcl)
          omega
        · rw [if_neg e0]
          refine .inl (h3 c hcL (by omega) ?_)
          rcases h2 with e2 | ⟨c2, hc2, hct2, e2⟩
          · have := pos_le hcL
            omega
          · have := pos_ne hcL hc2 (by omega)
            omega
  · have hlt : l < pos L ((t : Int) + 1) := by
      have h4 : ¬ pos L ((t : Int) + 1) < l := fun z => hr (hlm.mpr z)
      rcases h2 with e2 | ⟨c2, hc2, hct2, e2⟩
      · have := pos_le hc
        omega
      · have := pos_ne hc hc2 (by omega)
        omega
    have hxv : x = 0 := by rw [hx0, val_f hr]
    have ho0 : 0 < o := by
      apply Classical.byContradiction
      intro z
      have hk0 : ((l.toNat - 1 : Nat) : Int) + 1 = l := by omega
      have := full_tail h (t := t) (k := l.toNat - 1) (by omega) (fun c hc ht => by rw [hk0]; exact h1 c hc ht) hc (by rw [hk0]; omega)
      omega
    have hgn : good (o - 1) ys = true := by
      rcases hgt with z | z
      · exact z.2.2
      · exact absurd ⟨ho0, hxv⟩ z.1
    refine .inr ⟨⟨ho0, hxv⟩, hr, h3 _ hc (by omega) hlt, by omega, hys, hw.free ho0, hgn, fun c hcL hct => ?_, ?_, fun c hcL hct hcp => h3 c hcL (by omega) hcp⟩
    · by_cases e : c = (t : Int) + 1
      · rw [e]
        omega
      · exact h1 c hcL (by omega)
    · rcases h2 with e2 | ⟨c2, hc2, hct2, e2⟩
      · exact .inl e2
      · exact .inr ⟨c2, hc2, by omega, e2⟩
/-- the group of free cars that is under way -/
def Gr (L : List Int) (t : Nat) (l : Int) (P : List Int) (d : Int) (b : List Int) : Prop :=
  (∃ D : List Int, (b = [] → D = []) ∧ (∀ y, b.getLast? = some y → y ∈ P) ∧ d = (D.length : Nat) ∧ D.Nodup ∧ ∀ c, c ∈ D → c ∈ L ∧ c ≤ (t : Int) ∧ pos L c ∈ P) ∨ ∃ y, b.getLast? = some y ∧ l ≤ y ∧ y ∉ P
theorem Gr.recd {L : List Int} {t n m : Nat} {o l l' d : Int} {P b : List Int} (g : Gr L t l P d b) (w : Wk o P l n m) (hl : l' < l) : Gr L (t + 1) l' ((if o = 0 then [] else P) ++ between l' l) d b := by
  rcases g with ⟨D, h1, h2, h3, h4, h5⟩ | ⟨y, h1, h2, h3⟩
  · cases e : b.getLast? with
    | none =>
      have hb : b = [] := List.getLast?_eq_none_iff.mp e
      have hD := h1 hb
      subst hD
      exact .inl ⟨[], fun _ => rfl, (fun y hy => by rw [e] at hy; cases hy), h3, List.nodup_nil, (fun c hc => nomatch hc)⟩
    | some y =>
      have hy := h2 y e
      have hyl := w.pm y hy
      by_cases e0 : o = 0
      · rw [if_pos e0, List.nil_append]
        exact .inr ⟨y, e, by omega, fun z => by have := mem_between.mp z; omega⟩
      · rw [if_neg e0]
        exact .inl ⟨D, h1, fun y2 hy2 => List.mem_append_left _ (h2 y2 hy2), h3, h4, fun c hc => ⟨(h5 c hc).1, by have := (h5 c hc).2.1; omega, List.mem_append_left _ (h5 c hc).2.2⟩⟩
  · refine .inr ⟨y, h1, by omega, fun z => ?_⟩
    rcases List.mem_append.mp z with z | z
    · split at z
      · cases z
      · exact h3 z
    · have := mem_between.mp z
      omega
theorem Gr.done {L : List Int} {t : Nat} {l d : Int} {P b : List Int} (g : Gr L t l P d b) : ∃ D : List Int, dn d b (srt P) = (D.length : Nat) ∧ D.Nodup ∧ ∀ c, c ∈ D → c ∈ L ∧ c ≤ (t : Int) ∧ pos L c ∈ P := by
  rcases g with ⟨D, h1, h2, h3, h4, h5⟩ | ⟨y, h1, h2, h3⟩
  · refine ⟨D, ?_, h4, h5⟩
    unfold dn
    cases e : b.getLast? with
    | none => exact h3
    | some y =>
      show (if y ∈ srt P then d else 0) = _
      rw [if_pos ((srt_perm P).mem_iff.mpr (h2 y e))]
      exact h3
  · refine ⟨[], ?_, List.nodup_nil, fun c hc => nomatch hc⟩
    unfold dn
    rw [h1]
    show (if y ∈ srt P then d else 0) = _
    rw [if_neg fun z => h3 ((srt_perm P).mem_iff.mp z)]
    rfl
theorem fac_pos {L : List Int} (h : Ord L) {ch : List (Int × Int)} (hch : ∀ c p, chF ch c = some p → c ∈ L ∧ p = pos L c) {t : Nat} {P D : List Int} {d : Int} {fr : List (Int × List Int)} (hfr : fr.Pairwise fun p q => p.1 < q.1)
    (hc : ((t : Int) + 1) ∈ L) (hp : pos L ((t : Int) + 1) ∈ P) (hd : d = (D.length : Nat)) (hn : D.Nodup) (hD : ∀ c, c ∈ D → c ∈ L ∧ c ≤ (t : Int) ∧ pos L c ∈ P) : 0 < fac fr ch d ((t : Int) + 1) (srt P) := by
  unfold fac
  cases e : chF ch ((t : Int) + 1) with
  | some p =>
    show 0 < if p ∈ srt P then (1 : Int) else 0
    rw [(hch _ _ e).2, if_pos ((srt_perm P).mem_iff.mpr hp)]
    decide
  | none =>
    have key : D.length + (laterN fr ch ((t : Int) + 1) (srt P) + 1) ≤ P.length := by
      let lat := (fr.filter fun q => decide (q.1 > (t : Int) + 1) && match chF ch q.1 with
        | some p => decide (p ∈ srt P)
        | none => false)
      have hlat : ∀ q, q ∈ lat → q.1 > (t : Int) + 1 ∧ q.1 ∈ L ∧ pos L q.1 ∈ P := fun q hq => by
        have hq := (List.mem_filter.mp hq).2
        rw [Bool.and_eq_true] at hq
        obtain ⟨h1, h2⟩ := hq
        cases e2 : chF ch q.1 with
        | none => rw [e2] at h2; cases h2
        | some p =>
          rw [e2] at h2
          have h2 : p ∈ srt P := of_decide_eq_true h2
          obtain ⟨h3, h4⟩ := hch _ _ e2
          rw [h4] at h2
          exact ⟨of_decide_eq_true h1, h3, (srt_perm P).mem_iff.mp h2⟩
      have hlen : (D ++ ((t : Int) + 1) :: lat.map (·.1)).length = D.length + (laterN fr ch ((t : Int) + 1) (srt P) + 1) := by
        rw [List.length_append, List.length_cons, List.length_map]
        rfl
      have hmem : ∀ c, c ∈ D ++ ((t : Int) + 1) :: lat.map (·.1) → c ∈ L ∧ pos L c ∈ P := fun c hcm => by
        rcases List.mem_append.mp hcm with z | z
        · exact ⟨(hD c z).1, (hD c z).2.2⟩
        · rcases List.mem_cons.mp z with rfl | z
          · exact ⟨hc, hp⟩
          · obtain ⟨q, hq, rfl⟩ := List.mem_map.mp z
            exact (hlat q hq).2
      have hnd : (D ++ ((t : Int) + 1) :: lat.map (·.1)).Nodup := by
        rw [List.nodup_append]
        refine ⟨hn, List.nodup_cons.mpr ⟨fun z => ?_, ?_⟩, fun a ha b hb z => ?_⟩
        · obtain ⟨q, hq, e2⟩ := List.mem_map.mp z
          have := (hlat q hq).1
          omega
        · rw [List.nodup_iff_pairwise_ne, List.pairwise_map]
          exact (hfr.filter _).imp fun z => by omega
        · have h1 := (hD a ha).2.1
          rcases List.mem_cons.mp hb with rfl | hb
          · omega
          · obtain ⟨q, hq, e2⟩ := List.mem_map.mp hb
            have := (hlat q hq).1
            omega
      have := Sy.nodup_len_le (K := (D ++ ((t : Int) + 1) :: lat.map (·.1)).map (pos L)) (M := P) (by
        rw [List.nodup_iff_pairwise_ne, List.pairwise_map]
        exact List.Pairwise.imp_of_mem (fun {a b} ha hb hne z => hne (pos_inj (hmem a ha).1 (hmem b hb).1 z)) hnd) (fun k hk => by
        obtain ⟨c, hcm, rfl⟩ := List.mem_map.mp hk
        exact (hmem c hcm).2)
      rw [List.length_map, hlen] at this
      exact this
    show 0 < if ((srt P).length : Int) - d - laterN fr ch ((t : Int) + 1) (srt P) > 0 then ((srt P).length : Int) - d - laterN fr ch ((t : Int) + 1) (srt P) else 0
    rw [srt_len, hd, if_pos (by omega)]
    omega
theorem cw_pos {L : List Int} (h : Ord L) {ch : List (Int × Int)} (hch : ∀ c p, chF ch c = some p → c ∈ L ∧ p = pos L c) {fr : List (Int × List Int)} (hfr : fr.Pairwise fun p q => p.1 < q.1) : ∀ (m t : Nat) (o l : Int) (P xs : List Int) (f d : Int) (b : List Int),
    Sd L t m o l P xs → 0 < f → Gr L t l P d b → 0 < cwGo fr ch f d b (wk L.length ((t : Int) + 1) o P l xs).2
  | 0, t, o, l, P, xs, f, d, b, s, hf, g => by
    have e : xs = [] := by
      rw [s.rx]
      refine List.drop_of_length_le ?_
      rw [row_len]
      have := s.tm
      omega
    rw [e]
    exact hf
  | m + 1, t, o, l, P, xs, f, d, b, s, hf, g => by
    obtain ⟨x, ys, rfl, hc, hr | hr⟩ := s.step h
    · obtain ⟨hnf, _, ep, hlt, s'⟩ := hr
      rw [wk_rec hnf, ep]
      exact cw_pos h hch hfr m (t + 1) x _ _ ys f d b s' hf (g.recd s.w hlt)
    · obtain ⟨hfr2, _, hp, s'⟩ := hr
      rw [wk_free hfr2]
      obtain ⟨D, hd, hn, hD⟩ := g.done
      have hfac := fac_pos h hch hfr hc hp hd hn hD
      refine cw_pos h hch hfr m (t + 1) (o - 1) l P ys _ _ _ s' (Int.mul_pos hf hfac) (.inl ⟨D ++ [(t : Int) + 1], fun z => ?_, fun y hy => ?_, ?_, ?_, fun c hcm => ?_⟩)
      · have := (srt_perm P).mem_iff.mpr hp
        have z : srt P = [] := z
        rw [z] at this
        cases this
      · exact (srt_perm P).mem_iff.mp (List.mem_of_getLast? hy)
      · rw [List.length_append, List.length_singleton]
        show dn d b (srt P) + 1 = _
        omega
      · rw [List.nodup_append]
        exact ⟨hn, List.pairwise_singleton _ _, fun a ha b2 hb2 z => by
          have := (hD a ha).2.1
          rw [List.mem_singleton.mp hb2] at z
          omega⟩
      · rcases List.mem_append.mp hcm with z | z
        · exact ⟨(hD c z).1, by have := (hD c z).2.1; omega, (hD c z).2.2⟩
        · rw [List.mem_singleton.mp z]
          exact ⟨hc, by omega, hp⟩
/-- a lane's own places are counted -/
theorem count_pos {L : List Int} (h : Ord L) {ch : List (Int × Int)} (hch : ∀ c p, chF ch c = some p → c ∈ L ∧ p = pos L c) : 0 < countW (freeR (row .srt L)) ch := by
  unfold countW
  have := cw_pos h hch (fr := freeR (row .srt L)) (show (freeR (row .srt L)).Pairwise _ from wk_pw.2) L.length 0 0 ((L.length : Int) + 1) [] (row .srt L) 1 0 [] (Sd.init h) (by decide) (.inl ⟨[], fun _ => rfl, (fun y hy => nomatch hy), rfl, List.nodup_nil, (fun c hc => nomatch hc)⟩)
  unfold freeR at this ⊢
  rw [row_len] at this ⊢
  exact this
end Ln
namespace Ln
theorem cw_zero {fr : List (Int × List Int)} {ch : List (Int × Int)} : ∀ (r : List (Int × List Int)) (d : Int) (b : List Int), cwGo fr ch 0 d b r = 0
  | [], _, _ => rfl
  | q :: r, d, b => by
    show cwGo fr ch (0 * _) _ _ r = 0
    rw [Int.zero_mul]
    exact cw_zero r _ _
theorem fac_nn {fr : List (Int × List Int)} {ch : List (Int × Int)} {d c : Int} {S : List Int} : 0 ≤ fac fr ch d c S := by
  unfold fac
  split
  · split <;> omega
  · split <;> omega
def Gq (o l d : Int) (P b : List Int) : Prop :=
  (b = [] ∧ d = 0 ∧ (P.length : Int) = o) ∨ (∃ y, b.getLast? = some y ∧ y ∈ P ∧ (P.length : Int) = o + d) ∨ ∃ y, b.getLast? = some y ∧ l ≤ y ∧ y ∉ P ∧ (P.length : Int) = o
theorem Gq.dn {o l d : Int} {P b : List Int} (g : Gq o l d P b) : (P.length : Int) = o + dn d b (srt P) := by
  unfold Ln.dn
  rcases g with ⟨rfl, rfl, h⟩ | ⟨y, h1, h2, h3⟩ | ⟨y, h1, h2, h3, h4⟩
  · show (P.length : Int) = o + 0
    omega
  · rw [h1]
    show (P.length : Int) = o + if y ∈ srt P then d else 0
    rw [if_pos ((srt_perm P).mem_iff.mpr h2)]
    exact h3
  · rw [h1]
    show (P.length : Int) = o + if y ∈ srt P then d else 0
    rw [if_neg fun z => h3 ((srt_perm P).mem_iff.mp z)]
    omega
theorem Gq.recd {n m : Nat} {o l l' x d : Int} {P b : List Int} (g : Gq o l d P b) (w : Wk o P l n (m + 1)) (hx : o ≤ x) (hl' : l' = (m : Int) + 1 - x) : Gq x l' d ((if o = 0 then [] else P) ++ between l' l) b := by
  have hlo := w.lo
  have ho := w.o0
  have hlt : l' < l := by omega
  have hbl := between_len hlt
  have hlen : (((if o = 0 then [] else P) ++ between l' l).length : Int) = ((if o = 0 then [] else P).length : Int) + (x - o) := by
    rw [List.length_append]
    omega
  rcases g with ⟨h0, h1, h2⟩ | ⟨y, h1, h2, h3⟩ | ⟨y, h1, h2, h3, h4⟩
  · refine .inl ⟨h0, h1, ?_⟩
    rw [hlen]
    by_cases e : o = 0
    · rw [if_pos e, List.length_nil]
      omega
    · rw [if_neg e]
      omega
  · have hy := w.pm y h2
    by_cases e : o = 0
    · rw [if_pos e] at hlen ⊢
      refine .inr (.inr ⟨y, h1, by omega, fun z => ?_, by rw [hlen, List.length_nil]; omega⟩)
      rw [List.nil_append] at z
      have := mem_between.mp z
      omega
    · rw [if_neg e] at hlen ⊢
      exact .inr (.inl ⟨y, h1, List.mem_append_left _ h2, by omega⟩)
  · refine .inr (.inr ⟨y, h1, by omega, fun z => ?_, ?_⟩)
    · rcases List.mem_append.mp z with z | z
      · split at z
        · cases z
        · exact h3 z
      · have := mem_between.mp z
        omega
    · rw [hlen]
      by_cases e : o = 0
      · rw [if_pos e, List.length_nil]
        omega
      · rw [if_neg e]
        omega
theorem cw_make {R : List Int} {n : Nat} (hR : R.length = n) {fr : List (Int × List Int)} {ch : List (Int × Int)} (hb : ∀ w q, chF ch w = some q → 1 ≤ w ∧ w ≤ n ∧ 1 ≤ q ∧ q ≤ n ∧ ∃ S, (w, S) ∈ fr) (hi : ∀ w w' q, chF ch w = some q → chF ch w' = some q → w = w') (hx : ∃ w q, chF ch w = some q) :
    ∀ (m t : Nat) (o l : Int) (P : List Int) (f d : Int) (b : List Int) (g : Nat → Int), t + m = n → (∀ w q, chF ch w = some q → Mt R n t o P l g w q) → (∀ s, s ∈ gaps n l g → s ∈ P) → Gq o l d P b → 0 < f → 0 < cwGo fr ch f d b (wk n ((t : Int) + 1) o P l (R.drop t)).2 →
      ∃ o l P g, ∀ w q, chF ch w = some q → Mt R n n o P l g w q
  | 0, t, o, l, P, f, d, b, g, hm, hM, _, _, _, _ => by
    obtain rfl : t = n := by omega
    exact ⟨o, l, P, g, hM⟩
  | m + 1, t, o, l, P, f, d, b, g, hm, hM, hg, hq, hf, hc => by
    obtain ⟨w0, q0, h0⟩ := hx
    have M0 := hM w0 q0 h0
    have b0 := hb w0 q0 h0
    have htn : t < n := by omega
    obtain ⟨x, hxg, hd, hdl, hnt⟩ := M0.parts hR htn
    by_cases hfr : 0 < o ∧ R.getD t 0 = 0
    · have hx0 : 0 < o ∧ x = 0 := ⟨hfr.1, hxg.symm.trans hfr.2⟩
      rw [hd, wk_free hx0] at hc
      have hc : 0 < cwGo fr ch (f * fac fr ch (dn d b (srt P)) ((t : Int) + 1) (srt P)) (dn d b (srt P) + 1) (srt P) (wk n ((t : Int) + 1 + 1) (o - 1) P l (R.drop (t + 1))).2 := hc
      have hfac : 0 < fac fr ch (dn d b (srt P)) ((t : Int) + 1) (srt P) := by
        have := fac_nn (fr := fr) (ch := ch) (d := dn d b (srt P)) (c := (t : Int) + 1) (S := srt P)
        by_cases e : fac fr ch (dn d b (srt P)) ((t : Int) + 1) (srt P) = 0
        · rw [e, Int.mul_zero, cw_zero] at hc
          omega
        · omega
      have hPl := hq.dn
      have hgl := M0.gl
      obtain ⟨s, hs, hs1, hs2⟩ : ∃ s, s ∈ gaps n l g ∧ (∀ w q, chF ch w = some q → w = (t : Int) + 1 → s = q) ∧ ∀ w q, chF ch w = some q → (t : Int) + 1 < w → s ≠ q := by
        cases e : chF ch ((t : Int) + 1) with
        | some p =>
          unfold fac at hfac
          rw [e] at hfac
          have hfac : 0 < if p ∈ srt P then (1 : Int) else 0 := hfac
          have hpS : p ∈ srt P := by
            apply Classical.byContradiction
            intro z
            rw [if_neg z] at hfac
            omega
          have hpP := (srt_perm P).mem_iff.mp hpS
          have hpm := M0.hw.pm p hpP
          refine ⟨p, mem_gaps.mpr ⟨⟨hpm.1, by omega⟩, ((hM _ _ e).b1 (by omega)).1⟩, fun w q hwq hw => ?_, fun w q hwq hw z => ?_⟩
          · rw [hw, e] at hwq
            exact Option.some.inj hwq
          · subst z
            have := hi _ _ _ hwq e
            omega
        | none =>
          unfold fac at hfac
          rw [e] at hfac
          have hfac : 0 < if ((srt P).length : Int) - dn d b (srt P) - laterN fr ch ((t : Int) + 1) (srt P) > 0 then ((srt P).length : Int) - dn d b (srt P) - laterN fr ch ((t : Int) + 1) (srt P) else 0 := hfac
          have hlt : (laterN fr ch ((t : Int) + 1) (srt P) : Int) < o := by
            rw [srt_len] at hfac
            split at hfac
            · omega
            · omega
          have hex : ∃ s, s ∈ gaps n l g ∧ ∀ w q, chF ch w = some q → (t : Int) + 1 < w → s ≠ q := by
            apply Classical.byContradiction
            intro hno
            have hall : ∀ s, s ∈ gaps n l g → ∃ w, chF ch w = some s ∧ (t : Int) + 1 < w := fun s hs => by
              apply Classical.byContradiction
              intro z
              exact hno ⟨s, hs, fun w q h1 h2 h3 => z ⟨w, by rw [h3]; exact h1, h2⟩⟩
            have hsub := Sy.nodup_len_le (K := gaps n l g) (M := (fr.filter fun q => decide (q.1 > (t : Int) + 1) && match chF ch q.1 with
              | some p => decide (p ∈ srt P)
              | none => false).map fun q => (chF ch q.1).getD 0) (between_nodup.filter _) (fun s hs => by
              obtain ⟨w, hw1, hw2⟩ := hall s hs
              obtain ⟨_, _, _, _, S, hS⟩ := hb w s hw1
              refine List.mem_map.mpr ⟨(w, S), List.mem_filter.mpr ⟨hS, ?_⟩, by rw [hw1]; rfl⟩
              rw [hw1, decide_eq_true (show w > (t : Int) + 1 from hw2)]
              exact decide_eq_true ((srt_perm P).mem_iff.mpr (hg s hs)))
            rw [List.length_map] at hsub
            have hsub : (gaps n l g).length ≤ laterN fr ch ((t : Int) + 1) (srt P) := hsub
            omega
          obtain ⟨s, h1, h2⟩ := hex
          exact ⟨s, h1, (fun w q hwq hw => by rw [hw, e] at hwq; cases hwq), h2⟩
      refine cw_make hR hb hi ⟨w0, q0, h0⟩ m (t + 1) (o - 1) l P _ _ _ (put g (s - 1).toNat ((t : Int) + 1)) (by omega) (fun w q h => (hM w q h).free hR htn ⟨(hb w q h).2.2.1, (hb w q h).2.2.2.1⟩ (hb w q h).1 hfr hs (hs1 w q h) (hs2 w q h)) (fun s' hs' => ?_) ?_ (Int.mul_pos hf hfac) hc
      · obtain ⟨h1, h2⟩ := mem_gaps.mp hs'
        refine hg s' (mem_gaps.mpr ⟨h1, ?_⟩)
        unfold put at h2
        split at h2
        · omega
        · exact h2
      · refine .inr (.inl ?_)
        have hsP := hg s hs
        have hne : srt P ≠ [] := fun z => by
          have := (srt_perm P).mem_iff.mpr hsP
          rw [z] at this
          cases this
        refine ⟨(srt P).getLast hne, List.getLast?_eq_getLast hne, (srt_perm P).mem_iff.mp (List.getLast_mem hne), by omega⟩
    · have hx0 : ¬ (0 < o ∧ x = 0) := fun z => hfr ⟨z.1, hxg.trans z.2⟩
      rw [hd, wk_rec hx0] at hc
      rw [← hxg] at hc
      have r0 := M0.recd hR htn ⟨b0.2.2.1, b0.2.2.2.1⟩ b0.1 hfr
      have hg' := M0.hg
      rw [hd] at hg'
      obtain ⟨_, hx1, hx2, _⟩ := (good_two M0.hw.o0 hg').resolve_left (fun z => hx0 ⟨z.1, z.2.1⟩)
      have hw' := M0.hw
      rw [hnt] at hw'
      rw [← hxg] at hx1
      refine cw_make hR hb hi ⟨w0, q0, h0⟩ m (t + 1) _ _ _ _ _ _ _ (by omega) (fun w q h => ((hM w q h).recd hR htn ⟨(hb w q h).2.2.1, (hb w q h).2.2.2.1⟩ (hb w q h).1 hfr).2.2.2) (fun s hs => ?_) (hq.recd hw' hx1 (by omega)) hf hc
      obtain ⟨h1, h2⟩ := mem_gaps.mp hs
      rw [List.mem_append]
      by_cases e : s < l
      · exact .inr (mem_between.mpr ⟨h1.1, e⟩)
      · have hs0 : g (s - 1).toNat = 0 := by
          unfold put at h2
          split at h2
          · omega
          · exact h2
        have hsl : l < s := by
          by_cases e2 : s = l
          · rcases M0.md.a5 with z | z
            · omega
            · rw [e2, show (l - 1).toNat = l.toNat - 1 by omega] at hs0
              exact absurd hs0 z
          · omega
        have hsg : s ∈ gaps n l g := mem_gaps.mpr ⟨⟨hsl, h1.2⟩, hs0⟩
        have hgl := M0.gl
        have := List.length_pos_of_mem hsg
        rw [if_neg (show ¬ o = 0 by omega)]
        exact .inl (hg s hsg)
end Ln
namespace Ln
theorem chF_mem {ch : List (Int × Int)} {c p : Int} (h : chF ch c = some p) : (c, p) ∈ ch := by
  unfold chF at h
  obtain ⟨q, hq, rfl⟩ := Option.map_eq_some_iff.mp h
  have h1 := List.mem_of_find?_eq_some hq
  have h2 := List.find?_some hq
  have h2 : q.1 = c := of_decide_eq_true h2
  rw [← h2]
  exact h1
theorem mem_pairR {R : List Int} {c1 p1 c2 p2 c p : Int} (h : (c, p) ∈ pairR R c1 p1 c2 p2) : ((c = c1 ∧ p = p1) ∨ (c = c2 ∧ p = p2)) ∧ ∀ v, (c, v) ∉ fixedR R := by
  unfold pairR at h
  obtain ⟨h1, h2⟩ := List.mem_filter.mp h
  constructor
  · simp only [List.mem_cons, List.not_mem_nil, or_false, Prod.mk.injEq] at h1
    exact h1
  · intro v hv
    have h3 : ((fixedR R).any fun f => decide (f.1 = c)) = true := List.any_eq_true.mpr ⟨_, hv, decide_eq_true rfl⟩
    rw [h3] at h2
    cases h2
theorem pairR_get {R : List Int} {c1 p1 c2 p2 : Int} (hne : c1 ≠ c2) (c p : Int) (hc : (c = c1 ∧ p = p1) ∨ (c = c2 ∧ p = p2)) (hn : ∀ v, (c, v) ∉ fixedR R) : chF (pairR R c1 p1 c2 p2) c = some p := by
  have hm : (c, p) ∈ pairR R c1 p1 c2 p2 := by
    unfold pairR
    refine List.mem_filter.mpr ⟨?_, ?_⟩
    · rcases hc with ⟨rfl, rfl⟩ | ⟨rfl, rfl⟩
      · exact List.mem_cons_self
      · exact List.mem_cons_of_mem _ List.mem_cons_self
    · have h3 : ((fixedR R).any fun f => decide (f.1 = c)) = false := by
        rw [List.any_eq_false]
        intro f hf z
        have z : f.1 = c := of_decide_eq_true z
        exact hn f.2 (by rw [← z]; exact hf)
      show (!((fixedR R).any fun f => decide (f.1 = c))) = true
      rw [h3]
      rfl
  cases e : chF (pairR R c1 p1 c2 p2) c with
  | none =>
    unfold chF at e
    rw [Option.map_eq_none_iff, List.find?_eq_none] at e
    exact absurd (decide_eq_true rfl) (e _ hm)
  | some p' =>
    have h4 := (mem_pairR (chF_mem e)).1
    congr 1
    omega
theorem notSure_iff {L : List Int} (h : Ord L) {c1 c2 : Int} (h1 : c1 ∈ L) (h2 : c2 ∈ L) (hne : c1 ≠ c2) : notSure (row .srt L) c1 c2 ↔ ∃ M, Ord M ∧ M.length = L.length ∧ row .srt M = row .srt L ∧ pos M c2 < pos M c1 := by
  have b1 := ord_mem h h1
  have b2 := ord_mem h h2
  have hg := good_row (ord_nodup h)
  have hRl : (row .srt L).length = L.length := row_len _ _
  constructor
  · rintro ⟨p1, p2, hp1, hp2, hlt, hcw⟩
    have i1 := spots_in hg b1.1 (by rw [hRl]; exact b1.2) hp1
    have i2 := spots_in hg b2.1 (by rw [hRl]; exact b2.2) hp2
    have k1 := can_of b1.1 (by rw [hRl]; exact b1.2) hp1
    have k2 := can_of b2.1 (by rw [hRl]; exact b2.2) hp2
    have fix : ∀ M, Ord M → M.length = L.length → row .srt M = row .srt L → ∀ c p, ((c = c1 ∧ p = p1) ∨ (c = c2 ∧ p = p2)) → ∀ v, (c, v) ∈ fixedR (row .srt L) → pos M c = p := fun M hM hMl hMr c p hc v hv => by
      have hcM : c ∈ M := hM.2.2.mem_iff.mpr (mem_upto.mpr ⟨by omega, by omega⟩)
      have e1 := sound_spots hM hcM
      rw [hMr, spots_fixed hv] at e1
      have e2 : p ∈ spotsR (row .srt L) c := by
        rcases hc with ⟨rfl, rfl⟩ | ⟨rfl, rfl⟩
        · exact hp1
        · exact hp2
      rw [spots_fixed hv] at e2
      rw [List.mem_singleton.mp e1, List.mem_singleton.mp e2]
    have fin : ∀ M, Ord M → M.length = L.length → row .srt M = row .srt L → (∀ c p, chF (pairR (row .srt L) c1 p1 c2 p2) c = some p → pos M c = p) → ∃ M, Ord M ∧ M.length = L.length ∧ row .srt M = row .srt L ∧ pos M c2 < pos M c1 := fun M hM hMl hMr hp => by
      refine ⟨M, hM, hMl, hMr, ?_⟩
      have g : ∀ c p, ((c = c1 ∧ p = p1) ∨ (c = c2 ∧ p = p2)) → pos M c = p := fun c p hc => by
        by_cases hf : ∃ v, (c, v) ∈ fixedR (row .srt L)
        · obtain ⟨v, hv⟩ := hf
          exact fix M hM hMl hMr c p hc v hv
        · exact hp c p (pairR_get hne c p hc fun v hv => hf ⟨v, hv⟩)
      rw [g c1 p1 (.inl ⟨rfl, rfl⟩), g c2 p2 (.inr ⟨rfl, rfl⟩)]
      exact hlt
    by_cases hx : ∃ w q, chF (pairR (row .srt L) c1 p1 c2 p2) w = some q
    · have hb : ∀ w q, chF (pairR (row .srt L) c1 p1 c2 p2) w = some q → 1 ≤ w ∧ w ≤ (L.length : Int) ∧ 1 ≤ q ∧ q ≤ (L.length : Int) ∧ ∃ S, (w, S) ∈ freeR (row .srt L) := fun w q hw => by
        obtain ⟨m1, m2⟩ := mem_pairR (chF_mem hw)
        refine ⟨by omega, by omega, by omega, by omega, ?_⟩
        rcases wk_cover (n := (row .srt L).length) (xs := row .srt L) (c := 1) (o := 0) (l := ((row .srt L).length : Int) + 1) (P := []) (k := w) (by omega) (by omega) with ⟨p, hp⟩ | ⟨S, hS⟩
        · exact absurd hp (m2 p)
        · exact ⟨S, hS⟩
      have hi : ∀ w w' q, chF (pairR (row .srt L) c1 p1 c2 p2) w = some q → chF (pairR (row .srt L) c1 p1 c2 p2) w' = some q → w = w' := fun w w' q hw hw' => by
        have m1 := (mem_pairR (chF_mem hw)).1
        have m2 := (mem_pairR (chF_mem hw')).1
        omega
      have hM0 : ∀ w q, chF (pairR (row .srt L) c1 p1 c2 p2) w = some q → Mt (row .srt L) L.length 0 0 [] ((L.length : Int) + 1) (fun _ => 0) w q := fun w q hw => by
        have m1 := (mem_pairR (chF_mem hw)).1
        have := Mt.init (R := row .srt L) (w := w) (q := q) hg (by omega) (by
          rcases m1 with ⟨rfl, rfl⟩ | ⟨rfl, rfl⟩
          · exact k1
          · exact k2)
        rw [hRl] at this
        exact this
      have hcw : 0 < cwGo (freeR (row .srt L)) (pairR (row .srt L) c1 p1 c2 p2) 1 0 [] (wk L.length (((0 : Nat) : Int) + 1) 0 [] ((L.length : Int) + 1) ((row .srt L).drop 0)).2 := by
        have hcw : 0 < cwGo (freeR (row .srt L)) (pairR (row .srt L) c1 p1 c2 p2) 1 0 [] (freeR (row .srt L)) := hcw
        have e : freeR (row .srt L) = (wk L.length (((0 : Nat) : Int) + 1) 0 [] ((L.length : Int) + 1) ((row .srt L).drop 0)).2 := by
          unfold freeR
          rw [hRl]
          rfl
        rw [← e]
        exact hcw
      obtain ⟨o, l, P, g, hM⟩ := cw_make (n := L.length) hRl hb hi hx L.length 0 0 ((L.length : Int) + 1) [] 1 0 [] (fun _ => 0) (by omega) hM0 (fun s hs => by
        have := (mem_gaps.mp hs).1
        omega) (.inl ⟨rfl, rfl, rfl⟩) (by decide) hcw
      obtain ⟨w0, q0, hw0⟩ := hx
      have B0 := hb w0 q0 hw0
      have D0 := (hM w0 q0 hw0).done hRl h.1 h.2.1 ⟨B0.2.2.1, B0.2.2.2.1⟩ B0.2.1
      refine fin (arrOf L.length g) D0.1 arr_len D0.2.1 fun c p hcp => ?_
      have B1 := hb c p hcp
      have D1 := ((hM c p hcp).done hRl h.1 h.2.1 ⟨B1.2.2.1, B1.2.2.2.1⟩ B1.2.1).2.2
      obtain ⟨hlt2, e⟩ := List.getElem?_eq_some_iff.mp D1
      have := (ord_nodup D0.1).idxOf_getElem _ hlt2
      rw [e] at this
      unfold pos
      omega
    · exact fin L h rfl rfl fun c p hcp => absurd ⟨c, p, hcp⟩ hx
  · rintro ⟨M, hM, hMl, hMr, hlt⟩
    have m1 : c1 ∈ M := hM.2.2.mem_iff.mpr (mem_upto.mpr ⟨b1.1, by omega⟩)
    have m2 : c2 ∈ M := hM.2.2.mem_iff.mpr (mem_upto.mpr ⟨b2.1, by omega⟩)
    rw [← hMr]
    refine ⟨pos M c1, pos M c2, sound_spots hM m1, sound_spots hM m2, hlt, ?_⟩
    refine count_pos hM fun c p hcp => ?_
    rcases (mem_pairR (chF_mem hcp)).1 with ⟨rfl, rfl⟩ | ⟨rfl, rfl⟩
    · exact ⟨m1, rfl⟩
    · exact ⟨m2, rfl⟩
end Ln
namespace Ln
/-! ### the count is the number of orders -/
def okp (ch : List (Int × Int)) (r : List (Int × List Int)) (c p : Int) : Bool := match chF ch c with
  | some q => decide (p = q)
  | none => !(r.any fun s => decide (chF ch s.1 = some p))
/-- the places of the free cars, one after another; U are taken -/
def asg (ch : List (Int × Int)) : List Int → List (Int × List Int) → List (List Int)
  | _, [] => [[]]
  | U, q :: r => (q.2.filter fun p => !decide (p ∈ U) && okp ch r q.1 p).flatMap fun p => (asg ch (p :: U) r).map (p :: ·)
/-- groups of places, each within the next; the groups apart -/
def Nest : List Int → List Int → List (Int × List Int) → Prop
  | _, _, [] => True
  | E, b, q :: r => q.2.Nodup ∧ (∀ x, x ∈ q.2 → x ∉ E) ∧ ((b = [] ∧ Nest E q.2 r) ∨ (∃ y, b.getLast? = some y ∧ y ∈ q.2 ∧ (∀ x, x ∈ b → x ∈ q.2) ∧ Nest E q.2 r) ∨ (∃ y, b.getLast? = some y ∧ y ∉ q.2 ∧ (∀ x, x ∈ b → x ∉ q.2) ∧ Nest (E ++ b) q.2 r))
theorem flat_const {α β : Type} {f : α → List β} {m : Nat} : ∀ {l : List α}, (∀ x, x ∈ l → (f x).length = m) → (l.flatMap f).length = l.length * m
  | [], _ => by rw [List.flatMap_nil, List.length_nil, List.length_nil, Nat.zero_mul]
  | x :: l, h => by
    rw [List.flatMap_cons, List.length_append, h x List.mem_cons_self, flat_const fun y hy => h y (List.mem_cons_of_mem _ hy), List.length_cons, Nat.succ_mul]
    omega
theorem cap_len {S U : List Int} (hS : S.Nodup) (hU : U.Nodup) : (S.filter fun p => decide (p ∈ U)).length = (U.filter fun p => decide (p ∈ S)).length := by
  refine Nat.le_antisymm ?_ ?_
  · refine Sy.nodup_len_le (hS.filter _) fun x hx => ?_
    rw [List.mem_filter] at hx ⊢
    exact ⟨of_decide_eq_true hx.2, decide_eq_true hx.1⟩
  · refine Sy.nodup_len_le (hU.filter _) fun x hx => ?_
    rw [List.mem_filter] at hx ⊢
    exact ⟨of_decide_eq_true hx.2, decide_eq_true hx.1⟩
/-- the later cars that have chosen a place of S -/
theorem later_len {ch : List (Int × Int)} {S : List Int} (hS : S.Nodup) (hi : ∀ c c' q, chF ch c = some q → chF ch c' = some q → c = c') : ∀ {r : List (Int × List Int)}, r.Pairwise (fun p q => p.1 < q.1) →
    (S.filter fun p => r.any fun s => decide (chF ch s.1 = some p)).length = (r.filter fun s => match chF ch s.1 with
      | some p => decide (p ∈ S)
      | none => false).length
  | [], _ => by
    have e : (S.filter fun p => ([] : List (Int × List Int)).any fun s => decide (chF ch s.1 = some p)) = [] := List.filter_eq_nil_iff.mpr fun p _ h => by cases h
    rw [e]
    rfl
  | s :: r, hp => by
    obtain ⟨h1, h2⟩ := List.pairwise_cons.mp hp
    have ih := later_len hS hi h2
    have e : (fun p => (s :: r).any fun s => decide (chF ch s.1 = some p)) = fun p => decide (chF ch s.1 = some p) || r.any fun s => decide (chF ch s.1 = some p) := by
      funext p
      rw [List.any_cons]
    rw [e]
    cases hc : chF ch s.1 with
    | none =>
      rw [List.filter_cons, if_neg (by rw [hc]; exact fun h => nomatch h)]
      rw [← ih]
      congr 1
    | some p0 =>
      have e2 : (fun p => decide (some p0 = some p) || r.any fun s => decide (chF ch s.1 = some p)) = fun p => decide (p = p0) || r.any fun s => decide (chF ch s.1 = some p) := by
        funext p
        congr 1
        rw [decide_eq_decide]
        exact ⟨fun h => (Option.some.inj h).symm, fun h => by rw [h]⟩
      rw [e2]
      have hno : (r.any fun s => decide (chF ch s.1 = some p0)) = false := by
        rw [List.any_eq_false]
        intro s' hs' h
        have := hi s.1 s'.1 p0 hc (of_decide_eq_true h)
        have := h1 s' hs'
        omega
      by_cases hm : p0 ∈ S
      · rw [List.filter_cons, if_pos (by rw [hc]; exact decide_eq_true hm), List.length_cons, ← ih]
        have split : ∀ (T : List Int), T.Nodup → p0 ∈ T → (T.filter fun p => decide (p = p0) || r.any fun s => decide (chF ch s.1 = some p)).length = (T.filter fun p => r.any fun s => decide (chF ch s.1 = some p)).length + 1 := by
          intro T
          induction T with
          | nil => intro _ h; cases h
          | cons x T ihT =>
            intro hn hx
            obtain ⟨hn1, hn2⟩ := List.nodup_cons.mp hn
            by_cases hxp : x = p0
            · subst hxp
              rw [List.filter_cons, if_pos (by simp), List.filter_cons, if_neg (by rw [hno]; decide), List.length_cons]
              congr 2
              refine List.filter_congr fun y hy => ?_
              have hne : y ≠ x := fun z => hn1 (by rw [← z]; exact hy)
              rw [decide_eq_false hne, Bool.false_or]
            · have hx' : p0 ∈ T := (List.mem_cons.mp hx).resolve_left (fun z => hxp z.symm)
              have ih2 := ihT hn2 hx'
              rw [List.filter_cons, List.filter_cons, decide_eq_false hxp, Bool.false_or]
              by_cases hr : (r.any fun s => decide (chF ch s.1 = some x)) = true
              · rw [if_pos hr, if_pos hr, List.length_cons, List.length_cons, ih2]
              · rw [if_neg hr, if_neg hr, ih2]
        exact split S hS hm
      · rw [List.filter_cons, if_neg (by rw [hc]; exact fun h => hm (of_decide_eq_true h)), ← ih]
        congr 1
        refine List.filter_congr fun y hy => ?_
        have hne : y ≠ p0 := fun z => hm (by rw [← z]; exact hy)
        rw [decide_eq_false hne, Bool.false_or]
theorem filter_split (p q : Int → Bool) : ∀ S : List Int, (∀ x, x ∈ S → p x = true → q x = true → False) → (S.filter fun x => !p x && !q x).length + (S.filter p).length + (S.filter q).length = S.length
  | [], _ => rfl
  | x :: S, h => by
    have ih := filter_split p q S fun y hy => h y (List.mem_cons_of_mem _ hy)
    have hx := h x List.mem_cons_self
    simp only [List.filter_cons]
    cases hp : p x <;> cases hq : q x <;> simp [hp, hq] at hx ⊢ <;> omega
section
variable {fr : List (Int × List Int)} {ch : List (Int × Int)}
/-- the count, group by group -/
theorem cw_asg (hfr : fr.Pairwise fun p q => p.1 < q.1) (hi : ∀ c c' q, chF ch c = some q → chF ch c' = some q → c = c') : ∀ (r pre : List (Int × List Int)) (U E b : List Int) (d : Nat) (f : Int), fr = pre ++ r → Nest E b r → U.Nodup → (∀ x, x ∈ U → x ∈ E ∨ x ∈ b) → (U.filter fun x => decide (x ∈ b)).length = d →
    (∀ s, s ∈ r → ∀ q, chF ch s.1 = some q → q ∉ U) → cwGo fr ch f d b r = f * ((asg ch U r).length : Nat)
  | [], pre, U, E, b, d, f, _, _, _, _, _, _ => by
    show f = f * (([[]] : List (List Int)).length : Nat)
    rw [List.length_singleton, Int.natCast_one, Int.mul_one]
  | (c, S) :: r, pre, U, E, b, d, f, hpre, hN, hU, hUE, hd, hch => by
    have hr : ((c, S) :: r).Pairwise fun p q => p.1 < q.1 := by
      rw [hpre] at hfr
      exact (List.pairwise_append.mp hfr).2.1
    obtain ⟨hcr, hr2⟩ := List.pairwise_cons.mp hr
    obtain ⟨hS, hSE, h3⟩ := hN
    -- how many are done in this group, and what comes
    have key : ∃ d' : Nat, dn d b S = (d' : Nat) ∧ (U.filter fun x => decide (x ∈ S)).length = d' ∧ ∃ E', Nest E' S r ∧ ∀ x, x ∈ U → x ∈ E' ∨ x ∈ S := by
      rcases h3 with ⟨hb, hN'⟩ | ⟨y, hy, hyS, hbS, hN'⟩ | ⟨y, hy, hyS, hbS, hN'⟩
      · subst hb
        have hd0 : d = 0 := by
          rw [← hd]
          have e : (U.filter fun x => decide (x ∈ ([] : List Int))) = [] := List.filter_eq_nil_iff.mpr fun x _ h => by cases of_decide_eq_true h
          rw [e]
          rfl
        refine ⟨0, by rw [hd0]; rfl, ?_, E, hN', fun x hx => .inl ((hUE x hx).resolve_right (fun z => nomatch z))⟩
        have e : (U.filter fun x => decide (x ∈ S)) = [] := List.filter_eq_nil_iff.mpr fun x hx h => hSE x (of_decide_eq_true h) ((hUE x hx).resolve_right (fun z => nomatch z))
        rw [e]
        rfl
      · refine ⟨d, by unfold dn; rw [hy]; exact if_pos hyS, ?_, E, hN', fun x hx => (hUE x hx).imp id (hbS x)⟩
        rw [← hd]
        congr 1
        refine List.filter_congr fun x hx => ?_
        rw [decide_eq_decide]
        exact ⟨fun h => (hUE x hx).resolve_left fun z => hSE x h z, fun h => hbS x h⟩
      · refine ⟨0, by unfold dn; rw [hy]; exact if_neg hyS, ?_, E ++ b, hN', fun x hx => .inl (List.mem_append.mpr (hUE x hx))⟩
        have e : (U.filter fun x => decide (x ∈ S)) = [] := List.filter_eq_nil_iff.mpr fun x hx h => (hUE x hx).elim (fun z => hSE x (of_decide_eq_true h) z) fun z => hbS x z (of_decide_eq_true h)
        rw [e]
        rfl
    obtain ⟨d', hdn, hd', E', hN', hUE'⟩ := key
    -- each choice leads to as many
    have next : ∀ p, p ∈ S.filter (fun p => !decide (p ∈ U) && okp ch r c p) → ∀ f', cwGo fr ch f' ((d' + 1 : Nat) : Int) S r = f' * ((asg ch (p :: U) r).length : Nat) := fun p hp f' => by
      obtain ⟨hpS, hp2⟩ := List.mem_filter.mp hp
      rw [Bool.and_eq_true] at hp2
      have hpU : p ∉ U := by simpa using hp2.1
      refine cw_asg hfr hi r (pre ++ [(c, S)]) (p :: U) E' S (d' + 1) f' (by rw [hpre, List.append_assoc]; rfl) hN' (List.nodup_cons.mpr ⟨hpU, hU⟩) (fun x hx => ?_) ?_ fun s hs q hq => ?_
      · rcases List.mem_cons.mp hx with rfl | hx
        · exact .inr hpS
        · exact hUE' x hx
      · rw [List.filter_cons, if_pos (decide_eq_true hpS), List.length_cons, hd']
      · refine fun hx => ?_
        rcases List.mem_cons.mp hx with rfl | hx
        · have ho := hp2.2
          unfold okp at ho
          cases hc : chF ch c with
          | some q0 =>
            rw [hc] at ho
            have e : q = q0 := of_decide_eq_true ho
            rw [e] at hq
            have := hi _ _ _ hc hq
            have := hcr s hs
            omega
          | none =>
            rw [hc] at ho
            have ho : (r.any fun s => decide (chF ch s.1 = some q)) = false := by simpa using ho
            exact (List.any_eq_false.mp ho) s hs (decide_eq_true hq)
        · exact hch s (List.mem_cons_of_mem _ hs) q hq hx
    -- how many choices
    have num : fac fr ch (dn d b S) c S = ((S.filter fun p => !decide (p ∈ U) && okp ch r c p).length : Nat) := by
      unfold fac
      cases hc : chF ch c with
      | some q0 =>
        have hq0 := hch (c, S) List.mem_cons_self q0 hc
        have e : (fun p => !decide (p ∈ U) && okp ch r c p) = fun p => decide (p = q0) := by
          funext p
          unfold okp
          rw [hc]
          by_cases h : p = q0
          · subst h
            simp [hq0]
          · simp [h]
        rw [e]
        have one : ∀ T : List Int, T.Nodup → (((T.filter fun p => decide (p = q0)).length : Nat) : Int) = if q0 ∈ T then 1 else 0 := by
          intro T
          induction T with
          | nil => intro _; rfl
          | cons x T ih =>
            intro hn
            obtain ⟨hn1, hn2⟩ := List.nodup_cons.mp hn
            have ih := ih hn2
            by_cases h : x = q0
            · subst h
              rw [List.filter_cons, if_pos (decide_eq_true rfl), if_pos List.mem_cons_self, List.length_cons]
              rw [if_neg hn1] at ih
              omega
            · rw [List.filter_cons, if_neg (by simpa using h), ih]
              by_cases h2 : q0 ∈ T
              · rw [if_pos h2, if_pos (List.mem_cons_of_mem _ h2)]
              · rw [if_neg h2, if_neg fun z => (List.mem_cons.mp z).elim (fun w => h w.symm) h2]
        exact (one S hS).symm
      | none =>
        have e : (fun p => !decide (p ∈ U) && okp ch r c p) = fun p => !decide (p ∈ U) && !(r.any fun s => decide (chF ch s.1 = some p)) := by
          funext p
          unfold okp
          rw [hc]
        rw [e]
        have h1 := filter_split (fun p => decide (p ∈ U)) (fun p => r.any fun s => decide (chF ch s.1 = some p)) S fun x hx hxU hxr => by
          obtain ⟨s, hs, hsx⟩ := List.any_eq_true.mp hxr
          exact hch s (List.mem_cons_of_mem _ hs) x (of_decide_eq_true hsx) (of_decide_eq_true hxU)
        have h2 := cap_len (S := S) hS hU
        have h3 : laterN fr ch c S = (S.filter fun p => r.any fun s => decide (chF ch s.1 = some p)).length := by
          rw [later_len (S := S) hS hi hr2]
          unfold laterN
          rw [hpre, List.filter_append, List.filter_cons, if_neg (by simp)]
          have hp0 : ∀ g : Int × List Int → Bool, (∀ s, s ∈ pre → g s = false) → pre.filter g = [] := fun g hg => List.filter_eq_nil_iff.mpr fun s hs h => by rw [hg s hs] at h; cases h
          rw [hp0 _ fun s hs => by
            rw [hpre] at hfr
            have := (List.pairwise_append.mp hfr).2.2 s hs (c, S) List.mem_cons_self
            rw [decide_eq_false (show ¬ s.1 > c from by omega), Bool.false_and], List.nil_append]
          congr 1
          refine List.filter_congr fun s hs => ?_
          rw [decide_eq_true (show s.1 > c from hcr s hs), Bool.true_and]
          all_goals rfl
        show (if (S.length : Int) - dn d b S - laterN fr ch c S > 0 then (S.length : Int) - dn d b S - laterN fr ch c S else 0) = _
        have hx : (S.length : Int) - dn d b S - laterN fr ch c S = ((S.filter fun p => !decide (p ∈ U) && !(r.any fun s => decide (chF ch s.1 = some p))).length : Nat) := by
          rw [hdn, h3]
          omega
        rw [hx]
        split <;> omega
    show cwGo fr ch (f * fac fr ch (dn d b S) c S) (dn d b S + 1) S r = _
    rw [num]
    show _ = f * ((((S.filter fun p => !decide (p ∈ U) && okp ch r c p).flatMap fun p => (asg ch (p :: U) r).map (p :: ·)).length : Nat) : Int)
    have ed : dn d b S + 1 = ((d' + 1 : Nat) : Int) := by rw [hdn]; omega
    rw [ed]
    generalize hT : S.filter (fun p => !decide (p ∈ U) && okp ch r c p) = T at next ⊢
    cases T with
    | nil =>
      rw [List.length_nil, Int.natCast_zero, Int.mul_zero, cw_zero, List.flatMap_nil, List.length_nil, Int.natCast_zero, Int.mul_zero]
    | cons p0 T =>
      have h0 := next p0 List.mem_cons_self
      have hlen : ∀ p, p ∈ p0 :: T → ((asg ch (p :: U) r).map (p :: ·)).length = (asg ch (p0 :: U) r).length := fun p hp => by
        rw [List.length_map]
        have e1 := next p hp 1
        have e2 := h0 1
        rw [e1, Int.one_mul, Int.one_mul] at e2
        exact Int.ofNat.inj e2
      rw [flat_const hlen, h0, Int.natCast_mul, Int.mul_assoc]
end
end Ln
namespace Ln
/-! ### ascending -/
def lx : List Int → List Int → Prop
  | x :: xs, y :: ys => x < y ∨ (x = y ∧ lx xs ys)
  | _, _ => False
theorem lx_irr : ∀ {a : List Int}, ¬ lx a a
  | [], h => h
  | x :: a, h => by
    rcases h with h | ⟨_, h⟩
    · omega
    · exact lx_irr h
theorem lx_snoc {x y : Int} : ∀ {a b : List Int}, lx a b → lx (a ++ [x]) (b ++ [y])
  | [], [], h => h.elim
  | [], _ :: _, h => h.elim
  | _ :: _, [], h => h.elim
  | p :: a, q :: b, h => h.imp id fun ⟨e, h⟩ => ⟨e, lx_snoc h⟩
theorem lx_last {x y : Int} (h : x < y) : ∀ a : List Int, lx (a ++ [x]) (a ++ [y])
  | [] => .inl h
  | p :: a => .inr ⟨rfl, lx_last h a⟩
theorem lx_trans : ∀ {a b c : List Int}, lx a b → lx b c → lx a c
  | [], _, _, h, _ => h.elim
  | _ :: _, [], _, h, _ => h.elim
  | _ :: _, _ :: _, [], _, h => h.elim
  | p :: a, q :: b, r :: c, h1, h2 => by
    rcases h1 with h1 | ⟨rfl, h1⟩
    · rcases h2 with h2 | ⟨rfl, h2⟩
      · exact .inl (by omega)
      · exact .inl h1
    · rcases h2 with h2 | ⟨rfl, h2⟩
      · exact .inl h2
      · exact .inr ⟨rfl, lx_trans h1 h2⟩
theorem upto_asc (n : Nat) : (upto n).Pairwise (· < ·) := by
  unfold upto
  rw [List.pairwise_map]
  exact List.pairwise_lt_range.imp fun h => by omega
theorem growA_lx (n : Nat) (l : List Int) : (growA n l).Pairwise lx := by
  unfold growA
  rw [List.pairwise_map]
  exact ((upto_asc n).filter _).imp fun h => lx_last h l
theorem lanesA_lx (n : Nat) : ∀ k : Nat, (lanesA n k).Pairwise lx
  | 0 => List.pairwise_singleton _ _
  | k + 1 => by
    have ih := lanesA_lx n k
    show ((lanesA n k).flatMap (growA n)).Pairwise lx
    generalize lanesA n k = ls at ih
    induction ls with
    | nil => exact List.Pairwise.nil
    | cons l ls ih2 =>
      obtain ⟨h1, h2⟩ := List.pairwise_cons.mp ih
      rw [List.flatMap_cons, List.pairwise_append]
      refine ⟨growA_lx n l, ih2 h2, fun a ha b hb => ?_⟩
      obtain ⟨x, _, rfl⟩ := List.mem_map.mp ha
      obtain ⟨l', hl', hb'⟩ := List.mem_flatMap.mp hb
      obtain ⟨y, _, rfl⟩ := List.mem_map.mp hb'
      exact lx_snoc (h1 l' hl')
theorem lx_nodup {ls : List (List Int)} (h : ls.Pairwise lx) : ls.Nodup := List.nodup_iff_pairwise_ne.mpr (h.imp fun {a b} (z : lx a b) (e : a = b) => lx_irr (a := b) (by rw [e] at z; exact z))
/-! ### the groups of a row -/
theorem mem_srt {P : List Int} {x : Int} : x ∈ srt P ↔ x ∈ P := (srt_perm P).mem_iff
theorem nest_wk {n : Nat} : ∀ {xs : List Int} {m : Nat} {c o l : Int} {P E b : List Int}, xs.length = m → c + m = (n : Int) + 1 → Wk o P l n m → good o xs = true → (∀ x, x ∈ E → l < x ∧ x ∉ P) →
    (b = [] ∨ (∀ x, x ∈ b → x ∈ P) ∨ (∀ x, x ∈ b → l < x ∧ x ∉ P)) → Nest E b (wk n c o P l xs).2
  | [], m, c, o, l, P, E, b, _, _, _, _, _, _ => trivial
  | x :: xs, m, c, o, l, P, E, b, hl, hc, hw, hg, hE, hb => by
    obtain ⟨m, rfl⟩ : ∃ m', m = m' + 1 := ⟨xs.length, by rw [← hl, List.length_cons]⟩
    have hl' : xs.length = m := by rw [List.length_cons] at hl; omega
    have hc' : c + 1 + m = (n : Int) + 1 := by omega
    by_cases h : 0 < o ∧ x = 0
    · rw [wk_free h]
      have hg' := ((good_two hw.o0 hg).resolve_right fun z => z.1 h).2.2
      have hnd : (srt P).Nodup := (srt_perm P).nodup_iff.mpr hw.nd
      refine ⟨hnd, fun y hy hyE => (hE y hyE).2 (mem_srt.mp hy), ?_⟩
      by_cases hb0 : b = []
      · exact .inl ⟨hb0, nest_wk hl' hc' (hw.free h.1) hg' hE (.inr (.inl fun y hy => mem_srt.mp hy))⟩
      · obtain ⟨y, hy⟩ : ∃ y, b.getLast? = some y := ⟨b.getLast hb0, List.getLast?_eq_some_getLast hb0⟩
        have hyb : y ∈ b := List.mem_of_getLast? hy
        rcases hb with hb | hb | hb
        · exact absurd hb hb0
        · exact .inr (.inl ⟨y, hy, mem_srt.mpr (hb y hyb), fun z hz => mem_srt.mpr (hb z hz), nest_wk hl' hc' (hw.free h.1) hg' hE (.inr (.inl fun y hy => mem_srt.mp hy))⟩)
        · refine .inr (.inr ⟨y, hy, fun z => (hb y hyb).2 (mem_srt.mp z), fun z hz w => (hb z hz).2 (mem_srt.mp w), nest_wk hl' hc' (hw.free h.1) hg' (fun z hz => ?_) (.inr (.inl fun y hy => mem_srt.mp hy))⟩)
          rcases List.mem_append.mp hz with hz | hz
          · exact hE z hz
          · exact hb z hz
    · rw [wk_rec h]
      obtain ⟨_, h1, h2, hg'⟩ := (good_two hw.o0 hg).resolve_left fun z => h ⟨z.1, z.2.1⟩
      rw [hl'] at h2
      have hw' := hw.recd h1 h2
      have hlo := hw.lo
      have hln := hw.ln
      have e : (n : Int) - c + 1 - x = (m : Int) + 1 - x := by omega
      have hlt : (m : Int) + 1 - x < l := by omega
      show Nest E b (wk n (c + 1) x ((if o = 0 then [] else P) ++ between ((n : Int) - c + 1 - x) l) ((n : Int) - c + 1 - x) xs).2
      rw [e]
      have nP : ∀ y, l < y → y ∉ P → y ∉ (if o = 0 then [] else P) ++ between ((m : Int) + 1 - x) l := fun y hy hyP hm => by
        rcases List.mem_append.mp hm with z | z
        · split at z
          · cases z
          · exact hyP z
        · have := mem_between.mp z
          omega
      refine nest_wk hl' hc' hw' hg' (fun y hy => ⟨by have := (hE y hy).1; omega, nP y (hE y hy).1 (hE y hy).2⟩) ?_
      rcases hb with hb | hb | hb
      · exact .inl hb
      · by_cases ho : o = 0
        · refine .inr (.inr fun y hy => ?_)
          have hyl := (hw.pm y (hb y hy)).1
          refine ⟨by omega, fun hm => ?_⟩
          rw [if_pos ho, List.nil_append] at hm
          have := mem_between.mp hm
          omega
        · exact .inr (.inl fun y hy => by rw [if_neg ho]; exact List.mem_append_left _ (hb y hy))
      · exact .inr (.inr fun y hy => ⟨by have := (hb y hy).1; omega, nP y (hb y hy).1 (hb y hy).2⟩)
theorem nest_free {R : List Int} (hg : good 0 R = true) : Nest [] [] (freeR R) := nest_wk rfl (by omega) (Wk.init _) hg (fun x h => nomatch h) (.inl rfl)
/-! ### the choices are the orders -/
def AsgP (ch : List (Int × Int)) : List Int → List (Int × List Int) → List Int → Prop
  | _, [], v => v = []
  | U, q :: r, v => ∃ p v', v = p :: v' ∧ p ∈ q.2 ∧ p ∉ U ∧ okp ch r q.1 p = true ∧ AsgP ch (p :: U) r v'
theorem mem_asg {ch : List (Int × Int)} : ∀ {r : List (Int × List Int)} {U v : List Int}, v ∈ asg ch U r ↔ AsgP ch U r v
  | [], U, v => List.mem_singleton
  | q :: r, U, v => by
    show v ∈ (q.2.filter fun p => !decide (p ∈ U) && okp ch r q.1 p).flatMap (fun p => (asg ch (p :: U) r).map (p :: ·)) ↔ _
    rw [List.mem_flatMap]
    constructor
    · rintro ⟨p, hp, hv⟩
      obtain ⟨v', hv', rfl⟩ := List.mem_map.mp hv
      obtain ⟨h1, h2⟩ := List.mem_filter.mp hp
      rw [Bool.and_eq_true] at h2
      exact ⟨p, v', rfl, h1, by simpa using h2.1, h2.2, mem_asg.mp hv'⟩
    · rintro ⟨p, v', rfl, h1, h2, h3, h4⟩
      exact ⟨p, List.mem_filter.mpr ⟨h1, by rw [Bool.and_eq_true]; exact ⟨by simpa using h2, h3⟩⟩, List.mem_map.mpr ⟨v', mem_asg.mpr h4, rfl⟩⟩
theorem asg_nodup {ch : List (Int × Int)} : ∀ {r : List (Int × List Int)} {U : List Int}, (∀ q, q ∈ r → q.2.Nodup) → (asg ch U r).Nodup
  | [], U, _ => List.pairwise_singleton _ _
  | q :: r, U, h => by
    show ((q.2.filter fun p => !decide (p ∈ U) && okp ch r q.1 p).flatMap fun p => (asg ch (p :: U) r).map (p :: ·)).Nodup
    have hn := (h q List.mem_cons_self).filter fun p => !decide (p ∈ U) && okp ch r q.1 p
    generalize q.2.filter (fun p => !decide (p ∈ U) && okp ch r q.1 p) = T at hn
    induction T with
    | nil => exact List.Pairwise.nil
    | cons p T ih =>
      obtain ⟨h1, h2⟩ := List.nodup_cons.mp hn
      rw [List.flatMap_cons, List.nodup_append]
      refine ⟨?_, ih h2, fun a ha b hb e => ?_⟩
      · rw [List.nodup_iff_pairwise_ne, List.pairwise_map]
        exact (List.nodup_iff_pairwise_ne.mp (asg_nodup fun q hq => h q (List.mem_cons_of_mem _ hq))).imp fun z e => z (List.cons.inj e).2
      · obtain ⟨v, _, rfl⟩ := List.mem_map.mp ha
        obtain ⟨p', hp', hb'⟩ := List.mem_flatMap.mp hb
        obtain ⟨v', _, rfl⟩ := List.mem_map.mp hb'
        have := (List.cons.inj e).1
        exact h1 (by rw [this]; exact hp')
theorem asg_of {ch : List (Int × Int)} {g : Int → Int} : ∀ {r : List (Int × List Int)} {U : List Int}, r.Pairwise (fun p q => p.1 < q.1) → (∀ s, s ∈ r → g s.1 ∈ s.2) → (∀ s, s ∈ r → ∀ s', s' ∈ r → g s.1 = g s'.1 → s.1 = s'.1) → (∀ s, s ∈ r → g s.1 ∉ U) → (∀ s, s ∈ r → ∀ q, chF ch s.1 = some q → g s.1 = q) → AsgP ch U r (r.map fun s => g s.1)
  | [], U, _, _, _, _, _ => rfl
  | q :: r, U, hp, hS, hi, hU, hc => by
    obtain ⟨h1, h2⟩ := List.pairwise_cons.mp hp
    refine ⟨g q.1, r.map fun s => g s.1, rfl, hS q List.mem_cons_self, hU q List.mem_cons_self, ?_, asg_of h2 (fun s hs => hS s (List.mem_cons_of_mem _ hs)) (fun s hs s' hs' => hi s (List.mem_cons_of_mem _ hs) s' (List.mem_cons_of_mem _ hs')) (fun s hs => ?_) fun s hs => hc s (List.mem_cons_of_mem _ hs)⟩
    · unfold okp
      cases e : chF ch q.1 with
      | some p => exact decide_eq_true (hc q List.mem_cons_self p e)
      | none =>
        show (!(r.any fun s => decide (chF ch s.1 = some (g q.1)))) = true
        rw [Bool.not_eq_true', List.any_eq_false]
        intro s hs z
        have e1 := hc s (List.mem_cons_of_mem _ hs) _ (of_decide_eq_true z)
        have := hi s (List.mem_cons_of_mem _ hs) q List.mem_cons_self e1
        have := h1 s hs
        omega
    · intro z
      rcases List.mem_cons.mp z with z | z
      · have := hi s (List.mem_cons_of_mem _ hs) q List.mem_cons_self z
        have := h1 s hs
        omega
      · exact hU s (List.mem_cons_of_mem _ hs) z
/-- what a choice is -/
theorem asgP_at {ch : List (Int × Int)} : ∀ {r : List (Int × List Int)} {U v : List Int}, AsgP ch U r v → v.length = r.length ∧ v.Nodup ∧ (∀ x, x ∈ v → x ∉ U) ∧ ∀ (i : Nat) (s : Int × List Int) (x : Int), r[i]? = some s → v[i]? = some x → x ∈ s.2 ∧ ∀ q, chF ch s.1 = some q → x = q
  | [], U, v, h => by
    rw [show v = [] from h]
    exact ⟨rfl, List.nodup_nil, (fun x h => nomatch h), fun i s x h => by simp at h⟩
  | q :: r, U, v, ⟨p, v', e, h1, h2, h3, h4⟩ => by
    obtain ⟨g1, g2, g3, g4⟩ := asgP_at h4
    subst e
    refine ⟨by rw [List.length_cons, List.length_cons, g1], List.nodup_cons.mpr ⟨fun z => g3 p z List.mem_cons_self, g2⟩, fun x hx => ?_, fun i s x hi hx => ?_⟩
    · rcases List.mem_cons.mp hx with rfl | hx
      · exact h2
      · exact fun z => g3 x hx (List.mem_cons_of_mem _ z)
    · cases i with
      | zero =>
        cases hi
        cases hx
        refine ⟨h1, fun q0 hq0 => ?_⟩
        unfold okp at h3
        rw [hq0] at h3
        exact of_decide_eq_true h3
      | succ j => exact g4 j s x hi hx
end Ln
namespace Ln
/-! ### each row is an order's; the orders with a row and chosen places -/
theorem spots_some {R : List Int} {w : Int} (hg : good 0 R = true) (h1 : 1 ≤ R.length) : ∃ q, q ∈ spotsR R 1 := by
  cases R with
  | nil => cases h1
  | cons x xs =>
    have h : (1, ((x :: xs).length : Int) - 1 + 1 - x) ∈ fixedR (x :: xs) := by
      unfold fixedR
      rw [wk_rec (by omega)]
      exact List.mem_cons_self
    exact ⟨_, by rw [spots_fixed h]; exact List.mem_singleton.mpr rfl⟩
theorem row_order {R : List Int} (hg : good 0 R = true) (h1 : 1 ≤ R.length) (h30 : R.length ≤ 30) : ∃ L, Ord L ∧ L.length = R.length ∧ row .srt L = R := by
  obtain ⟨q, hq⟩ := spots_some (w := 1) hg h1
  obtain ⟨L, h, hl, hr, _⟩ := complete hg h30 (by omega) (by omega) hq
  exact ⟨L, h, hl, hr⟩
def agr (ch : List (Int × Int)) (M : List Int) : Prop := ∀ c p, chF ch c = some p → pos M c = p
open Classical in
noncomputable def fits (R : List Int) (ch : List (Int × Int)) : List (List Int) := (lanesA R.length R.length).filter fun M => decide (row .srt M = R ∧ agr ch M)
open Classical in
theorem mem_fits {R : List Int} {ch : List (Int × Int)} (h1 : 1 ≤ R.length) (h30 : R.length ≤ 30) {M : List Int} : M ∈ fits R ch ↔ Ord M ∧ M.length = R.length ∧ row .srt M = R ∧ agr ch M := by
  unfold fits
  rw [List.mem_filter, decide_eq_true_iff, lanesA_ord h1 h30]
  exact ⟨fun ⟨⟨h1, h2⟩, h3, h4⟩ => ⟨h1, h2, h3, h4⟩, fun ⟨h1, h2, h3, h4⟩ => ⟨⟨h1, h2⟩, h3, h4⟩⟩
theorem fits_lx {R : List Int} {ch : List (Int × Int)} : (fits R ch).Pairwise lx := (lanesA_lx _ _).filter _
theorem pos_ext {L M : List Int} (hL : Ord L) (hM : Ord M) (hl : L.length = M.length) (h : ∀ c, 1 ≤ c → c ≤ (L.length : Int) → pos L c = pos M c) : L = M := by
  refine List.ext_getElem hl fun i h1 h2 => ?_
  have hc := hL.2.2.mem_iff.mp (List.getElem_mem h1)
  have hb := mem_upto.mp hc
  have e := h L[i] hb.1 hb.2
  have e1 := (ord_nodup hL).idxOf_getElem i h1
  have hm : L[i] ∈ M := hM.2.2.mem_iff.mpr (mem_upto.mpr ⟨hb.1, by omega⟩)
  have e2 := List.getElem_idxOf (List.idxOf_lt_length_of_mem hm)
  unfold pos at e
  have e3 : M.idxOf L[i] = i := by omega
  rw [← e2]
  congr 1
theorem chF_zip {c q : Int} : ∀ {cs vs : List Int}, chF (cs.zip vs) c = some q → ∃ i : Nat, cs[i]? = some c ∧ vs[i]? = some q
  | [], vs, h => by cases h
  | a :: cs, [], h => by cases h
  | a :: cs, v :: vs, h => by
    by_cases e : a = c
    · have h' : chF ((a :: cs).zip (v :: vs)) c = some v := by simp [chF, List.find?_cons, e]
      rw [h'] at h
      exact ⟨0, by rw [e]; rfl, h⟩
    · have h' : chF ((a :: cs).zip (v :: vs)) c = chF (cs.zip vs) c := by unfold chF; rw [List.zip_cons_cons, List.find?_cons_of_neg (by simpa using e)]
      rw [h'] at h
      obtain ⟨i, h1, h2⟩ := chF_zip h
      exact ⟨i + 1, h1, h2⟩
theorem zip_chF {c q : Int} : ∀ {cs vs : List Int} {i : Nat}, cs.Nodup → cs[i]? = some c → vs[i]? = some q → chF (cs.zip vs) c = some q
  | [], vs, i, _, h, _ => by simp at h
  | a :: cs, [], i, _, _, h => by simp at h
  | a :: cs, v :: vs, i, hn, h1, h2 => by
    obtain ⟨n1, n2⟩ := List.nodup_cons.mp hn
    cases i with
    | zero =>
      cases h1
      cases h2
      simp [chF, List.find?_cons]
    | succ j =>
      have h1' : cs[j]? = some c := h1
      have e : a ≠ c := fun z => n1 (by rw [z]; exact List.mem_of_getElem? h1')
      have := zip_chF n2 h1' (show vs[j]? = some q from h2)
      unfold chF at this ⊢
      rw [List.zip_cons_cons, List.find?_cons_of_neg (by simpa using e)]
      exact this
section
variable {R : List Int} {ch : List (Int × Int)}
theorem free_pw : (freeR R).Pairwise fun p q => p.1 < q.1 := wk_pw.2
theorem free_bd {s : Int × List Int} (h : s ∈ freeR R) : 1 ≤ s.1 ∧ s.1 ≤ R.length := by
  have h1 := wk_lo.2 s (show s ∈ (wk R.length 1 0 [] ((R.length : Int) + 1) R).2 from h)
  refine ⟨h1, ?_⟩
  have gen : ∀ {xs : List Int} {c o l : Int} {P : List Int} {n : Int}, ∀ q, q ∈ (wk n c o P l xs).2 → q.1 < c + xs.length := by
    intro xs
    induction xs with
    | nil => intro c o l P n q hq; cases hq
    | cons x xs ih =>
      intro c o l P n q hq
      by_cases z : 0 < o ∧ x = 0
      · rw [wk_free z] at hq
        rcases List.mem_cons.mp hq with rfl | hq
        · rw [List.length_cons]; show c < _; omega
        · have := ih q hq
          rw [List.length_cons]; omega
      · rw [wk_rec z] at hq
        have := ih q hq
        rw [List.length_cons]; omega
  have := gen s (show s ∈ (wk R.length 1 0 [] ((R.length : Int) + 1) R).2 from h)
  omega
/-- a choice of places is an order's -/
theorem asg_order (hg : good 0 R = true) (h1 : 1 ≤ R.length) (h30 : R.length ≤ 30) {v : List Int} (hv : AsgP ch [] (freeR R) v) : ∃ M, Ord M ∧ M.length = R.length ∧ row .srt M = R ∧ (freeR R).map (fun s => pos M s.1) = v := by
  obtain ⟨g1, g2, _, g4⟩ := asgP_at hv
  by_cases hf : freeR R = []
  · obtain ⟨L, hL, hl, hr⟩ := row_order hg h1 h30
    refine ⟨L, hL, hl, hr, ?_⟩
    rw [hf] at g1 ⊢
    exact (List.eq_nil_of_length_eq_zero g1).symm
  · let cs := (freeR R).map fun s => s.1
    have hcs : cs.Nodup := by
      rw [List.nodup_iff_pairwise_ne, List.pairwise_map]
      exact free_pw.imp fun z => by omega
    have hcl : cs.length = (freeR R).length := List.length_map ..
    let cv := cs.zip v
    have hat : ∀ w q, chF cv w = some q → ∃ (i : Nat) (s : Int × List Int), (freeR R)[i]? = some s ∧ s.1 = w ∧ v[i]? = some q ∧ q ∈ s.2 := fun w q h => by
      obtain ⟨i, h2, h3⟩ := chF_zip h
      rw [List.getElem?_map] at h2
      obtain ⟨s, hs, rfl⟩ := Option.map_eq_some_iff.mp h2
      exact ⟨i, s, hs, rfl, h3, (g4 i s q hs h3).1⟩
    have hto : ∀ (i : Nat) (s : Int × List Int), (freeR R)[i]? = some s → ∃ x, v[i]? = some x ∧ chF cv s.1 = some x := fun i s hs => by
      have hi := (List.getElem?_eq_some_iff.mp hs).1
      refine ⟨v[i]'(by omega), List.getElem?_eq_getElem (by omega), zip_chF hcs ?_ (List.getElem?_eq_getElem (by omega))⟩
      rw [List.getElem?_map, hs]
      rfl
    have hi : ∀ w w' q, chF cv w = some q → chF cv w' = some q → w = w' := fun w w' q h h' => by
      obtain ⟨i, s, a1, a2, a3, _⟩ := hat w q h
      obtain ⟨j, s', b1, b2, b3, _⟩ := hat w' q h'
      have e : i = j := (List.getElem?_inj (List.getElem?_eq_some_iff.mp a3).1 g2).mp (a3.trans b3.symm)
      rw [e, b1] at a1
      rw [← a2, ← b2, Option.some.inj a1]
    have hb : ∀ w q, chF cv w = some q → 1 ≤ w ∧ w ≤ (R.length : Int) ∧ 1 ≤ q ∧ q ≤ (R.length : Int) ∧ ∃ S, (w, S) ∈ freeR R := fun w q h => by
      obtain ⟨i, s, a1, a2, a3, a4⟩ := hat w q h
      have hs := List.mem_of_getElem? a1
      have hbd := free_bd hs
      have hcan : Can R.length 1 0 [] ((R.length : Int) + 1) R w q := .inr ⟨s.2, by rw [← a2]; exact hs, a4⟩
      have := Can.before (n := R.length) (m := R.length) (c := 1) rfl (by omega) (Wk.init _) hg hcan
      exact ⟨by omega, by omega, this.1, this.2.1, s.2, by rw [← a2]; exact hs⟩
    have hM0 : ∀ w q, chF cv w = some q → Mt R R.length 0 0 [] ((R.length : Int) + 1) (fun _ => 0) w q := fun w q h => by
      obtain ⟨i, s, a1, a2, a3, a4⟩ := hat w q h
      exact Mt.init hg (hb w q h).1 (.inr ⟨s.2, by rw [← a2]; exact List.mem_of_getElem? a1, a4⟩)
    have hx : ∃ w q, chF cv w = some q := by
      obtain ⟨s, hs⟩ := List.exists_mem_of_ne_nil _ hf
      obtain ⟨i, hi⟩ := List.mem_iff_getElem?.mp hs
      obtain ⟨x, _, h⟩ := hto i s hi
      exact ⟨_, _, h⟩
    have hvg : (freeR R).map (fun s => (chF cv s.1).getD 0) = v := by
      refine List.ext_getElem? fun i => ?_
      rw [List.getElem?_map]
      cases e : (freeR R)[i]? with
      | none =>
        have := List.getElem?_eq_none_iff.mp e
        rw [List.getElem?_eq_none (by omega)]
        rfl
      | some s =>
        obtain ⟨x, h2, h3⟩ := hto i s e
        rw [h2]
        show some ((chF cv s.1).getD 0) = some x
        rw [h3]
        rfl
    have hpos : 0 < countW (freeR R) cv := by
      have e := cw_asg (fr := freeR R) (ch := cv) free_pw hi (freeR R) [] [] [] [] 0 1 rfl (nest_free hg) List.nodup_nil (fun x h => nomatch h) rfl fun s hs q hq z => nomatch z
      have e : countW (freeR R) cv = 1 * ((asg cv [] (freeR R)).length : Nat) := e
      have hm : v ∈ asg cv [] (freeR R) := by
        rw [mem_asg, ← hvg]
        refine asg_of (ch := cv) (g := fun c => (chF cv c).getD 0) (r := freeR R) free_pw (fun s hs => ?_) (fun s hs s' hs' z => ?_) (fun s hs z => (nomatch z)) (fun s hs q hq => by rw [hq]; rfl)
        · obtain ⟨i, hi2⟩ := List.mem_iff_getElem?.mp hs
          obtain ⟨x, h2, h3⟩ := hto i s hi2
          rw [h3]
          exact (g4 i s x hi2 h2).1
        · obtain ⟨i, hi2⟩ := List.mem_iff_getElem?.mp hs
          obtain ⟨x, h2, h3⟩ := hto i s hi2
          obtain ⟨j, hj2⟩ := List.mem_iff_getElem?.mp hs'
          obtain ⟨x', h2', h3'⟩ := hto j s' hj2
          rw [h3, h3'] at z
          have z : x = x' := z
          exact hi _ _ x h3 (by rw [z]; exact h3')
      have := List.length_pos_of_mem hm
      omega
    have hcw : 0 < cwGo (freeR R) cv 1 0 [] (wk R.length (((0 : Nat) : Int) + 1) 0 [] ((R.length : Int) + 1) (R.drop 0)).2 := hpos
    obtain ⟨o, l, P, g, hM⟩ := cw_make (n := R.length) rfl hb hi hx R.length 0 0 ((R.length : Int) + 1) [] 1 0 [] (fun _ => 0) (by omega) hM0 (fun s hs => by
      have := (mem_gaps.mp hs).1
      omega) (.inl ⟨rfl, rfl, rfl⟩) (by decide) hcw
    obtain ⟨w0, q0, hw0⟩ := hx
    have B0 := hb w0 q0 hw0
    have D0 := (hM w0 q0 hw0).done rfl h1 h30 ⟨B0.2.2.1, B0.2.2.2.1⟩ B0.2.1
    refine ⟨arrOf R.length g, D0.1, arr_len, D0.2.1, ?_⟩
    rw [← hvg]
    refine List.map_congr_left fun s hs => ?_
    obtain ⟨i, hi2⟩ := List.mem_iff_getElem?.mp hs
    obtain ⟨x, h2, h3⟩ := hto i s hi2
    have B1 := hb s.1 x h3
    have D1 := ((hM s.1 x h3).done rfl h1 h30 ⟨B1.2.2.1, B1.2.2.2.1⟩ B1.2.1).2.2
    obtain ⟨hlt2, e⟩ := List.getElem?_eq_some_iff.mp D1
    have := (ord_nodup D0.1).idxOf_getElem _ hlt2
    rw [e] at this
    rw [h3]
    show pos _ _ = x
    unfold pos
    omega
theorem free_mem_spot {M : List Int} (h : Ord M) {s : Int × List Int} (hs : s ∈ freeR (row .srt M)) : s.1 ∈ M ∧ pos M s.1 ∈ s.2 := by
  have hb := free_bd hs
  have hm : s.1 ∈ M := h.2.2.mem_iff.mpr (mem_upto.mpr ⟨hb.1, by rw [row_len] at hb; exact hb.2⟩)
  have h1 := sound_spots h hm
  rw [spots_free (fun p hp => wk_disj (show (s.1, p) ∈ (wk _ 1 0 [] _ _).1 from hp) hs) hs] at h1
  exact ⟨hm, h1⟩
/-- the count is the number of orders that fit -/
theorem count_fits (hg : good 0 R = true) (h1 : 1 ≤ R.length) (h30 : R.length ≤ 30) (hc : ∀ c q, chF ch c = some q → ∃ S, (c, S) ∈ freeR R) (hi : ∀ c c' q, chF ch c = some q → chF ch c' = some q → c = c') : countW (freeR R) ch = ((fits R ch).length : Nat) := by
  have e := cw_asg (fr := freeR R) (ch := ch) free_pw hi (freeR R) [] [] [] [] 0 1 rfl (nest_free hg) List.nodup_nil (fun x h => nomatch h) rfl fun s hs q hq z => nomatch z
  have e : countW (freeR R) ch = 1 * ((asg ch [] (freeR R)).length : Nat) := e
  rw [e, Int.one_mul]
  congr 1
  have hS : ∀ s, s ∈ freeR R → s.2.Nodup := fun s hs => (free_spots hg hs).1.imp fun z => by omega
  have hF : ∀ M, Ord M → M.length = R.length → row .srt M = R → ∀ s, s ∈ freeR R → s.1 ∈ M ∧ pos M s.1 ∈ s.2 := fun M hM hl hr s hs => by
    have := free_mem_spot hM (s := s) (by rw [hr]; exact hs)
    exact this
  have perm : ((fits R ch).map fun M => (freeR R).map fun s => pos M s.1).Perm (asg ch [] (freeR R)) := by
    refine (List.perm_ext_iff_of_nodup ?_ (asg_nodup hS)).mpr fun v => ?_
    · rw [List.nodup_iff_pairwise_ne, List.pairwise_map]
      refine List.Pairwise.imp_of_mem (fun {M M'} hM hM' (z : M ≠ M') e => z ?_) (List.nodup_iff_pairwise_ne.mp (lx_nodup fits_lx))
      obtain ⟨a1, a2, a3, a4⟩ := (mem_fits h1 h30).mp hM
      obtain ⟨b1, b2, b3, b4⟩ := (mem_fits h1 h30).mp hM'
      refine pos_ext a1 b1 (by omega) fun c hc1 hc2 => ?_
      rcases wk_cover (n := R.length) (xs := R) (c := 1) (o := 0) (l := (R.length : Int) + 1) (P := []) (k := c) (by omega) (by omega) with ⟨p, hp⟩ | ⟨S, hS'⟩
      · have hcM : c ∈ M := a1.2.2.mem_iff.mpr (mem_upto.mpr ⟨hc1, hc2⟩)
        have hcM' : c ∈ M' := b1.2.2.mem_iff.mpr (mem_upto.mpr ⟨hc1, by omega⟩)
        have s1 := sound_spots a1 hcM
        have s2 := sound_spots b1 hcM'
        rw [a3, spots_fixed (show (c, p) ∈ fixedR R from hp)] at s1
        rw [b3, spots_fixed (show (c, p) ∈ fixedR R from hp)] at s2
        rw [List.mem_singleton.mp s1, List.mem_singleton.mp s2]
      · exact List.map_inj_left.mp e (c, S) hS'
    · rw [mem_asg, List.mem_map]
      constructor
      · rintro ⟨M, hM, rfl⟩
        obtain ⟨a1, a2, a3, a4⟩ := (mem_fits h1 h30).mp hM
        refine asg_of (ch := ch) (g := fun c => pos M c) (r := freeR R) free_pw (fun s hs => (hF M a1 a2 a3 s hs).2) (fun s hs s' hs' z => pos_inj (hF M a1 a2 a3 s hs).1 (hF M a1 a2 a3 s' hs').1 z) (fun s hs z => (nomatch z)) (fun s hs q hq => a4 _ _ hq)
      · intro hv
        obtain ⟨M, b1, b2, b3, b4⟩ := asg_order hg h1 h30 hv
        refine ⟨M, (mem_fits h1 h30).mpr ⟨b1, b2, b3, fun c q hcq => ?_⟩, b4⟩
        obtain ⟨S, hS'⟩ := hc c q hcq
        obtain ⟨i, hi2⟩ := List.mem_iff_getElem?.mp hS'
        have := (asgP_at hv).2.2.2 i (c, S) (pos M c) hi2 (by rw [← b4, List.getElem?_map, hi2]; rfl)
        exact this.2 q hcq
  rw [← perm.length_eq, List.length_map]
end
end Ln
namespace Ln
/-! ### the fixed cars are the records; few orders -/
theorem mem_fixed {L : List Int} (h : Ord L) {q : Int × Int} : q ∈ fixedR (row .srt L) ↔ q ∈ records L := by
  have hl : (row .srt L).length = L.length := row_len ..
  rw [mem_records h]
  constructor
  · intro hq
    have hq' : q ∈ (wk (row .srt L).length 1 0 [] (((row .srt L).length : Int) + 1) (row .srt L)).1 := hq
    have h1 := wk_lo.1 q hq'
    have h2 : q.1 < 1 + ((row .srt L).length : Int) := by
      have gen : ∀ {xs : List Int} {c o l : Int} {P : List Int} {n : Int}, ∀ q, q ∈ (wk n c o P l xs).1 → q.1 < c + xs.length := by
        intro xs
        induction xs with
        | nil => intro c o l P n q hq; cases hq
        | cons x xs ih =>
          intro c o l P n q hq
          by_cases z : 0 < o ∧ x = 0
          · rw [wk_free z] at hq
            have := ih q hq
            rw [List.length_cons]; omega
          · rw [wk_rec z] at hq
            rcases List.mem_cons.mp hq with rfl | hq
            · rw [List.length_cons]; show c < _; omega
            · have := ih q hq
              rw [List.length_cons]; omega
      exact gen q hq'
    have hm : q.1 ∈ L := h.2.2.mem_iff.mpr (mem_upto.mpr ⟨h1, by omega⟩)
    have hlm : lmin L q.1 := Classical.byContradiction fun hn => by
      obtain ⟨S, hS, _⟩ := (sound h hm).2 hn
      exact wk_disj (show (q.1, q.2) ∈ (wk _ 1 0 [] _ _).1 from hq) hS
    refine ⟨hlm, ?_⟩
    have s1 := spots_fixed (show (q.1, q.2) ∈ fixedR (row .srt L) from hq)
    have s2 := spots_fixed ((sound h hm).1 hlm)
    rw [s1] at s2
    have := (List.cons.inj s2).1
    unfold pos at this
    omega
  · rintro ⟨h1, h2⟩
    have := (sound h h1.1).1 h1
    have e : pos L q.1 = q.2 := by unfold pos; omega
    rw [e] at this
    exact this
theorem records_pw {L : List Int} : (records L).Pairwise fun p q => p.1 < q.1 := by
  unfold records
  rw [List.pairwise_reverse]
  exact (recs_pw L _ _).imp fun h => h.1
theorem fixed_records {L : List Int} (h : Ord L) : fixedR (row .srt L) = records L := by
  have n1 : (fixedR (row .srt L)).Pairwise fun p q => p.1 < q.1 := wk_pw.1
  have n2 := records_pw (L := L)
  refine List.Perm.eq_of_pairwise (le := fun p q => p.1 < q.1) (fun a b _ _ z1 z2 => absurd z1 (by omega)) n1 n2 ((List.perm_ext_iff_of_nodup ?_ ?_).mpr fun q => mem_fixed h)
  · exact List.nodup_iff_pairwise_ne.mpr (n1.imp fun {a b} z e => by rw [e] at z; omega)
  · exact List.nodup_iff_pairwise_ne.mpr (n2.imp fun {a b} z e => by rw [e] at z; omega)
theorem agr_nil (M : List Int) : agr [] M := fun c p h => nomatch h
/-- how many orders have the row -/
theorem count_rows {R : List Int} (hg : good 0 R = true) (h1 : 1 ≤ R.length) (h30 : R.length ≤ 30) : countW (freeR R) [] = (((lanesA R.length R.length).filter fun M => decide (row .srt M = R)).length : Nat) := by
  rw [count_fits hg h1 h30 (fun c q h => by cases (show (none : Option Int) = some q from h)) (fun c c' q h => by cases (show (none : Option Int) = some q from h))]
  congr 2
  unfold fits
  refine List.filter_congr fun M _ => ?_
  rw [decide_eq_decide]
  exact ⟨fun h => h.1, fun h => ⟨h, agr_nil M⟩⟩
theorem row_lane {R : List Int} (h1 : 1 ≤ R.length) (h30 : R.length ≤ 30) : good 0 R = true ↔ ∃ M, M ∈ lanesA R.length R.length ∧ row .srt M = R := by
  constructor
  · intro hg
    obtain ⟨L, hL, hl, hr⟩ := row_order hg h1 h30
    exact ⟨L, (lanesA_ord h1 h30).mpr ⟨hL, hl⟩, hr⟩
  · rintro ⟨M, hM, rfl⟩
    exact good_row (ord_nodup ((lanesA_ord h1 h30).mp hM).1)
theorem srt_self {P : List Int} (h : P.Pairwise (· ≤ ·)) : srt P = P := (srt_eq (List.Perm.refl _) h).symm
theorem count4 : countW (freeR [2, 0, 2, 0, 0]) [] = 4 := by
  have e : freeR [2, 0, 2, 0, 0] = [(2, srt [4, 5]), (4, srt [4, 5, 2]), (5, srt [4, 5, 2])] := by rfl
  have e1 : srt [4, 5] = [4, 5] := srt_self (by decide)
  have e2 : srt [4, 5, 2] = [2, 4, 5] := (srt_eq (by decide) (by decide)).symm
  rw [e, e1, e2]
  decide +kernel
theorem count29 : countW (freeR (29 :: List.replicate 29 0)) [] = 8841761993739701954543616000000 := by
  have e : freeR (29 :: List.replicate 29 0) = (List.range 29).map fun j : Nat => ((2 : Int) + j, srt (between 1 31)) := by rfl
  have e1 : srt (between 1 31) = between 1 31 := srt_self (by decide +kernel)
  rw [e, e1]
  decide +kernel
end Ln
/-! ### ends of iterators while an exception is handled -/
namespace SyH
open PySem PySem.Spec PySem.Calls PyProof.Rows HotX
section
variable {prog : Program} {w : World} {A : Around} {E : Value → Shared → Prop} {s : Shared} {x1 : Addr}
/-- a StopIteration made and raised, another exception being handled -/
theorem stop_raise {α : Type} {Q : α → Shared → Prop} (hot : HotAt A x1 s.heap)
    (hE : ∀ (g : Heap) (e : Addr), (∀ b o, s.heap.get? b = some o → g.get? b = some o) → (∃ o : Obj, g.get? e = some o ∧ o.cls = .type "StopIteration") → E (.ref e) { s with heap := g }) :
    wpAny (model prog w) A ((newExc (.type "StopIteration") [] >>= fun v => raiseNew v) : Sem α) Q E s := by
  obtain ⟨hh, o1, v1, h1, d1, c1⟩ := hot
  refine wpAny_bind ?_
  simp only [newExc, newTuple]
  refine wpAny_bind (wpAny_newObj_type ?_ (by size_fits))
  refine wpAny_bind (m := firstArgMember _ _) (wpAny_of_eq (a := Value.none) (by first | rfl | (simp only [firstArgMember]; rfl)) (wpAny_newObj_type ?_ (by size_fits)))
  have k1 : ∀ b o, s.heap.get? b = some o → (s.heap.push _).get? b = some o := fun b o e => Heap.get?_push_of_some { cls := .type "tuple", data := .seq ([] : List Value).toArray } e
  have hx := Heap.lt_size (Heap.get?_push_of_some { cls := .type "tuple", data := .seq ([] : List Value).toArray } h1)
  refine raiseNew_hot ⟨hh, o1, v1, Heap.get?_push_of_some _ (k1 _ _ h1), d1, c1⟩ (Nat.ne_of_lt hx) (Heap.get?_push_size _ rfl) rfl (by first | (simp only [Array.size_append]; simp; omega) | (simp; omega)) ?_
  refine hE _ _ (fun b o e => ?_) ⟨_, Heap.get?_update_self _ (Heap.get?_push_size _ rfl) rfl, rfl⟩
  have e2 := k1 b o e
  rw [Heap.get?_update_other _ _ (Nat.ne_of_gt (Heap.lt_size e2))]
  exact Heap.get?_push_of_some _ e2
theorem _root_.HotX.HotAt.upd {h : Heap} {it : Addr} {o : Obj} {vs : Array Value} {f : Obj → Obj} (hot : HotAt A x1 h) (e : h.get? it = some o) (d : o.data = .fields vs) (hz : vs.size ≤ 2) : HotAt A x1 (h.update it f) := by
  obtain ⟨hh, o1, v1, h1, d1, c1⟩ := hot
  refine ⟨hh, o1, v1, ?_, d1, c1⟩
  rw [Heap.get?_update_other _ _ (fun z => ?_)]
  · exact h1
  · rw [← z, e] at h1
    cases h1
    rw [d] at d1
    cases d1
    have := (Array.getElem?_eq_some_iff.mp c1).1
    omega
/-- a list's iterator at its end -/
theorem nextOf_end {it l : Addr} {i : Nat} {items : Array Value} {Q : Value → Shared → Prop} (hot : HotAt A x1 s.heap) (hit : s.heap.IsListIter it l i) (hl : s.heap.IsList l items) (hx : items[i]? = none)
    (hE : ∀ (g : Heap) (e : Addr), Heap.ExtBut it s.heap g → (∃ o : Obj, g.get? e = some o ∧ o.cls = .type "StopIteration") → E (.ref e) { s with heap := g }) :
    wpAny (model prog w) A (Builtin.SmallTypes.nextOf (.ref it)) Q E s := by
  obtain ⟨oi, ei, ci, di⟩ := id hit
  obtain ⟨ol, el, _, nl, dl⟩ := hl
  unfold Builtin.SmallTypes.nextOf
  refine wpAny_bind (wpAny_callSpecial?_slot hit.typeIs slot_listiter_next (wpAny_call_entry slot_listiter_next hit.typeIs entry_listiter_next ?_ (args_listiter_next _)))
  refine wpAny_bind (wpAny_pure (wpAny_bind (wpAny_field ei di (x := .ref l) rfl ?_)))
  rw [if_neg (show ¬ ((Value.ref l == Value.none) = true) from Bool.false_ne_true)]
  refine wpAny_bind (wpAny_field ei di (x := .int i 0) rfl (wpAny_bind (wpAny_seqItems el dl ?_)))
  simp only [Int.toNat_natCast, hx]
  refine wpAny_bind (wpAny_rule (wpAny_bind (wpAny_setField ei di (by simp) ?_)))
  refine stop_raise (s := { s with heap := _ }) (hot.upd ei di (by simp)) fun g e k q => hE g e (fun b o hb eb => ?_) q
  exact k b o ((Heap.get?_update_other _ _ (Ne.symm hb)).trans eb)
/-- a tuple's iterator at its end -/
theorem pyNext_tup_end {it l : Addr} {i : Nat} {items : Array Value} {Q : Option Value → Shared → Prop} (hot : HotAt A x1 s.heap) (hit : IsTupIter s.heap it l i) (hl : IsTup s.heap l items) (hx : items[i]? = none)
    (hQ : ∀ g : Heap, Heap.ExtBut it s.heap g → Q none { s with heap := g }) : wpAny (model prog w) A (pyNext (.ref it)) Q E s := by
  obtain ⟨oi, ei, ci, di⟩ := id hit
  obtain ⟨ol, el, _, nl, dl⟩ := hl
  unfold pyNext
  refine wpAny_bind (wpAny_attempt (wpAny_callSpecial?_slot hit.typeIs PySem.F.slot_tuple_iterator_next (wpAny_call_entry PySem.F.slot_tuple_iterator_next hit.typeIs PySem.F.entry_tuple_iterator_next ?_ (PySem.F.args_tuple_iterator_next_1 _))))
  refine wpAny_bind (wpAny_pure (wpAny_bind (wpAny_field ei di (x := .ref l) rfl ?_)))
  rw [if_neg (show ¬ ((Value.ref l == Value.none) = true) from Bool.false_ne_true)]
  refine wpAny_bind (wpAny_field ei di (x := .int i 0) rfl (wpAny_bind (wpAny_seqItems el dl ?_)))
  simp only [Int.toNat_natCast, hx]
  refine wpAny_bind (wpAny_rule (wpAny_bind (wpAny_setField ei di (by simp) ?_)))
  refine stop_raise (s := { s with heap := _ }) (hot.upd ei di (by simp)) fun g e k q => ?_
  obtain ⟨o, ho, hc⟩ := q
  refine wpAny_bind (wpAny_isInstance (T := "StopIteration") (b := true) ⟨o, ho, hc⟩ isSubtype_stop (wpAny_pure (hQ g fun b ob hb eb => ?_)))
  exact k b ob ((Heap.get?_update_other _ _ (Ne.symm hb)).trans eb)
/-- a tuple unpacked -/
theorem unpack_tup {t : Addr} {items : Array Value} {targets : List (Bool × (Value → Sem Unit))} {Q : Unit → Shared → Prop} (hot : HotAt A x1 s.heap) (ht : IsTup s.heap t items) (hn : targets.length = items.size) (hstar : targets.findIdx? (·.1) = none)
    (h : ∀ g : Heap, Heap.ExtBut s.heap.objs.size s.heap g → wpAny (model prog w) A (assignInOrder (targets.map (·.2)) items.toList) Q E { s with heap := g }) : wpAny (model prog w) A (unpack (.ref t) targets) Q E s := by
  have hlt : t ≠ s.heap.objs.size := by obtain ⟨o, ho, _⟩ := ht; exact Nat.ne_of_lt (Heap.lt_size ho)
  unfold unpack unpackItems notIterableAtAll
  rw [hn, hstar]
  refine wpAny_bind (wpAny_holding (wpAny_bind (wpAny_bind (wpAny_specialOf ht.typeIs slot_tuple_iter.lookup (wpAny_pure ?_)))))
  simp only [Bool.false_eq_true, if_false]
  refine wpAny_bind (wpAny_holding (iter_tuple ht (wpAny_bind (wpAny_holding ?_))))
  refine draw_tuple hlt items.size 0 _ _ ⟨_, Heap.get?_push_size _ rfl, rfl, rfl⟩ (ht.push _) (by omega) fun g1 hit1 sb1 => ?_
  have eall : (items.toList.drop 0).take items.size = items.toList := by rw [List.drop_zero]; exact List.take_of_length_le (by simp)
  rw [eall, if_neg (by simp)]
  have hot1 : HotAt A x1 g1 := by
    obtain ⟨hh, o1, v1, h1, d1, c1⟩ := hot
    exact ⟨hh, o1, v1, sb1.extBut _ _ (Nat.ne_of_lt (Heap.lt_size h1)) (Heap.get?_push_of_some _ h1), d1, c1⟩
  refine wpAny_bind (wpAny_holding (pyNext_tup_end (s := { s with heap := g1 }) hot1 hit1 ((ht.push _).extBut sb1.extBut hlt) (by simp) fun g2 sb2 => ?_))
  simp only [Option.isSome_none, Bool.false_eq_true, if_false]
  exact wpAny_pure (h g2 fun b o hb e => sb2 b o hb (sb1.extBut b o hb (Heap.get?_push_of_some _ e)))
/-- zip of two lists at its end, the first ends -/
theorem pyNext_zip_over {z TI TO i1 i2 l1 l2 : Addr} {k1 : Nat} {xs : Array Value} {a b : Value} {Q : Option Value → Shared → Prop} (hot : HotAt A x1 s.heap) (D : ZipApart z TI TO i1 i2 l1 l2)
    (hz : IsZip s.heap z TI TO .none) (hTI : IsPair s.heap TI (.ref i1) (.ref i2)) (hTO : IsPair s.heap TO a b) (h1 : s.heap.IsListIter i1 l1 k1) (hl1 : s.heap.IsList l1 xs) (hx : xs[k1]? = none)
    (hxz : x1 ≠ z) (hQ : ∀ g : Heap, (∀ c o, c ≠ z → c ≠ i1 → s.heap.get? c = some o → g.get? c = some o) → Q none { s with heap := g }) : wpAny (model prog w) A (pyNext (.ref z)) Q E s := by
  have hTy : s.TypeIs (.ref z) "zip" := ⟨_, hz, rfl⟩
  unfold pyNext
  refine wpAny_bind (wpAny_attempt (wpAny_callSpecial?_slot hTy PySem.F.slot_zip_next (wpAny_call_entry PySem.F.slot_zip_next hTy PySem.F.entry_zip_next ?_ (PySem.F.args_zip_next_1 _))))
  refine wpAny_bind (wpAny_pure (wpAny_bind (wpAny_field hz rfl (x := .bool false) rfl ?_)))
  refine wpAny_bind (wpAny_field hz rfl (x := .ref TI) rfl (wpAny_bind (wpAny_seqItems hTI rfl (wpAny_bind ?_))))
  unfold Builtin.SmallTypes.ownedTupleIsFree
  refine wpAny_bind (wpAny_field hz rfl (x := .none) rfl (wpAny_pure ?_))
  simp only [if_true]
  refine wpAny_bind (wpAny_rule (wpAny_bind (wpAny_field hz rfl (x := .ref TO) rfl (wpAny_bind (wpAny_setField_rec hz (by simp) fun g1 hz1 sb1 => ?_)))))
  replace hz1 : IsZip g1 z TI TO .ellipsis := hz1
  have hot1 : HotAt A x1 g1 := by
    obtain ⟨hh, o1, v1, q1, d1, c1⟩ := hot
    exact ⟨hh, o1, v1, sb1.extBut _ _ hxz q1, d1, c1⟩
  refine wpAny_bind ?_
  simp only [List.zipIdx_cons, List.zipIdx_nil, List.forIn_cons, List.forIn_nil]
  refine wpAny_bind (wpAny_bind (wpAny_onRaise ?_))
  refine wpAny_bind (nextOf_end (s := { s with heap := g1 }) hot1 (h1.extBut sb1.extBut D.i1z) (hl1.extBut sb1.extBut D.l1z) hx fun g2 e sb2 he => ?_)
  obtain ⟨oe, hoe, hce⟩ := he
  have hz2 : IsZip g2 z TI TO .ellipsis := sb2 _ _ D.i1z.symm hz1
  have hez : e ≠ z := fun q => by
    subst q
    rw [hz2] at hoe
    cases hoe
    simp at hce
  refine wpAny_setField_rec hz2 (by simp) fun g3 _ sb3 => ?_
  refine wpAny_bind (wpAny_isInstance (T := "StopIteration") (b := true) ⟨oe, sb3.extBut _ _ hez hoe, hce⟩ isSubtype_stop (wpAny_pure (hQ g3 fun c o c1 c2 q => ?_)))
  exact sb3.extBut _ _ c1 (sb2 _ _ c2 (sb1.extBut _ _ c1 q))
end
end SyH
/-! ### [x for x, y in zip(..) if y] while an exception is handled -/
namespace SyH
open PySem PySem.Spec PySem.Calls PyProof.Rows L2 HotX L2H
/-- the items that are marked -/
def pk {α : Type} (ws : List α) (bs : List Bool) : List α := ((ws.zip bs).filter fun p => p.2).map (·.1)
theorem pk_step {α : Type} {ws : List α} {bs : List Bool} {i : Nat} {x : α} {b : Bool} (h1 : ws[i]? = some x) (h2 : bs[i]? = some b) : pk (ws.take (i + 1)) (bs.take (i + 1)) = if b = true then pk (ws.take i) (bs.take i) ++ [x] else pk (ws.take i) (bs.take i) := by
  have l1 := (List.getElem?_eq_some_iff.mp h1).1
  have l2 := (List.getElem?_eq_some_iff.mp h2).1
  unfold pk
  rw [List.take_add_one, List.take_add_one, h1, h2, Option.toList_some, Option.toList_some, List.zip_append (by rw [List.length_take, List.length_take]; omega), List.filter_append, List.map_append]
  cases b with
  | true => rfl
  | false => exact List.append_nil _
section
variable {X : Cx} {pins : List (Addr × Obj)} {σ : L2.St} {H : Hp} {s : Shared} {Q : VK}
/-- the zip's own objects at turn i -/
def ZSt (l1 l2 z TI TO i1 i2 : Addr) (i : Nat) (h : Heap) : Prop := IsZip h z TI TO .none ∧ IsPair h TI (.ref i1) (.ref i2) ∧ (∃ x y, IsPair h TO x y) ∧ h.IsListIter i1 l1 i ∧ h.IsListIter i2 l2 i
theorem ZSt.obj {l1 l2 z TI TO i1 i2 : Addr} {i : Nat} {h : Heap} (q : ZSt l1 l2 z TI TO i1 i2 i h) : ∀ b, b ∈ [z, TI, TO, i1, i2] → ∃ o, h.get? b = some o ∧ ∀ v, o.data ≠ .cell v := fun b hb => by
  obtain ⟨q1, q2, ⟨x, y, q3⟩, ⟨o4, e4, _, d4⟩, ⟨o5, e5, _, d5⟩⟩ := q
  simp only [List.mem_cons, List.not_mem_nil, or_false] at hb
  rcases hb with rfl | rfl | rfl | rfl | rfl
  · exact ⟨_, q1, fun v e => nomatch e⟩
  · exact ⟨_, q2, fun v e => nomatch e⟩
  · exact ⟨_, q3, fun v e => nomatch e⟩
  · exact ⟨o4, e4, fun v e => by rw [d4] at e; cases e⟩
  · exact ⟨o5, e5, fun v e => by rw [d5] at e; cases e⟩
theorem ZSt.keep {l1 l2 z TI TO i1 i2 : Addr} {i : Nat} {h h' : Heap} (q : ZSt l1 l2 z TI TO i1 i2 i h) (k : ∀ b, b ∈ [z, TI, TO, i1, i2] → ∀ o, h.get? b = some o → h'.get? b = some o) : ZSt l1 l2 z TI TO i1 i2 i h' := by
  obtain ⟨q1, q2, ⟨x, y, q3⟩, q4, q5⟩ := q
  exact ⟨k z (by simp) _ q1, k TI (by simp) _ q2, ⟨x, y, k TO (by simp) _ q3⟩, q4.at fun o e => k i1 (by simp) o e, q5.at fun o e => k i2 (by simp) o e⟩
theorem lcZ_loop {x y : Str} {ia ib : Nat} {e1 e2 : Expr} {scope : Scope} {p pz px py pt ptt pe pos : Pos} {kt : Nat} {tt : TT} {use : Option (Value → Sem Unit)} {Qf : Value → Shared → Prop} {s2 : Shared} {H1 : Hp} {l1 l2 z TI TO i1 i2 : Addr} {ws : List V} {bs : List Bool}
    (hotc : HotC X) (I2 : Inv X pins σ H1 s2) (ok : BlkOk X.N X.env.scope scope [(x, ia), (y, ib)]) (hN : X.N.Nodup) (hab : ia ≠ ib)
    (hnx : ∀ (s : Shared) (H : Hp) (C : Addr) (cl : List (Str × Addr)) (fp : List Addr), PG (X.blk s H scope (compEnvC scope cl C X.env) fp) (.Name x px) (gName ia)) (hny : ∀ (s : Shared) (H : Hp) (C : Addr) (cl : List (Str × Addr)) (fp : List Addr), PG (X.blk s H scope (compEnvC scope cl C X.env) fp) (.Name y py) (gName ib))
    (ht : ∀ (s : Shared) (H : Hp) (C : Addr) (cl : List (Str × Addr)) (fp : List Addr), PTs (X.blk s H scope (compEnvC scope cl C X.env) fp) [.Name y pt] tt) (htt : ∀ (σ : L2.St) (H : Hp) (b : Bool) (Q : Bool → Hp → Prop), σ[ib]? = some (some (.bl b)) → Q b H → tt σ H Q)
    (he : ∀ (s : Shared) (H : Hp) (C : Addr) (cl : List (Str × Addr)) (fp : List Addr), PE (X.blk s H scope (compEnvC scope cl C X.env) fp) (.Name x pe) (tVar ia))
    (hes : ∀ (s : Shared) (H : Hp) (C : Addr) (cl : List (Str × Addr)) (fp : List Addr), (assignEach [.Name x px, .Name y py] (X.blk s H scope (compEnvC scope cl C X.env) fp).env).length = 2 ∧ (assignEach [.Name x px, .Name y py] (X.blk s H scope (compEnvC scope cl C X.env) fp).env).findIdx? (·.1) = none)
    (ap : ZipApart z TI TO i1 i2 l1 l2) (zs : ZSt l1 l2 z TI TO i1 i2 0 s2.heap) (hf : ∀ b, b ∈ [z, TI, TO, i1, i2] → FpOk X pins H1 b) (hq1 : SqL X.K H1 l1 ws) (hq2 : SqL X.K H1 l2 (bs.map V.bl)) (hlen : ws.length = bs.length) (hle : ws.length ≤ 1000)
    (q : ∀ D, H1 D = none → Q (.ref D) (upd H1 D (.lst (pk ws bs))))
    (hRR : ∀ D C s' m H', Inv X pins σ H' s' → Q (.ref D) H' → s'.heap.Ns C m → FpOk X pins H' C → compPost (model X.prog X.w) X.A X.xe use Qf (.ref D) C (.ok .next) s') :
    wpAny (model X.prog X.w) X.A (newList []) (fun acc s₃ => wpAny (model X.prog X.w) X.A (newFunctionEnv scope X.env.globals (cloFrom X.env.cells scope.names []) [] X.env.qual none Value.none (some X.env)) (fun cenv s₄ => codeAny (model X.prog X.w) X.A (Code.compStart
      (.ListComp (.Name x pe) [⟨.Tuple [.Name x px, .Name y py] kt ptt, .Call (.Name "zip" p) [e1, e2] [] pz, [.Name y pt], 0⟩] scope pos) 0 (Value.ref z) acc { cenv with scope := relabel scope X.env }) (compPost (model X.prog X.w) X.A X.xe use Qf acc cenv.locals) s₄) X.xe s₃) X.xe s2 := by
  have hfree : ∀ u ∈ scope.names, u.2 = .free → ∃ c, X.env.cells.lookup u.1 = some c := fun u hu e => (ok.free u hu e).elim (fun k => I2.ok.has _ (.inl k)) fun k => I2.ok.has _ (.inr k)
  refine wpAny_newObj_type (newEnv_comp ?_) (by show 0 ≤ sizeLine; decide)
  generalize hD : s2.heap.objs.size = D
  have hDn : H1 D = none := I2.hok.fresh (Nat.le_of_eq hD)
  generalize hs3 : ({ s2 with heap := s2.heap.push { cls := .type "list", data := .seq ([] : List Value).toArray } } : Shared) = s3
  have h3 : s3.heap = s2.heap.push { cls := .type "list", data := .seq ([] : List Value).toArray } := by rw [← hs3]
  have k3 : ∀ b o, s2.heap.get? b = some o → s3.heap.get? b = some o := fun b o e => by rw [h3]; exact Heap.get?_push_of_some _ e
  have I3 : Inv X pins σ (upd H1 D (.lst [])) s3 := by
    rw [← hs3]
    refine I2.laid (t' := s2.toks) (fun b o e => Heap.get?_push_of_some _ e) (Nat.le_of_eq hD) ⟨Nat.zero_le _, [], 0, .nil, ?_⟩
    rw [← hD]
    exact Heap.get?_push_size _ rfl
  have below : ∀ b, b ∈ [z, TI, TO, i1, i2] → b < s2.heap.objs.size := fun b hb => by
    obtain ⟨o, e, _⟩ := zs.obj b hb
    exact Heap.lt_size e
  have f3 : ∀ b ∈ [z, TI, TO, i1, i2], FpOk X pins (upd H1 D (.lst [])) b ∧ b < s3.heap.objs.size := fun b hb => by
    have hlt := below b hb
    refine ⟨⟨?_, (hf b hb).2⟩, by rw [h3, Heap.size_push]; exact Nat.lt_succ_of_lt hlt⟩
    rw [upd_ne (by rw [← hD]; exact Nat.ne_of_lt hlt)]
    exact (hf b hb).1
  have z3 : ZSt l1 l2 z TI TO i1 i2 0 s3.heap := zs.keep fun b _ o e => k3 b o e
  -- the exception that is handled
  obtain ⟨pe0, ⟨hh, v1, ev1, ec1⟩, hpn⟩ := hotc
  have P3 := I3.pin pe0 (List.mem_append_left _ hpn)
  have nfr : pe0.1 ∉ frs X.stack := fun hm => (List.mem_cons.mp (I3.stkSub pe0.1 hm)).elim P3.2.2.1 P3.2.2.2.1
  have nfp : pe0.1 ∉ [z, TI, TO, i1, i2] := fun hm => (hf pe0.1 hm).2.2.2.2.2 pe0 (List.mem_append_left _ hpn) rfl
  have I4 := block_start I3 ok hN f3
  have gx := hnx s3 (upd H1 D (.lst [])) s3.heap.objs.size (cellsFrom (s3.heap.objs.size + 1) scope.names (cloFrom X.env.cells scope.names [])) [z, TI, TO, i1, i2]
  have gy := hny s3 (upd H1 D (.lst [])) s3.heap.objs.size (cellsFrom (s3.heap.objs.size + 1) scope.names (cloFrom X.env.cells scope.names [])) [z, TI, TO, i1, i2]
  have gt := ht s3 (upd H1 D (.lst [])) s3.heap.objs.size (cellsFrom (s3.heap.objs.size + 1) scope.names (cloFrom X.env.cells scope.names [])) [z, TI, TO, i1, i2]
  have ge := he s3 (upd H1 D (.lst [])) s3.heap.objs.size (cellsFrom (s3.heap.objs.size + 1) scope.names (cloFrom X.env.cells scope.names [])) [z, TI, TO, i1, i2]
  have gn := hes s3 (upd H1 D (.lst [])) s3.heap.objs.size (cellsFrom (s3.heap.objs.size + 1) scope.names (cloFrom X.env.cells scope.names [])) [z, TI, TO, i1, i2]
  show codeAny _ _ (.compStart _ 0 (.ref z) (.ref D) (compEnvC scope (cellsFrom (s3.heap.objs.size + 1) scope.names (cloFrom X.env.cells scope.names [])) s3.heap.objs.size X.env)) (compPost (model X.prog X.w) X.A X.xe use Qf (.ref D) s3.heap.objs.size) { s3 with heap := pushCells (s3.heap.push { cls := .type "dict", data := .dict #[] }) scope.names }
  generalize hce : compEnvC scope (cellsFrom (s3.heap.objs.size + 1) scope.names (cloFrom X.env.cells scope.names [])) s3.heap.objs.size X.env = ce at I4 gx gy gt ge gn ⊢
  have cL : ce.locals = s3.heap.objs.size := by subst hce; rfl
  generalize hs4 : ({ s3 with heap := pushCells (s3.heap.push { cls := .type "dict", data := .dict #[] }) scope.names } : Shared) = s4 at I4 ⊢
  have z4 : ZSt l1 l2 z TI TO i1 i2 0 s4.heap := z3.keep fun b _ o e => by rw [← hs4]; exact pushCells_keeps _ _ _ _ (Heap.get?_push_of_some _ e)
  have stat : ∀ {σ' : L2.St} {H' : Hp} {s' : Shared}, Inv (X.blk s3 (upd H1 D (.lst [])) scope ce [z, TI, TO, i1, i2]) [] σ' H' s' → (∀ b, b ∈ [z, TI, TO, i1, i2] → H' b = none) → ∀ b, b ∈ [z, TI, TO, i1, i2] → FpOk (X.blk s3 (upd H1 D (.lst [])) scope ce [z, TI, TO, i1, i2]) [] H' b := fun {σ' H' s'} J hn b hb =>
    ⟨hn b hb, (J.ok.exf b hb).1, J.ok.exfs b hb, .inl hb, fun u c e => (J.ok.exf b hb).2 u c e, fun r hr => absurd (show r ∈ ([] : List (Addr × Obj)) ++ [] from hr) (by simp)⟩
  have nH : ∀ (acc : List V) b, b ∈ [z, TI, TO, i1, i2] → (upd H1 D (.lst acc)) b = none := fun acc b hb => by
    rw [upd_ne (by rw [← hD]; exact Nat.ne_of_lt (below b hb))]
    exact (hf b hb).1
  have loop : codeAny (model X.prog X.w) X.A (.compLoop (.ListComp (.Name x pe) [⟨.Tuple [.Name x px, .Name y py] kt ptt, .Call (.Name "zip" p) [e1, e2] [] pz, [.Name y pt], 0⟩] scope pos) 0 (.ref z) (.ref D) ce) (compPost (model X.prog X.w) X.A X.xe use Qf (.ref D) s3.heap.objs.size) s4 := by
    refine compLoop_any (fun n s' => ∃ i : Nat, n = ws.length - i ∧ i ≤ ws.length ∧ Inv (X.blk s3 (upd H1 D (.lst [])) scope ce [z, TI, TO, i1, i2]) [] (wipe σ [ia, ib]) (upd H1 D (.lst (pk (ws.take i) (bs.take i)))) s' ∧ ZSt l1 l2 z TI TO i1 i2 i s'.heap) ?_ ws.length ⟨0, rfl, Nat.zero_le _, I4, z4⟩
    rintro n s5 ⟨i, rfl, hi, I5, z5⟩
    have hot5 : HotAt X.A pe0.1 s5.heap := ⟨hh, pe0.2, v1, I5.base.keep pe0.1 pe0.2 P3.1 P3.2.1 nfr nfp, ev1, ec1⟩
    have n5 := nH (pk (ws.take i) (bs.take i))
    have st5 := stat I5 n5
    obtain ⟨its1, rv1, p1, _⟩ := I5.list (Sy.sqL_same (Sy.same_new hDn) hq1)
    obtain ⟨its2, rv2, p2, _⟩ := I5.list (Sy.sqL_same (Sy.same_new hDn) hq2)
    have le1 := rv1.length
    obtain ⟨zz, zTI, ⟨u0, w0, zTO⟩, zi1, zi2⟩ := id z5
    by_cases hlt : i < ws.length
    · obtain ⟨a1, ea1⟩ : ∃ a1, ws[i]? = some a1 := ⟨_, List.getElem?_eq_getElem hlt⟩
      obtain ⟨b1, eb1⟩ : ∃ b1, bs[i]? = some b1 := ⟨_, List.getElem?_eq_getElem (by omega)⟩
      obtain ⟨u1, hu1, ru1⟩ := rv1.get ea1
      obtain ⟨u2, hu2, ru2⟩ := rv2.get (show (bs.map V.bl)[i]? = some (.bl b1) by rw [List.getElem?_map, eb1]; rfl)
      have zl : z < s5.heap.objs.size := Heap.lt_size zz
      refine wpAny_pyNext_zip_item ap zz zTI zTO zi1 zi2 p1.isList p2.isList (x := u1) (y := u2) (by simpa using hu1) (by simpa using hu2) fun g1 zz1 zTO1 zi11 zi21 hT hsz k1 => ?_
      refine wpAny_letOwnedTupleGo_zip (s := { s5 with heap := g1 }) zz1 fun g2 zz2 sb => ?_
      have hT2 : IsTup g2 s5.heap.objs.size #[u1, u2] := ⟨_, (sb.2 _ (Nat.ne_of_gt zl)).trans hT, rfl, _, rfl⟩
      have z7 : ZSt l1 l2 z TI TO i1 i2 (i + 1) g2 := ⟨zz2, (sb.2 _ ap.TIz).trans (k1 _ _ ap.TIz ap.TITO ap.TIi1 ap.TIi2 zTI), ⟨u1, u2, (sb.2 _ ap.TOz).trans zTO1⟩, zi11.at fun o e => (sb.2 _ ap.i1z).trans e, zi21.at fun o e => (sb.2 _ ap.i2z).trans e⟩
      have I7 : Inv (X.blk s3 (upd H1 D (.lst [])) scope ce [z, TI, TO, i1, i2]) [] (wipe σ [ia, ib]) (upd H1 D (.lst (pk (ws.take i) (bs.take i)))) { s5 with heap := g2 } :=
        I5.turnedL (t' := s5.toks) (ch := [z, TI, TO, i1, i2]) (fun c o hb e => by
          simp only [List.mem_cons, List.not_mem_nil, or_false, not_or] at hb
          exact (sb.2 c hb.1).trans (k1 c o hb.1 hb.2.2.1 hb.2.2.2.1 hb.2.2.2.2 e)) st5
      have J7 := I7.pinned (stat I7 n5) z7.obj
      have hot7 : HotAt X.A pe0.1 g2 := ⟨hh, pe0.2, v1, I7.base.keep pe0.1 pe0.2 P3.1 P3.2.1 nfr nfp, ev1, ec1⟩
      rw [PyProof.Rows.assign_Tuple]
      refine wpAny_bind (wpAny_standAt ?_)
      refine unpack_tup (s := { s5 with heap := g2 }) hot7 hT2 (by rw [gn.1]; rfl) gn.2 fun g3 k3' => ?_
      have J8 : Inv (X.blk s3 (upd H1 D (.lst [])) scope ce [z, TI, TO, i1, i2]) ([] ++ pinsAt [z, TI, TO, i1, i2] g2) (wipe σ [ia, ib]) (upd H1 D (.lst (pk (ws.take i) (bs.take i)))) { s5 with heap := g3 } := J7.kept (t' := s5.toks) fun b o e => k3' b o (Nat.ne_of_lt (Heap.lt_size e)) e
      have lσ : σ.length = X.N.length := I3.len
      have ixa : ia < σ.length := by rw [lσ]; exact (List.getElem?_eq_some_iff.mp (ok.ix (x, ia) (by simp))).1
      have ixb : ib < σ.length := by rw [lσ]; exact (List.getElem?_eq_some_iff.mp (ok.ix (y, ib) (by simp))).1
      have la : (((wipe σ [ia, ib]).set ia (some a1)).set ib (some (.bl b1)))[ia]? = some (some a1) := by
        rw [List.getElem?_set_ne (Ne.symm hab), List.getElem?_set_self (by rw [wipe_length]; exact ixa)]
      have lb : (((wipe σ [ia, ib]).set ia (some a1)).set ib (some (.bl b1)))[ib]? = some (some (.bl b1)) := by
        rw [List.getElem?_set_self (by rw [List.length_set, wipe_length]; exact ixb)]
      have lw : wipe (((wipe σ [ia, ib]).set ia (some a1)).set ib (some (.bl b1))) [ia, ib] = wipe σ [ia, ib] := by
        rw [Sy.wipe_set (by simp), Sy.wipe_set (by simp)]
        show wipe ((σ.set ib none).set ia none) [ia, ib] = _
        rw [Sy.wipe_set (by simp), Sy.wipe_set (by simp)]
      refine thnF ((pgs_cons gx (pgs_cons gy pgs_nil)).run _ { s5 with heap := g3 } (wipe σ [ia, ib]) _ [a1, .bl b1] [u1, u2] (fun σ' H' => σ' = ((wipe σ [ia, ib]).set ia (some a1)).set ib (some (.bl b1)) ∧ H' = upd H1 D (.lst (pk (ws.take i) (bs.take i)))) J8 (.cons ru1 (.cons ru2 .nil)) ⟨a1, _, rfl, .bl b1, _, rfl, rfl, rfl, rfl⟩) fun _ s8 hh8 => ?_
      obtain ⟨σ8, H8, I8, e8, eH8⟩ := hh8
      subst e8 eH8
      refine thnF (gt.run _ s8 _ _ (fun b H' => b = b1 ∧ H' = upd H1 D (.lst (pk (ws.take i) (bs.take i)))) I8 (htt _ _ b1 _ lb ⟨rfl, rfl⟩)) fun b s9 hh9 => ?_
      obtain ⟨H9, I9, eb9, eH9⟩ := hh9
      subst eb9 eH9
      have fin : ∀ {s' : Shared}, Inv (X.blk s3 (upd H1 D (.lst [])) scope ce [z, TI, TO, i1, i2]) ([] ++ pinsAt [z, TI, TO, i1, i2] g2) (((wipe σ [ia, ib]).set ia (some a1)).set ib (some (.bl b))) (upd H1 D (.lst (pk (ws.take (i + 1)) (bs.take (i + 1))))) s' →
          ∃ m, m < ws.length - i ∧ ∃ j : Nat, m = ws.length - j ∧ j ≤ ws.length ∧ Inv (X.blk s3 (upd H1 D (.lst [])) scope ce [z, TI, TO, i1, i2]) [] (wipe σ [ia, ib]) (upd H1 D (.lst (pk (ws.take j) (bs.take j)))) s' ∧ ZSt l1 l2 z TI TO i1 i2 j s'.heap := fun {s'} J => by
        refine ⟨ws.length - (i + 1), by omega, i + 1, rfl, hlt, (J.unpinned (pins := [])).weak ?_ (fun j v e => ?_), z7.keep fun c hc o e => (J.pin (c, o) (List.mem_append_right _ (List.mem_append_right _ (mem_pinsAt hc e)))).1⟩
        · rw [List.length_set, List.length_set]
        · rw [← lw] at e
          exact (wipe_some e).1
      have step := pk_step ea1 eb1
      cases b with
      | false =>
        rw [if_neg Bool.false_ne_true]
        rw [if_neg Bool.false_ne_true] at step
        exact fin (by rw [step]; exact I9)
      | true =>
        rw [if_pos rfl]
        rw [if_pos rfl] at step
        refine thnF (ge.run _ s9 _ _ (fun v H' => v = a1 ∧ H' = upd H1 D (.lst (pk (ws.take i) (bs.take i)))) I9 ⟨a1, la, rfl, rfl⟩) fun zv s10 hh10 => ?_
        obtain ⟨yv, H10, I10, r10, ey, eH10⟩ := hh10
        subst ey eH10
        refine app_ok (X := X.blk s3 (upd H1 D (.lst [])) scope ce [z, TI, TO, i1, i2]) I10 upd_same ?_ r10 fun s11 I11 => fin (by rw [step]; rw [upd_upd] at I11; exact I11)
        have h9 : (pk (ws.take i) (bs.take i)).length ≤ ws.length := by
          unfold pk
          rw [List.length_map]
          refine Nat.le_trans (List.length_filter_le _ _) ?_
          rw [List.length_zip, List.length_take]
          omega
        rw [sizeLine_eq]
        omega
    · have e : i = ws.length := by omega
      subst e
      have hx : its1.toArray[ws.length]? = none := by simp; omega
      refine pyNext_zip_over hot5 ap zz zTI zTO zi1 p1.isList hx (fun w => nfp (by rw [w]; simp)) fun g k => ?_
      have I6 : Inv (X.blk s3 (upd H1 D (.lst [])) scope ce [z, TI, TO, i1, i2]) [] (wipe σ [ia, ib]) (upd H1 D (.lst (pk (ws.take ws.length) (bs.take ws.length)))) { s5 with heap := g } :=
        I5.turnedL (t' := s5.toks) (ch := [z, TI, TO, i1, i2]) (fun c o hb e => by
          simp only [List.mem_cons, List.not_mem_nil, or_false, not_or] at hb
          exact k c o hb.1 hb.2.2.2.1 e) st5
      have I8 : Inv X pins σ (upd H1 D (.lst (pk (ws.take ws.length) (bs.take ws.length)))) { s5 with heap := g } := I3.call' (ch := [z, TI, TO, i1, i2]) I6.os I6.base I6.hok I6.bare fun b hb => ⟨(f3 b hb).1.2.2.2.1, (f3 b hb).1.2.1, (f3 b hb).1.2.2.2.2.1, (f3 b hb).1.2.2.2.2.2⟩
      have nC : (upd H1 D (.lst (pk (ws.take ws.length) (bs.take ws.length)))) s3.heap.objs.size = none := by
        have w : (upd H1 D (.lst (pk (ws.take ws.length) (bs.take ws.length)))) ce.locals = none := I6.free
        rw [cL] at w
        exact w
      obtain ⟨m, hn, _⟩ := I6.loc
      have hn : ({ s5 with heap := g } : Shared).heap.Ns ce.locals m := hn
      rw [cL] at hn
      refine hRR D s3.heap.objs.size _ m _ I8 ?_ hn (I3.fpOk (Nat.le_refl _) nC)
      rw [List.take_length, hlen, List.take_length]
      exact q D hDn
  exact codeAny_compStart_list loop (wpAny_pyIter_zip z4.1 loop)
theorem lcZ {x y : Str} {ia ib : Nat} {e1 e2 : Expr} {ta : TA} {scope : Scope} {p pz px py pt ptt pe pos pos' : Pos} {kt : Nat} {tt : TT} {use : Option (Value → Sem Unit)} {Qf : Value → Shared → Prop}
    (hotc : HotC X) (hN : X.N.Nodup) (I : Inv X pins σ H s) (ok : BlkOk X.N X.env.scope scope [(x, ia), (y, ib)]) (hab : ia ≠ ib) (hg : Gl X "zip") (hm : X.mg "zip" = none) (ha : PA X [e1, e2] ta)
    (hnx : ∀ (s : Shared) (H : Hp) (C : Addr) (cl : List (Str × Addr)) (fp : List Addr), PG (X.blk s H scope (compEnvC scope cl C X.env) fp) (.Name x px) (gName ia)) (hny : ∀ (s : Shared) (H : Hp) (C : Addr) (cl : List (Str × Addr)) (fp : List Addr), PG (X.blk s H scope (compEnvC scope cl C X.env) fp) (.Name y py) (gName ib))
    (ht : ∀ (s : Shared) (H : Hp) (C : Addr) (cl : List (Str × Addr)) (fp : List Addr), PTs (X.blk s H scope (compEnvC scope cl C X.env) fp) [.Name y pt] tt) (htt : ∀ (σ : L2.St) (H : Hp) (b : Bool) (Q : Bool → Hp → Prop), σ[ib]? = some (some (.bl b)) → Q b H → tt σ H Q)
    (he : ∀ (s : Shared) (H : Hp) (C : Addr) (cl : List (Str × Addr)) (fp : List Addr), PE (X.blk s H scope (compEnvC scope cl C X.env) fp) (.Name x pe) (tVar ia))
    (hs : ∀ v, foldedSetIterable (.Call (.Name "zip" p) [e1, e2] [] pz) X.env v = pure v) (hs1 : starEach [e1, e2] X.env = (false, eval e1 X.env) :: starEach [e2] X.env) (hpl : (backTo pz (starEach [e2] X.env)).any (·.1) = false)
    (hes : ∀ (s : Shared) (H : Hp) (C : Addr) (cl : List (Str × Addr)) (fp : List Addr), (assignEach [.Name x px, .Name y py] (X.blk s H scope (compEnvC scope cl C X.env) fp).env).length = 2 ∧ (assignEach [.Name x px, .Name y py] (X.blk s H scope (compEnvC scope cl C X.env) fp).env).findIdx? (·.1) = none)
    (h : ta σ H fun vs H1 => ∃ (l1 l2 : Addr) (ws : List V) (bs : List Bool), vs = [.ref l1, .ref l2] ∧ SqL X.K H1 l1 ws ∧ SqL X.K H1 l2 (bs.map V.bl) ∧ ws.length = bs.length ∧ ws.length ≤ 1000 ∧ ∀ D, H1 D = none → Q (.ref D) (upd H1 D (.lst (pk ws bs))))
    (hRR : ∀ D C s' m H', Inv X pins σ H' s' → Q (.ref D) H' → s'.heap.Ns C m → FpOk X pins H' C → compPost (model X.prog X.w) X.A X.xe use Qf (.ref D) C (.ok .next) s') :
    wpAny (model X.prog X.w) X.A (comprehension (.ListComp (.Name x pe) [⟨.Tuple [.Name x px, .Name y py] kt ptt, .Call (.Name "zip" p) [e1, e2] [] pz, [.Name y pt], 0⟩] scope pos) scope X.env pos' (newList []) false (eval (.Call (.Name "zip" p) [e1, e2] [] pz) X.env) use) Qf X.xe s := by
  have hfree : ∀ u ∈ scope.names, u.2 = .free → ∃ c, X.env.cells.lookup u.1 = some c := fun u hu e => (ok.free u hu e).elim (fun k => I.ok.has _ (.inl k)) fun k => I.ok.has _ (.inr k)
  refine wpAny_comprehension_free (use := use) rfl hs (closure_ok hfree) ok.kind (fun u hu e => by rw [ok.uniq u hu, e]) ?_
  refine Call_ (ld_blt I hg hm boot_zip (callWith_type1 (thn (ha.run pz pins s σ H _ I h) fun us s1 hh => ?_) hs1 hpl))
  obtain ⟨vs, H1, I1, r1, l1, l2, ws, bs, ev, hq1, hq2, hlen, hle, q⟩ := hh
  subst ev
  cases r1 with
  | cons ru rr =>
    cases rr with
    | cons rv rr =>
      cases rr
      cases ru
      cases rv
      obtain ⟨its1, rv1, p1, _⟩ := I1.list hq1
      obtain ⟨its2, rv2, p2, _⟩ := I1.list hq2
      refine call_zip_2 p1.isList p2.isList fun g1 hz hTI hTO h1 h2 hsz hk => wpAny_pyIter_zip hz ?_
      have I2 : Inv X pins σ H1 { s1 with heap := g1 } := I1.kept (t' := s1.toks) hk
      refine lcZ_loop hotc I2 ok hN hab hnx hny ht htt he hes (PySem.W.ktu_apart s1.heap.objs.size l1 l2 p1.lt p2.lt) ⟨hz, hTI, ⟨_, _, hTO⟩, h1, h2⟩ (fun c hc => ?_) hq1 hq2 hlen hle q hRR
      have hle5 : s1.heap.objs.size ≤ c := by
        simp only [List.mem_cons, List.not_mem_nil, or_false] at hc
        rcases hc with rfl | rfl | rfl | rfl | rfl <;> first | exact Nat.le_add_right _ _ | exact Nat.le_refl _
      exact I1.fpOk hle5 (I1.hok.fresh hle5)
end
end SyH
/-! ### what raises -/
namespace Sy
open PySem PySem.Spec PyProof.Rows L2
/-- a promise of a def that raises: called with these data it raises an exception of a class -/
abbrev FSx := List D → (Value → Prop) → Prop
def spX (K : PySem.W.Frag) (F : FSx) : Sp := fun vs H _ E => ∃ B M ds qx, H = J B M ∧ Dis B M ∧ RpA K B ds vs ∧ F ds qx ∧ ∀ cls, qx cls → ∀ B', Same B B' → Dis B' M → E cls none (J B' M)
/-- the state of slots and heap in which an exception of a class leaves -/
def RX (K : PySem.W.Frag) (M0 B : Hp) (kx : Value → Env_ → Prop) : WX := fun cls d σ H => d = none ∧ ∃ env' B' M', H = J B' M' ∧ Conc K M0 env' B' M' σ ∧ Same B B' ∧ kx cls env'
/-- a statement, a block that raises -/
def SX1 (X : Cx) (W : WX) (st : Stmt) (env : Env_) (kx : Value → Env_ → Prop) : Prop := ∀ (M0 B M : Hp) (σ : L2.St), Conc X.K M0 env B M σ → (∀ cls d σ' H', RX X.K M0 B kx cls d σ' H' → W cls d σ' H') → ∀ Dd : Ends, canS X st Dd σ (J B M)
def SX (X : Cx) (W : WX) (sts : List Stmt) (env : Env_) (kx : Value → Env_ → Prop) : Prop := ∀ (M0 B M : Hp) (σ : L2.St), Conc X.K M0 env B M σ → (∀ cls d σ' H', RX X.K M0 B kx cls d σ' H' → W cls d σ' H') → ∀ Dd : Ends, canSs X sts Dd σ (J B M)
/-- no way out but what is raised -/
abbrev kNone (kx : Env_ → Prop) : K4 := { nx := kx, rt := fun _ _ => False }
section
variable {X : Cx} {W : WX} {K : PySem.W.Frag} {e a b c : Expr} {es rest : List Expr} {st : Stmt} {sts : List Stmt} {env : Env_} {kx : Value → Env_ → Prop} {pos : Pos}
variable {M0 B B1 M : Hp} {σ : L2.St}
theorem RX.back (s : Same B B1) {cls : Value} {d : Option Addr} {σ : L2.St} {H : Hp} (h : RX K M0 B1 kx cls d σ H) : RX K M0 B kx cls d σ H := by
  obtain ⟨h0, env', B', M', e1, c', sm, q⟩ := h
  exact ⟨h0, env', B', M', e1, c', s.trans sm, q⟩
theorem sx_one (h : SX1 X W st env kx) : SX X W (st :: sts) env kx := fun M0 B M σ c hW Dd pins s I => (pss_cons (ps_can (X := X) (st := st)) (pss_can (X := X) (sts := sts))).run pins s σ _ Dd I (h M0 B M σ c hW { Dd with nx := canSs X sts Dd })
theorem sx_cons (h : S1 X st env (kNone fun env' => SX X W sts env' kx)) : SX X W (st :: sts) env kx := fun M0 B M σ c hW Dd pins s I => (pss_cons (ps_can (X := X) (st := st)) (pss_can (X := X) (sts := sts))).run pins s σ _ Dd I (h M0 B M σ c { Dd with nx := canSs X sts Dd }
  (fun σ H p => by
    obtain ⟨env', B', M', e1, c', sm, q⟩ := p
    subst e1
    exact q M0 B' M' σ c' (fun cls d σ' H' r => hW cls d σ' H' (r.back sm)) Dd)
  (fun v H p => by rcases p with ⟨_, _, _, _, _, _, _, _, _, z⟩ | ⟨_, _, _, _, _, _, _, _, _, _, _, _, _, _, z⟩ <;> exact z.elim) (fun σ H p => by obtain ⟨_, _, _, _, _, _, z⟩ := p; exact z.elim) (fun σ H p => by obtain ⟨_, _, _, _, _, _, z⟩ := p; exact z.elim))
theorem sx_if {A Bl : List Stmt} (h : EB X c env fun x env' => (x = true → SX X W A env' kx) ∧ (x = false → SX X W Bl env' kx)) : SX1 X W (.If c A Bl pos) env kx := fun M0 B M σ cc hW Dd pins s I => (ps_if pt_can (pss_can (X := X) (sts := A)) (pss_can (X := X) (sts := Bl))).run pins s σ _ Dd I (h M0 B M σ cc _ fun x H p => by
  obtain ⟨env', B', M', rfl, c', sm, q1, q2⟩ := p
  cases x with
  | true => rw [if_pos rfl]; exact q1 rfl M0 B' M' σ c' (fun cls d σ' H' r => hW cls d σ' H' (r.back sm)) Dd
  | false => rw [if_neg Bool.false_ne_true]; exact q2 rfl M0 B' M' σ c' (fun cls d σ' H' r => hW cls d σ' H' (r.back sm)) Dd)
/-- what is known of an own class of exceptions -/
structure ExcT (K : PySem.W.Frag) (C : Addr) : Prop where
  own : ∃ (bmB : List Value) (B newId initId : String), ExcBaseFacts B newId initId bmB ∧ PySem.W.excIn K C bmB newId = true
  kp : PySem.W.keepIn K (.ref C) = true
  sb : PySem.W.subIn K (.ref C) (.type "BaseException") = some true
  ty : PySem.W.typeIn K (.ref C) = some (.type "type")
/-- raise C('..') -/
theorem sx_raise {x m : Str} {j : Nat} {p p2 pos' : Pos} {C : Addr} (T : ExcT X.K C) (gC : X.mg x = some (.ref C)) (tk : L2N.Takes X W) (q : kx (.ref C) env) (hc : X.calm = true := by rfl) (hg : Gl X x := by rfl)
    (hdb : (x == ("__debug__" : Str)) = false := by decide) : SX1 X W (.Raise (some (.Call (.Name x p) [.Constant (.str m) j p2] [] pos')) none pos) env kx := fun M0 B M σ c hW Dd pins s I => by
  obtain ⟨bmB, Bn, newId, initId, F, q1⟩ := T.own
  exact (L2N.ps_raise hc tk (L2N.pmk_own F q1 gC T.kp (raises_own T.sb T.ty) hg hdb)).run pins s σ _ Dd I (hW _ _ _ _ ⟨rfl, env, B, M, rfl, c, Same.refl B, q⟩)
/-- f(..), a statement, f raises -/
theorem sx_call {F : FSx} {n : Nat} {f : Addr} {fd : FuncData} {ps : List Str} {x : Str} {p : Pos} (G : FnOk X.prog X.w X.K X.mg X.base (L2N.CX X.prog X.w) n f fd ps (spX X.K F)) (hr : Room n X.A) (hm : X.mg x = some (.ref f)) (hk : PySem.W.keepIn X.K (.ref f) = true) (hb : Binds X.K fd ps []) {pos0 : Pos} (tk : L2N.Takes X W)
    (h : ED X (e :: es) env fun ds env' => F ds fun cls => kx cls env') (hs : swapsWith (.Call (.Name x p) (e :: es) [] pos) none pos0.line X.env = pure false := by rfl) (hg : Gl X x := by rfl) (hdb : (x == ("__debug__" : Str)) = false := by decide) (he : starEach (e :: es) X.env = (false, eval e X.env) :: starEach es X.env := by rfl) (hpl : (backTo pos (starEach es X.env)).any (·.1) = false := by rfl) :
    SX1 X W (.Expr (.Call (.Name x p) (e :: es) [] pos) pos0) env kx := fun M0 B M σ c hW Dd pins s I =>
  (ps_expr (pe_callS G hr hg hm hk hb (fun σ => L2N.passAt tk σ) pa_can hdb he hpl) hs).run pins s σ _ Dd I (h M0 B M σ c _ fun vs H ⟨ds, env', B', M', e1, c', sm, r, q⟩ => by
    subst e1
    exact ⟨B', M', ds, _, rfl, c'.dis, r, q, fun cls hq B2 s2 d2 => hW _ _ _ _ ⟨rfl, env', B2, M', rfl, c'.ext s2 d2, sm.trans s2, hq⟩⟩)
/-- f(e, .., k = v, ..), f raises -/
theorem sx_callK {F : FSx} {n : Nat} {f : Addr} {fd : FuncData} {ps ks : List Str} {kws : List Keyword} {np : Nat} {x : Str} {p pos0 : Pos} {tw : TA} (G : FnOk X.prog X.w X.K X.mg X.base (L2N.CX X.prog X.w) n f fd ps (spX X.K F)) (hr : Room n X.A) (hm : X.mg x = some (.ref f)) (hk : PySem.W.keepIn X.K (.ref f) = true) (hb : KB X.K fd ps ks np) (tk : L2N.Takes X W)
    (hkw : PK X kws tw) (h : ED X (e :: es) env fun ds env' => LDs X.K tw env' fun zs env2 => ds.length = np ∧ zs.length = ks.length ∧ F (ds ++ zs) fun cls => kx cls env2)
    (hs : swapsWith (.Call (.Name x p) (e :: es) kws pos) none pos0.line X.env = pure false := by rfl) (hall : (backToKw pos (keywordEach kws X.env)).all (·.1.isSome) = true := by rfl) (hks : (backToKw pos (keywordEach kws X.env)).filterMap (·.1) = ks := by rfl)
    (hg : Gl X x := by rfl) (hdb : (x == ("__debug__" : Str)) = false := by decide) (he : starEach (e :: es) X.env = (false, eval e X.env) :: starEach es X.env := by rfl)
    (hpl : ((backTo pos (starEach (e :: es) X.env)).any (·.1) || (backToKw pos (keywordEach kws X.env)).any (·.1.isNone)) = false := by rfl) : SX1 X W (.Expr (.Call (.Name x p) (e :: es) kws pos) pos0) env kx := fun M0 B M σ c hW Dd pins s I => by
  have key : PE X (.Call (.Name x p) (e :: es) kws pos) (fun σ H Q => canA X (e :: es) σ H fun vs H1 => tw σ H1 fun zs H2 => spX X.K F (gK np ks.length vs zs) H2 Q (WE W σ)) := by
    refine ⟨fun pins s σ H Q I h => wpAny_Call_Name_kw (ld_glob I hg hm (PySem.W.callWith_KW (h₀ := X.base) I.ok.mod.kin hk hall (thn ((pa_can (X := X) (es := e :: es)).run pos pins s σ H _ I h) fun us s1 hh => ?_) hpl he) hdb)⟩
    obtain ⟨vs, H1, I1, r, q⟩ := hh
    refine thn (hkw.run pos pins s1 σ H1 _ I1 q) fun ws s2 hh => ?_
    obtain ⟨zs, H2, I2, rz, q2⟩ := hh
    refine ⟨I2.kIn, ?_⟩
    rw [hks]
    have r2 := hb.binds.rel r rz
    have hl := (r2.length).symm.trans (G.len _ _ _ _ q2)
    refine wpAny_call (codeAny_mono (G.run X.A X.stack s2 H2 ⟨us, ks.zip ws⟩ _ _ Q (WE W σ) hr I2.env0 (hb.binds.to s2 us ws I2.kIn hl) r2 q2) fun rr s3 hq => ?_)
    cases rr with
    | error ex => exact L2N.passAt tk σ pins H2 s2 ex s3 I2 hq
    | ok fl =>
      cases fl with
      | ret u => exact I2.after hq
      | _ => exact False.elim hq
  refine (ps_expr key hs).run pins s σ _ Dd I (h M0 B M σ c _ fun vs H hh => ?_)
  obtain ⟨ds, env', B', M', e1, c', sm, r, q⟩ := hh
  subst e1
  refine q M0 B' M' σ c' _ fun zs H hh => ?_
  obtain ⟨es', env2, B2, M2, e2, c2, s2, r2, l1, l2, q2⟩ := hh
  subst e2
  refine ⟨B2, M2, ds ++ es', _, rfl, c2.dis, ?_, q2, fun cls hq B3 s3 d3 => hW _ _ _ _ ⟨rfl, env2, B3, M2, rfl, c2.ext s3 d3, (sm.trans s2).trans s3, hq⟩⟩
  unfold gK
  rw [if_pos ⟨r.length.trans l1, r2.length.trans l2⟩]
  exact RpA.append (r.mono s2) r2
end
/-! ### a def that raises keeps its promise -/
section
variable {P : Program} {w : World} {K : PySem.W.Frag} {mg : Str → Option Value} {base : Heap} {x qual : Str} {st : Stmt} {f : Addr} {fd : FuncData} {N ps : List Str} {n : Nat}
theorem fn_X {F : FSx} (Fn : Fun K x qual st f fd) (S : FnScope N ps (defScope st)) (hlen : ∀ ds q, F ds q → ds.length = ps.length)
    (hb : ∀ (cdv : Value) (A : Around) (outer : List Env) (s : Shared) (H : Hp) (E : XK), Room n (A.deeper (envOfC qual (defScope st) s.heap.objs.size f cdv)) → ∀ W : WX, L2N.Takes (cxOf (L2N.CX P w) P w K mg base N qual (defScope st) f cdv A outer s H E) W → ∀ ds qx, F ds qx →
      SX (cxOf (L2N.CX P w) P w K mg base N qual (defScope st) f cdv A outer s H E) W (defBody st) (env0 N ds) (fun cls _ => qx cls)) : FnOk P w K mg base (L2N.CX P w) (n + 1) f fd ps (spX K F) := by
  obtain ⟨oc, od, kV, doc, pm, an, cdv, ct, osl, rfl, lk, hcd⟩ := Fn.ex
  refine fn_of lk hcd S (fun vs H Q E h => ?_) fun A outer s H vs Q E hr h => ?_
  · obtain ⟨B, M, ds, q, _, _, r, hF, _⟩ := h
    rw [r.length, hlen ds q hF]
  · obtain ⟨B, M, ds, q, rfl, hd, r, hF, hq⟩ := h
    have tk : L2N.Takes (cxOf (L2N.CX P w) P w K mg base N qual (defScope st) f cdv A outer s (J B M) E) (fun cls d _ H => E cls d H) := L2N.takes_of rfl rfl rfl rfl
    refine ⟨_, pss_can, hb cdv A outer s _ E hr _ tk ds q hF M B M (start N vs) (conc_start hd r) (fun cls d σ H p => ?_) _⟩
    obtain ⟨rfl, env', B', M', rfl, c', sm, z⟩ := p
    obtain ⟨B2, e2, s2, d2⟩ := c'.out
    rw [← e2]
    exact hq cls z B2 (sm.trans s2) d2
end
/-! ### try .. except C as n -/
section
variable {K : PySem.W.Frag} {M0 B B1 M : Hp} {env : Env_} {σ : L2.St}
theorem Conc.clear (c : Conc K M0 env B M σ) (i : Nat) : ∃ B' M', J B' M' = J B M ∧ Same B B' ∧ Conc K M0 (env.set i .un) B' M' (σ.set i none) := by
  obtain ⟨B', M', e1, s1, c1⟩ := c.drop i
  refine ⟨B', M', e1, s1, c1.dis, by rw [List.length_set]; exact c1.len, fun j d q => ?_, c1.nd, c1.fresh, c1.frame⟩
  by_cases hj : i = j
  · subst hj
    have hl := (List.getElem?_eq_some_iff.mp q).1
    rw [List.length_set] at hl
    rw [List.getElem?_set_self hl] at q
    cases q
    exact ⟨none, List.getElem?_set_self (by rw [c.len]; exact hl), trivial⟩
  · obtain ⟨s, h1, h2⟩ := c1.slot j d q
    exact ⟨s, by rw [List.getElem?_set_ne hj]; exact h1, h2⟩
theorem takesNone {X : Cx} : L2N.Takes X (fun _ _ _ _ => False) := fun _ _ x => by
  obtain ⟨_, _, _, _, _, _, _, _, _, _, _, _, _, _, _, _, z⟩ := x
  exact z.elim
end
section
variable {X : Cx} {W : WX} {env : Env_} {kx : Value → Env_ → Prop} {k4 : K4} {body suite : List Stmt} {b₀ : Stmt} {x n : Str} {c : Value} {np pos pos' : Pos}
/-- the suite's ways out -/
abbrev kSuite (k4 : K4) (i : Nat) : K4 := { nx := fun e => k4.nx (e.set i .un), rt := k4.rt, bk := fun e => k4.bk (e.set i .un), ct := fun e => k4.ct (e.set i .un) }
/-- the body raises -/
theorem s_tryX (i : Nat) (hb : ∀ (pn : List (Addr × Obj)) (xe : Value → Shared → Prop) (W : WX), L2N.Takes (X.tr pn xe) W → SX (X.tr pn xe) W body env kx)
    (hk : ∀ cls env', kx cls env' → PySem.W.exmOne X.K cls c = some true ∧ ∀ (a : Addr) (oe : Obj) (pn : List (Addr × Obj)), L2N.Zn cls none oe → (∃ vs, oe.data = .fields vs) → SS (X.suite a ((a, oe) :: pn)) (b₀ :: suite) (env'.set i (.dat (.v (.ref a)))) (kSuite k4 i))
    (hN : X.N.Nodup) (hc : Names X x c) (hs : X.stack = X.env :: X.outer := by rfl) (hf : X.env.frame = some X.env.locals := by rfl) (hi : X.N[i]? = some n := by rfl) (hln : X.env.kindOf n = some .local := by rfl) : S1 X (.Try body [.ExceptHandler (some (.Name x np)) (some n) (b₀ :: suite) pos'] [] [] pos) env k4 :=
  fun M0 B M σ cc Dd h1 h2 h3 h4 pins s I => by
  refine (L2N.ps_try_as (Wout := fun _ _ _ _ => False) (tb := fun W D σ H => ∀ pn xe, L2N.Takes (X.tr pn xe) W → canSs (X.tr pn xe) body D σ H) (ts := fun a cls d D σ H => ∀ oe pn, L2N.Zn cls d oe → (∃ vs, oe.data = .fields vs) → canSs (X.suite a ((a, oe) :: pn)) (b₀ :: suite) D σ H)
    hs hf hN hi hln hc takesNone (fun W pn xe tk _ => ⟨fun pins s σ H D I h => h pn xe tk pins s I⟩) (fun a oe cls d pn hz hf => ⟨fun pins s σ H D I h => h oe pn hz hf pins s I⟩)).run pins s σ _ Dd I ?_
  intro pn xe tk
  refine hb pn xe _ tk M0 B M σ cc (fun cls d σ' H' r => ?_) Dd
  obtain ⟨rfl, env', B', M', rfl, c', sm, q⟩ := r
  obtain ⟨k1, k2⟩ := hk cls env' q
  refine ⟨true, k1, fun _ a ha oe pn2 hz hf2 => ?_, fun z => nomatch z⟩
  obtain ⟨B2, M2, e2, s2, c2⟩ := c'.set i (d := .v (.ref a)) (v := .ref a) rfl
  rw [← e2]
  refine k2 a oe pn2 hz hf2 M0 B2 M2 _ c2 _ (fun σ H p => ?_) (fun v H p => h2 v H (p.back (sm.trans s2))) (fun σ H p => ?_) (fun σ H p => ?_)
  · obtain ⟨env3, B3, M3, rfl, c3, s3, q3⟩ := p
    obtain ⟨B4, M4, e4, s4, c4⟩ := c3.clear i
    exact h1 _ _ ⟨_, B4, M4, e4.symm, c4, (sm.trans s2).trans (s3.trans s4), q3⟩
  · obtain ⟨env3, B3, M3, rfl, c3, s3, q3⟩ := p
    obtain ⟨B4, M4, e4, s4, c4⟩ := c3.clear i
    exact h3 _ _ ⟨_, B4, M4, e4.symm, c4, (sm.trans s2).trans (s3.trans s4), q3⟩
  · obtain ⟨env3, B3, M3, rfl, c3, s3, q3⟩ := p
    obtain ⟨B4, M4, e4, s4, c4⟩ := c3.clear i
    exact h4 _ _ ⟨_, B4, M4, e4.symm, c4, (sm.trans s2).trans (s3.trans s4), q3⟩
/-- the body raises nothing -/
theorem s_tryN (i : Nat) (hb : ∀ (pn : List (Addr × Obj)) (xe : Value → Shared → Prop), PassesOwn (model X.prog X.w) X.A X.env xe → SS (X.tr pn xe) body env k4)
    (hN : X.N.Nodup) (hc : Names X x c) (hs : X.stack = X.env :: X.outer := by rfl) (hf : X.env.frame = some X.env.locals := by rfl) (hi : X.N[i]? = some n := by rfl) (hln : X.env.kindOf n = some .local := by rfl) : S1 X (.Try body [.ExceptHandler (some (.Name x np)) (some n) (b₀ :: suite) pos'] [] [] pos) env k4 :=
  fun M0 B M σ cc Dd h1 h2 h3 h4 pins s I => by
  refine (L2N.ps_try_as (Wout := fun _ _ _ _ => False) (tb := fun _ D σ H => ∀ pn xe, PassesOwn (model X.prog X.w) X.A X.env xe → canSs (X.tr pn xe) body D σ H) (ts := fun a cls d D σ H => ∀ oe pn, canSs (X.suite a ((a, oe) :: pn)) (b₀ :: suite) D σ H)
    hs hf hN hi hln hc takesNone (fun W pn xe tk po => ⟨fun pins s σ H D I h => h pn xe po pins s I⟩) (fun a oe cls d pn hz hf => ⟨fun pins s σ H D I h => h oe pn pins s I⟩)).run pins s σ _ Dd I ?_
  intro pn xe po
  exact hb pn xe po M0 B M σ cc Dd h1 h2 h3 h4
end
end Sy
/-! ### in an except suite -/
namespace SyH
open PySem PySem.Spec PySem.Calls PyProof.Rows L2 HotX L2H
section
variable {X : Cx}
/-- name = [x for x, y in zip(..) if y] -/
theorem ps_lcZ {x y n : Str} {i ia ib : Nat} {e1 e2 : Expr} {ta : TA} {scope : Scope} {p pz px py pt ptt pe pos pn ps : Pos} {kt : Nat} {tt : TT}
    (hotc : HotC X) (hN : X.N.Nodup) (ok : BlkOk X.N X.env.scope scope [(x, ia), (y, ib)]) (hab : ia ≠ ib) (hg : Gl X "zip") (hm : X.mg "zip" = none) (ha : PA X [e1, e2] ta)
    (hnx : ∀ (s : Shared) (H : Hp) (C : Addr) (cl : List (Str × Addr)) (fp : List Addr), PG (X.blk s H scope (compEnvC scope cl C X.env) fp) (.Name x px) (gName ia)) (hny : ∀ (s : Shared) (H : Hp) (C : Addr) (cl : List (Str × Addr)) (fp : List Addr), PG (X.blk s H scope (compEnvC scope cl C X.env) fp) (.Name y py) (gName ib))
    (ht : ∀ (s : Shared) (H : Hp) (C : Addr) (cl : List (Str × Addr)) (fp : List Addr), PTs (X.blk s H scope (compEnvC scope cl C X.env) fp) [.Name y pt] tt) (htt : ∀ (σ : L2.St) (H : Hp) (b : Bool) (Q : Bool → Hp → Prop), σ[ib]? = some (some (.bl b)) → Q b H → tt σ H Q)
    (he : ∀ (s : Shared) (H : Hp) (C : Addr) (cl : List (Str × Addr)) (fp : List Addr), PE (X.blk s H scope (compEnvC scope cl C X.env) fp) (.Name x pe) (tVar ia))
    (hes : ∀ (s : Shared) (H : Hp) (C : Addr) (cl : List (Str × Addr)) (fp : List Addr), (assignEach [.Name x px, .Name y py] (X.blk s H scope (compEnvC scope cl C X.env) fp).env).length = 2 ∧ (assignEach [.Name x px, .Name y py] (X.blk s H scope (compEnvC scope cl C X.env) fp).env).findIdx? (·.1) = none)
    (hy : X.N[i]? = some n) (hyl : X.env.scope.names.lookup n = some .local)
    (hsw : swapsWith (.ListComp (.Name x pe) [⟨.Tuple [.Name x px, .Name y py] kt ptt, .Call (.Name "zip" p) [e1, e2] [] pz, [.Name y pt], 0⟩] scope pos) (some (.Name n pn)) ps.line X.env = pure true)
    (hs : ∀ v, foldedSetIterable (.Call (.Name "zip" p) [e1, e2] [] pz) X.env v = pure v := by intro _; rfl) (hs1 : starEach [e1, e2] X.env = (false, eval e1 X.env) :: starEach [e2] X.env := by rfl) (hpl : (backTo pz (starEach [e2] X.env)).any (·.1) = false := by rfl) :
    PS X (.Assign [.Name n pn] (.ListComp (.Name x pe) [⟨.Tuple [.Name x px, .Name y py] kt ptt, .Call (.Name "zip" p) [e1, e2] [] pz, [.Name y pt], 0⟩] scope pos) ps)
      (fun D σ H => ta σ H fun vs H1 => ∃ (l1 l2 : Addr) (ws : List V) (bs : List Bool), vs = [.ref l1, .ref l2] ∧ SqL X.K H1 l1 ws ∧ SqL X.K H1 l2 (bs.map V.bl) ∧ ws.length = bs.length ∧ ws.length ≤ 1000 ∧ ∀ L, H1 L = none → D.nx (σ.set i (some (.ref L))) (upd H1 L (.lst (pk ws bs)))) := by
  refine ⟨fun pins s σ H D I h => ?_⟩
  rw [exec_Assign_Name_used _ _ _ _ hsw]
  refine wpAny_bind (wpAny_standAt (wpAny_bind (wpAny_bind (thn (lcZ (use := some (assign (.Name n pn) X.env)) (pos' := firstIterPos [⟨.Tuple [.Name x px, .Name y py] kt ptt, .Call (.Name "zip" p) [e1, e2] [] pz, [.Name y pt], 0⟩] pos) (Q := fun v H1 => D.nx (σ.set i (some v)) H1)
    (Qf := fun _ s' => SP X pins D .next s') hotc hN I ok hab hg hm ha hnx hny ht htt he hs hs1 hpl hes h fun L C s' m H' J q hn f => ?_) fun _ s' hq => wpAny_pure (wpAny_pure hq)))))
  obtain ⟨f0, f1, f2, f3, f4, f5⟩ := f
  have stored := store_ok2 (M := model X.prog X.w) (A := X.A) (E := X.xe) (v := V.ref L) (u := .ref L) (Q := fun _ s'' => ∃ m, s''.heap.Ns C m ∧ ∀ h', Heap.SameBut C s''.heap h' → SP X pins D .next { s'' with heap := h' }) J hN hy (.inl hyl) rfl (fun s2 J2 hh => ?_) (.inr hyl)
  · exact wpAny_assign_Name stored
  · obtain ⟨b, sb, hb⟩ := hh
    have neC : C ≠ b := by
      rcases hb with z | z
      · rw [z]; exact f1
      · exact fun e => f4 n b z e.symm
    exact ⟨m, hn.sameBut sb neC, fun g sg => ⟨_, H', J2.turned (t' := s2.toks) (fun c o hc e => (sg.2 c hc).trans e) f0 f1 f3 f4 f5, q⟩⟩
end
/-- a def that is called within an except suite with the exception that is handled: its promise by the exception's object -/
structure FnP (P : Program) (w : World) (K : PySem.W.Frag) (mg : Str → Option Value) (base : Heap) (k : Nat) (f : Addr) (fd : FuncData) (ps : List Str) (sp : Addr × Obj → Sp) : Prop where
  len : ∀ p vs H Q E, sp p vs H Q E → vs.length = ps.length
  run : ∀ (A : Around) (outer : List Env) (s : Shared) (H : Hp) (args : Args) (us : List Value) (vs : List V) (Q : VK) (p : Addr × Obj), RoomH k A → Hot1 A p → PinOk outer H s p → Env0 P w K mg base A outer s H → BindsTo s fd args (ps.zip us) → Vals vs us → sp p vs H Q E0 →
    codeAny (model P w) A (.call (.ref f) args) (CR CX0 outer P w H s Q E0) s
theorem fnP_of {P : Program} {w : World} {K : PySem.W.Frag} {mg : Str → Option Value} {base : Heap} {x qual : Str} {st : Stmt} {f : Addr} {fd : FuncData} {N ps : List Str} {k : Nat} {sp : Addr × Obj → Sp} (F : Fun K x qual st f fd) (S : FnScope N ps (defScope st)) (len : ∀ p vs H Q E, sp p vs H Q E → vs.length = ps.length)
    (hb : ∀ (cdv : Value) (A : Around) (outer : List Env) (s : Shared) (H : Hp) (vs : List V) (Q : VK) (p : Addr × Obj), Hot1 A p → RoomH k (A.deeper (envOfC qual (defScope st) s.heap.objs.size f cdv)) → sp p vs H Q E0 →
      Sy.canSs (cxH CX0 P w K mg base N qual (defScope st) f cdv A outer s H E0 p) (defBody st) { nx := fun _ H' => Q .non H', rt := Q } (L2.start N vs) H) : FnP P w K mg base (k + 1) f fd ps sp := by
  obtain ⟨oc, od, kV, doc, pm, an, cdv, ct, osl, rfl, lk, hcd⟩ := F.ex
  refine ⟨len, fun A outer s H args us vs Q p hr hot hpin e0 bd r hsp => ?_⟩
  have kx : K.In s.heap := e0.mod.kin.keeps fun b o e => (e0.bs b o e).1
  have lim : s.heap.NoLimit := e0.mod.nolimit.keeps fun b o e => (e0.bs b o e).1
  refine codeAny_call_function hr.depth (kx _ _ lk) rfl S.co S.gen rfl (PySem.W.codeRec_of kx hcd) (bd _ _ _ _ (wpAny_newFunctionEnv_cells S.kind (fun y hy => ?_) fun env he s1 q => ?_))
  · obtain ⟨n, v⟩ := y
    exact (S.par n (List.of_mem_zip hy).1).elim .inl fun z => .inr ⟨z, PySem.W.cellsFrom_some _ _ _ (.inl z)⟩
  · subst he
    have J : Inv (cxH CX0 P w K mg base N qual (defScope st) f cdv A outer s H E0 p) [] (L2.start N vs) H s1 := inv_startH S hpin e0 (len _ _ _ _ _ hsp) r q
    refine ⟨lim.keeps q.toInCall.keep, codeAny_func (wpAny_mono (hb cdv A outer s H vs Q p hot (hr.deeper _) hsp [] s1 J) (fun fl s2 hs => ?_) fun e s2 hs => hs)⟩
    cases fl with
    | ret u =>
      obtain ⟨v, σ2, H2, J2, rv, z⟩ := hs
      exact ⟨v, H2, J2.os, J2.bare, J2.base, J2.hok, rv, z⟩
    | next =>
      obtain ⟨σ2, H2, J2, z⟩ := hs
      exact ⟨V.non, H2, J2.os, J2.bare, J2.base, J2.hok, rfl, z⟩
    | brk => obtain ⟨_, _, _, z⟩ := hs; exact z.elim
    | cont => obtain ⟨_, _, _, z⟩ := hs; exact z.elim
section
variable {X : Cx} {p : Addr × Obj} {k : Nat} {f : Addr} {fd : FuncData} {ps : List Str} {sp : Addr × Obj → Sp} {x : Str} {q pos : Pos} {e : Expr} {es : List Expr} {t : TA}
theorem pe_callP (F : FnP X.prog X.w X.K X.mg X.base k f fd ps sp) (hr : RoomH k X.A) (hot : Hot1 X.A p) (hp : p ∈ X.pn) (hg : Gl X x) (hm : X.mg x = some (.ref f)) (hk : PySem.W.keepIn X.K (.ref f) = true) (hb : Binds X.K fd ps [])
    (ha : PA X (e :: es) t) (hdb : (x == ("__debug__" : Str)) = false := by decide) (he : starEach (e :: es) X.env = (false, eval e X.env) :: starEach es X.env := by rfl) (hpl : (backTo pos (starEach es X.env)).any (·.1) = false := by rfl) :
    PE X (.Call (.Name x q) (e :: es) [] pos) (fun σ H Q => t σ H fun vs H1 => sp p vs H1 Q E0) := by
  refine ⟨fun pins s σ H Q I h => wpAny_Call_Name_kw (ld_glob I hg hm (PySem.W.callWith_K (h₀ := X.base) I.ok.mod.kin hk (thn (ha.run pos pins s σ H _ I h) fun us s1 hh => ?_) he hpl) hdb)⟩
  obtain ⟨vs, H1, I1, r, z⟩ := hh
  refine ⟨I1.kIn, ?_⟩
  have hl := (r.length).symm.trans (F.len _ _ _ _ _ z)
  have b := hb s1 us I1.kIn (by rw [List.append_nil]; exact hl)
  rw [List.append_nil] at b
  have pp := I1.pin p (List.mem_append_left _ hp)
  have hpin : PinOk X.stack H1 s1 p := ⟨pp.1, pp.2.1, fun hm => (List.mem_cons.mp (I1.stkSub p.1 hm)).elim pp.2.2.1 pp.2.2.2.1, pp.2.2.2.2⟩
  refine wpAny_call (codeAny_mono (F.run X.A X.stack s1 H1 ⟨us, []⟩ us vs Q p hr hot hpin I1.env0 b r z) fun rr s2 hq => ?_)
  cases rr with
  | error ex => exact False.elim hq
  | ok fl =>
    cases fl with
    | ret u => exact I1.after hq
    | _ => exact False.elim hq
/-- isinstance(e, c), e the exception that is handled -/
theorem cr_isH {D : Addr} (hp : p ∈ X.pn) (C : ExcC X.K D) (h1 : p.2.cls = .ref D) (h2 : p.2.dict = none) (hf : ∃ vs, p.2.data = .fields vs) : CallR X (.builtin "isinstance") (rIsE X.K D p.1) := by
  intro pins s σ H xs us Q I r h
  obtain ⟨c, cv, b, rfl, hcv, e, z⟩ := h
  cases r with
  | cons rx rr =>
    cases rr with
    | cons rt rr =>
      cases rr
      cases rx
      have ec := hcv _ rt
      subst ec
      have g := (I.pin p (List.mem_append_left _ hp)).1
      obtain ⟨vs, hv⟩ := hf
      have J : PySem.W.InstAt s.heap p.1 p.2 D none := by
        obtain ⟨a, ⟨oc, od, odt, osl⟩⟩ := p
        dsimp only at h1 h2 hv g ⊢
        subst h1 h2 hv
        exact ⟨g, rfl, rfl, trivial⟩
      exact PySem.W.kia_one (PySem.W.handS_kitx_exc C.hg C.hk C.hs C.hd C.ha C.hn C.ht C.hm) I.kIn J e (fun y => nomatch y) fun tk => ⟨.bl b, H, I.kept (t' := tk) fun _ _ y => y, rfl, z⟩
end
end SyH
namespace Sy
open PySem PySem.Spec PyProof.Rows L2 L2H SyH
theorem pk_map {α β : Type} (f : α → β) (ws : List α) (bs : List Bool) : pk (ws.map f) bs = (pk ws bs).map f := by
  unfold pk
  have e : (ws.map f).zip bs = (ws.zip bs).map fun p => (f p.1, p.2) := by
    rw [List.zip_map_left]
    rfl
  rw [e, List.filter_map, List.map_map, List.map_map]
  rfl
/-- the promise of a def that names the exception of class C that is handled: z -/
def spE (K : PySem.W.Frag) (C : Addr) (z : Str) : Addr × Obj → Sp := fun p vs H Q _ => p.2.cls = .ref C ∧ p.2.dict = none ∧ (∃ fs, p.2.data = .fields fs) ∧ vs = [.ref p.1] ∧ ∃ B M, H = J B M ∧ Dis B M ∧ RetOk K B M Q (.d (S_ z))
section
variable {P : Program} {w : World} {K : PySem.W.Frag} {mg : Str → Option Value} {base : Heap} {x qual : Str} {st : Stmt} {f : Addr} {fd : FuncData} {N : List Str} {n : Nat} {C : Addr} {z y : Str}
theorem fn_E (Fn : Fun K x qual st f fd) (S : FnScope N [y] (defScope st))
    (hb : ∀ (cdv : Value) (A : Around) (outer : List Env) (s : Shared) (H : Hp) (p : Addr × Obj), Hot1 A p → RoomH n (A.deeper (envOfC qual (defScope st) s.heap.objs.size f cdv)) → p.2.cls = .ref C → p.2.dict = none → (∃ fs, p.2.data = .fields fs) →
      SS (cxH CX0 P w K mg base N qual (defScope st) f cdv A outer s H E0 p) (defBody st) (env0 N [.v (.ref p.1)]) { nx := fun _ => False, rt := fun r _ => r = .d (S_ z) }) : FnP P w K mg base (n + 1) f fd [y] (spE K C z) := by
  refine fnP_of Fn S (fun p vs H Q E h => ?_) fun cdv A outer s H vs Q p hot hr h => ?_
  · obtain ⟨_, _, _, rfl, _⟩ := h
    rfl
  · obtain ⟨h1, h2, h3, rfl, B, M, rfl, hd, hq⟩ := h
    refine hb cdv A outer s _ p hot hr h1 h2 h3 M B M (start N [.ref p.1]) (conc_start (ds := [.v (.ref p.1)]) hd ⟨.ref p.1, [], rfl, rfl, rfl⟩) _ (fun σ H p => ?_) (fun v H p => ?_) (fun σ H p => ?_) (fun σ H p => ?_)
    · obtain ⟨_, _, _, _, _, _, w⟩ := p; exact w.elim
    · rcases p with ⟨σ', d, env', B', M', rfl, c, sm, r', w⟩ | ⟨σ', a, mo, o, env', B', M', rfl, rfl, n1, n2, c, sm, r', w⟩
      · cases w
        obtain ⟨B2, e2, s2, d2⟩ := c.out
        show Q v (J B' M')
        rw [← e2]
        exact hq v B2 (sm.trans s2) d2 (Rp.mono s2 _ v r')
      · cases w
    · obtain ⟨_, _, _, _, _, _, w⟩ := p; exact w.elim
    · obtain ⟨_, _, _, _, _, _, w⟩ := p; exact w.elim
end
section
variable {X : Cx} {env : Env_} {k : D → Env_ → Prop} {k4 : K4} {a : Expr} {pos : Pos} {C : Addr} {p : Addr × Obj}
/-- f(e), e the exception that is handled, f names it -/
theorem ee_errName (i : Nat) {n : Nat} {f : Addr} {fd : FuncData} {x y v z : Str} {q1 q2 : Pos} (G : FnP X.prog X.w X.K X.mg X.base n f fd [y] (spE X.K C z)) (hr : RoomH n X.A) (hot : Hot1 X.A p) (hp : p ∈ X.pn) (h1 : p.2.cls = .ref C) (h2 : p.2.dict = none) (h3 : ∃ fs, p.2.data = .fields fs)
    (hm : X.mg x = some (.ref f)) (hk : PySem.W.keepIn X.K (.ref f) = true) (hb : Binds X.K fd [y] []) (hi : env[i]? = some (.dat (.v (.ref p.1)))) (q : k (S_ z) env) (hN : X.N[i]? = some v := by rfl) (hv : Vis X.env.scope v := by first | exact Or.inl rfl | exact Or.inr (Or.inl rfl) | exact Or.inr (Or.inr rfl)) (hg : Gl X x := by rfl)
    (hdv : (v == ("__debug__" : Str)) = false := by decide) (hcv : (v == ("__classdict__" : Str)) = false := by decide) (hd : (x == ("__debug__" : Str)) = false := by decide) (he : starEach [.Name v q2] X.env = (false, eval (.Name v q2) X.env) :: starEach [] X.env := by rfl) (hpl : (backTo pos (starEach [] X.env)).any (·.1) = false := by rfl) :
    EE X (.Call (.Name x q1) [.Name v q2] [] pos) env k := .of (pe_callP G hr hot hp hg hm hk hb (pa_cons (pe_var hN hv hdv hcv) pa_nil he) hd he hpl) fun M0 B M σ c Q hQ => by
  obtain ⟨s, hs, u, e1, r⟩ := c.slot i _ hi
  have r : u = .ref p.1 := r
  subst e1 r
  exact ⟨_, hs, h1, h2, h3, rfl, B, M, rfl, c.dis, fun v B2 s2 d2 r2 => hQ _ _ ⟨S_ z, env, B2, M, rfl, c.ext s2 d2, s2, r2, q⟩⟩
/-- isinstance(e, c), c an own class | a built-in one -/
theorem ee_isEC (i : Nat) {D : Addr} {v x : Str} {q1 q2 q3 : Pos} {b : Bool} (hm0 : X.mg "isinstance" = none) (hp : p ∈ X.pn) (T : ExcC X.K C) (h1 : p.2.cls = .ref C) (h2 : p.2.dict = none) (h3 : ∃ fs, p.2.data = .fields fs) (hm : X.mg x = some (.ref D)) (hkt : PySem.W.kitOne X.K (.ref C) (.ref D) = some b)
    (hi : env[i]? = some (.dat (.v (.ref p.1)))) (q : k (Bl b) env) (hN : X.N[i]? = some v := by rfl) (hv : Vis X.env.scope v := by first | exact Or.inl rfl | exact Or.inr (Or.inl rfl) | exact Or.inr (Or.inr rfl)) (hg0 : Gl X "isinstance" := by rfl) (hg : Gl X x := by rfl)
    (hdv : (v == ("__debug__" : Str)) = false := by decide) (hcv : (v == ("__classdict__" : Str)) = false := by decide) (hd : (x == ("__debug__" : Str)) = false := by decide)
    (he : starEach [.Name v q2, .Name x q3] X.env = (false, eval (.Name v q2) X.env) :: starEach [.Name x q3] X.env := by rfl) (he2 : starEach [.Name x q3] X.env = (false, eval (.Name x q3) X.env) :: starEach [] X.env := by rfl) (hpl : (backTo pos (starEach [.Name x q3] X.env)).any (·.1) = false := by rfl) :
    EE X (.Call (.Name "isinstance" q1) [.Name v q2, .Name x q3] [] pos) env k :=
  .of (pe_callB (cr_isH hp T h1 h2 h3) hg0 hm0 boot_isinstance (pa_cons (pe_var hN hv hdv hcv) (pa_cons (pe_glob (v := .ref D) hg hm rfl hd) pa_nil he2) he) (by decide) (by decide) he hpl) fun M0 B M σ c Q hQ => by
  obtain ⟨s, hs, u, e1, r⟩ := c.slot i _ hi
  have r : u = .ref p.1 := r
  subst e1 r
  exact ⟨_, hs, .ref D, .ref D, b, rfl, fun u r => r, hkt, hQ _ _ (.nowA c q)⟩
theorem ee_isEB (i : Nat) {v x : Str} {Tn : String} {q1 q2 q3 : Pos} {b : Bool} (hm0 : X.mg "isinstance" = none) (hp : p ∈ X.pn) (T : ExcC X.K C) (h1 : p.2.cls = .ref C) (h2 : p.2.dict = none) (h3 : ∃ fs, p.2.data = .fields fs) (hm : X.mg x = none) (hv0 : bootBuiltins x = some (.type Tn)) (hkt : PySem.W.kitOne X.K (.ref C) (.type Tn) = some b)
    (hi : env[i]? = some (.dat (.v (.ref p.1)))) (q : k (Bl b) env) (hN : X.N[i]? = some v := by rfl) (hv : Vis X.env.scope v := by first | exact Or.inl rfl | exact Or.inr (Or.inl rfl) | exact Or.inr (Or.inr rfl)) (hg0 : Gl X "isinstance" := by rfl) (hg : Gl X x := by rfl)
    (hdv : (v == ("__debug__" : Str)) = false := by decide) (hcv : (v == ("__classdict__" : Str)) = false := by decide) (hn : x ≠ "__name__" := by decide) (hd : (x == ("__debug__" : Str)) = false := by decide)
    (he : starEach [.Name v q2, .Name x q3] X.env = (false, eval (.Name v q2) X.env) :: starEach [.Name x q3] X.env := by rfl) (he2 : starEach [.Name x q3] X.env = (false, eval (.Name x q3) X.env) :: starEach [] X.env := by rfl) (hpl : (backTo pos (starEach [.Name x q3] X.env)).any (·.1) = false := by rfl) :
    EE X (.Call (.Name "isinstance" q1) [.Name v q2, .Name x q3] [] pos) env k :=
  .of (pe_callB (cr_isH hp T h1 h2 h3) hg0 hm0 boot_isinstance (pa_cons (pe_var hN hv hdv hcv) (pa_cons (pe_bltn (v := .ty Tn) hg hm hv0 rfl hn hd) pa_nil he2) he) (by decide) (by decide) he hpl) fun M0 B M σ c Q hQ => by
  obtain ⟨s, hs, u, e1, r⟩ := c.slot i _ hi
  have r : u = .ref p.1 := r
  subst e1 r
  exact ⟨_, hs, .ty Tn, .type Tn, b, rfl, fun u r => r, hkt, hQ _ _ (.nowA c q)⟩
/-- name = [x for x, y in zip(t.split(..), s) if y] -/
theorem s_lcZ (i iw iz ia ib : Nat) {x y n t sv sep tx : Str} {scope : Scope} {p pz px py pt ptt pe pos pn ps pt2 ps2 pa pc psp : Pos} {kt j : Nat} {ad : Addr} {ws : List Str} {bs : List Bool} (hotc : HotC X) (hN : X.N.Nodup) (ok : BlkOk X.N X.env.scope scope [(x, ia), (y, ib)]) (hm : X.mg "zip" = none)
    (hiw : env[iw]? = some (.dat (S_ tx))) (hiz : env[iz]? = some (.mu ad (.lst (bs.map Bl)))) (hsp : Txt.split tx sep = ws) (hl : ws.length = bs.length) (hle : ws.length ≤ 1000) (h0 : (sep.length == 0) = false) (htl : tx.length + 2 ≤ sizeLine) (q : i < env.length ∧ ∀ p, k4.nx (env.set i (.mu p (.lst ((pk ws bs).map S_)))))
    (hnx : ∀ (s : Shared) (H : Hp) (C : Addr) (cl : List (Str × Addr)) (fp : List Addr), PG (X.blk s H scope (compEnvC scope cl C X.env) fp) (.Name x px) (gName ia)) (hny : ∀ (s : Shared) (H : Hp) (C : Addr) (cl : List (Str × Addr)) (fp : List Addr), PG (X.blk s H scope (compEnvC scope cl C X.env) fp) (.Name y py) (gName ib))
    (ht : ∀ (s : Shared) (H : Hp) (C : Addr) (cl : List (Str × Addr)) (fp : List Addr), PE (X.blk s H scope (compEnvC scope cl C X.env) fp) (.Name y pt) (tVar ib)) (he : ∀ (s : Shared) (H : Hp) (C : Addr) (cl : List (Str × Addr)) (fp : List Addr), PE (X.blk s H scope (compEnvC scope cl C X.env) fp) (.Name x pe) (tVar ia))
    (hw : PE X (.Name t pt2) (tVar iw)) (hz : PE X (.Name sv ps2) (tVar iz))
    (hes : ∀ (s : Shared) (H : Hp) (C : Addr) (cl : List (Str × Addr)) (fp : List Addr), (assignEach [.Name x px, .Name y py] (X.blk s H scope (compEnvC scope cl C X.env) fp).env).length = 2 ∧ (assignEach [.Name x px, .Name y py] (X.blk s H scope (compEnvC scope cl C X.env) fp).env).findIdx? (·.1) = none)
    (hab : ia ≠ ib := by decide) (hg : Gl X "zip" := by rfl) (hy : X.N[i]? = some n := by rfl) (hyl : X.env.scope.names.lookup n = some .local := by rfl)
    (hbase : attributeBase (.Name t pt2) "split" X.env (eval (.Name t pt2) X.env) = eval (.Name t pt2) X.env := by rfl) (hline : (pa.endLine == psp.line) = true := by rfl) (hss : starEach [.Constant (.str sep) j pc] X.env = [(false, eval (.Constant (.str sep) j pc) X.env)] := by rfl)
    (hsw : swapsWith (.ListComp (.Name x pe) [⟨.Tuple [.Name x px, .Name y py] kt ptt, .Call (.Name "zip" p) [.Call (.Attribute (.Name t pt2) "split" pa) [.Constant (.str sep) j pc] [] psp, .Name sv ps2] [] pz, [.Name y pt], 0⟩] scope pos) (some (.Name n pn)) ps.line X.env = pure true := by rfl)
    (hs1 : starEach [.Call (.Attribute (.Name t pt2) "split" pa) [.Constant (.str sep) j pc] [] psp, .Name sv ps2] X.env = (false, eval (.Call (.Attribute (.Name t pt2) "split" pa) [.Constant (.str sep) j pc] [] psp) X.env) :: starEach [.Name sv ps2] X.env := by rfl)
    (hs2 : starEach [.Name sv ps2] X.env = (false, eval (.Name sv ps2) X.env) :: starEach [] X.env := by rfl) (hpl : (backTo pz (starEach [.Name sv ps2] X.env)).any (·.1) = false := by rfl) :
    S1 X (.Assign [.Name n pn] (.ListComp (.Name x pe) [⟨.Tuple [.Name x px, .Name y py] kt ptt, .Call (.Name "zip" p) [.Call (.Attribute (.Name t pt2) "split" pa) [.Constant (.str sep) j pc] [] psp, .Name sv ps2] [] pz, [.Name y pt], 0⟩] scope pos) ps) env k4 :=
  .of (ps_lcZ (tt := fun σ H Q => tVar ib σ H fun v H1 => ∃ b, v = .bl b ∧ Q b H1) hotc hN ok hab hg hm (pa_cons (pe_split hw pe_str hss hbase hline) (pa_cons hz pa_nil hs2) hs1) hnx hny (fun s H C cl fp => pts_one (pt_val (ht s H C cl fp))) (fun σ H b Q e q => ⟨_, e, b, rfl, q⟩) he hes hy hyl hsw (by intro _; rfl) hs1 hpl) fun M0 B M σ c Dd h1 h2 h3 h4 => by
  obtain ⟨s1, e1, u1, es1, r1⟩ := c.slot iw _ hiw
  obtain ⟨s2, e2, es2, o2, ho2, xs2, rfl, r2⟩ := c.slot iz _ hiz
  have r1 : u1 = .str tx := r1
  subst es1 r1 es2
  have ex2 : xs2 = bs.map V.bl := by
    have em : bs.map Bl = (bs.map V.bl).map D.v := by rw [List.map_map]; rfl
    rw [em] at r2
    exact r2.atoms_eq
  subst ex2
  refine ⟨_, e1, ⟨tx, rfl⟩, tx, sep, rfl, rfl, h0, htl, fun p1 hp1 => ?_⟩
  obtain ⟨n1, n2⟩ := J_none hp1
  have c1 := c.new (o := .lst ((Txt.split tx sep).map V.str)) n1 n2
  refine ⟨_, e2, p1, ad, (Txt.split tx sep).map V.str, bs, rfl, SqL.of upd_same, ?_, by rw [List.length_map, hsp]; exact hl, by rw [List.length_map, hsp]; exact hle, fun L hL => ?_⟩
  · rw [upd_JB n1]
    exact SqL.of (J_M ho2)
  · rw [upd_JB n1] at hL ⊢
    obtain ⟨m1, m2⟩ := J_none hL
    obtain ⟨B2, M2, e3, s3, c3⟩ := c1.setM i (p := L) (mo := .lst ((pk ws bs).map S_)) (o := .lst (pk ((Txt.split tx sep).map V.str) bs)) m1 m2 ⟨_, rfl, by
      rw [hsp, pk_map]
      have em : (pk ws bs).map S_ = ((pk ws bs).map V.str).map D.v := by rw [List.map_map]; rfl
      rw [em]
      exact RpA.atoms⟩ q.1
    rw [upd_JM, ← e3]
    exact h1 _ _ ⟨_, B2, M2, rfl, c3, (same_new n2).trans s3, q.2 L⟩
end
/-! ### the own classes of exceptions -/
section
variable {K : PySem.W.Frag} {C D : Addr} {b : Bool}
theorem kit_own (hd : PySem.W.hasDictIn K D = true) (ty : PySem.W.typeIn K (.ref D) = some (.type "type")) (s : PySem.W.subIn K (.ref C) (.ref D) = some b) (self : PySem.W.subIn K (.ref C) (.ref C) = some true) : PySem.W.kitOne K (.ref C) (.ref D) = some b := by
  unfold PySem.W.kitOne
  by_cases h : (Value.ref C == Value.ref D) = true
  · rw [if_pos h]
    have e : C = D := Value.ref.inj (eq_of_beq h)
    subst e
    rw [s] at self
    exact self.symm
  · rw [if_neg h]
    obtain ⟨cd, hc, _⟩ := PySem.W.any_some hd
    show (if ((PySem.W.clsIn K D).isSome && PySem.W.typeIn K (.ref D) == some (.type "type")) = true then PySem.W.subIn K (.ref C) (.ref D) else none) = some b
    rw [hc, ty, if_pos (by rfl)]
    exact s
theorem kit_blt (s : PySem.W.subIn K (.ref C) (.type "ValueError") = some b) : PySem.W.kitOne K (.ref C) (.type "ValueError") = some b := by
  unfold PySem.W.kitOne
  rw [if_neg (fun z => by cases eq_of_beq z)]
  show (if PySem.W.kitMeta "ValueError" = true then PySem.W.subIn K (.ref C) (.type "ValueError") else none) = some b
  rw [if_pos (by decide +kernel)]
  exact s
/-- what is known of the class C of exceptions: L the base class, Cs the classes that are asked, fl the answers -/
structure ErrK (K : PySem.W.Frag) (C L : Addr) (Cs : List Addr) (fl : List Bool) : Prop where
  t : ExcT K C
  c : ExcC K C
  ki : ∀ (j : Nat) (D : Addr) (b : Bool), Cs[j]? = some D → fl[j]? = some b → PySem.W.kitOne K (.ref C) (.ref D) = some b
  kv : PySem.W.kitOne K (.ref C) (.type "ValueError") = some true
  ex : PySem.W.exmOne K (.ref C) (.ref L) = some true
theorem ki_nil : ∀ (j : Nat) (D : Addr) (b : Bool), ([] : List Addr)[j]? = some D → ([] : List Bool)[j]? = some b → PySem.W.kitOne K (.ref C) (.ref D) = some b := fun j D b h _ => by cases h
theorem ki_cons {D0 : Addr} {b0 : Bool} {Cs : List Addr} {fl : List Bool} (h : PySem.W.kitOne K (.ref C) (.ref D0) = some b0) (r : ∀ (j : Nat) (D : Addr) (b : Bool), Cs[j]? = some D → fl[j]? = some b → PySem.W.kitOne K (.ref C) (.ref D) = some b) :
    ∀ (j : Nat) (D : Addr) (b : Bool), (D0 :: Cs)[j]? = some D → (b0 :: fl)[j]? = some b → PySem.W.kitOne K (.ref C) (.ref D) = some b
  | 0, D, b, h1, h2 => by
    cases h1
    cases h2
    exact h
  | j + 1, D, b, h1, h2 => r j D b h1 h2
end
/-! ### try: .. except LaneError as e: return f(e) -/
section
variable {X : Cx} {env : Env_} {k4 : K4} {C : Addr} {n : Nat} {f : Addr} {fd : FuncData} {x y v z : Str} {q1 q2 pos rpos : Pos}
theorem ss_err (i : Nat) {a : Addr} {oe : Obj} {pn : List (Addr × Obj)} (G : FnP X.prog X.w X.K X.mg X.base n f fd [y] (spE X.K C z)) (hr : Room n X.A) (hm : X.mg x = some (.ref f)) (hk : PySem.W.keepIn X.K (.ref f) = true) (hb : Binds X.K fd [y] []) (hil : i < env.length)
    (q : k4.rt (.d (S_ z)) (env.set i (.dat (.v (.ref a))))) (hz : L2N.Zn (.ref C) none oe) (hf : ∃ vs, oe.data = .fields vs) (hN : X.N[i]? = some v := by rfl) (hv : Vis X.env.scope v := by first | exact Or.inl rfl | exact Or.inr (Or.inl rfl) | exact Or.inr (Or.inr rfl)) (hg : Gl X x := by rfl)
    (hdv : (v == ("__debug__" : Str)) = false := by decide) (hcv : (v == ("__classdict__" : Str)) = false := by decide) (hd : (x == ("__debug__" : Str)) = false := by decide) (he : starEach [.Name v q2] X.env = (false, eval (.Name v q2) X.env) :: starEach [] X.env := by rfl) (hpl : (backTo pos (starEach [] X.env)).any (·.1) = false := by rfl) :
    SS (X.suite a ((a, oe) :: pn)) [.Return (some (.Call (.Name x q1) [.Name v q2] [] pos)) rpos] (env.set i (.dat (.v (.ref a)))) (kSuite k4 i) := by
  have hot : Hot1 (X.suite a ((a, oe) :: pn)).A (a, oe) := ⟨rfl, by
    obtain ⟨vs, e⟩ := hf
    exact ⟨vs, e, hz.2.2 vs e⟩⟩
  have hrh : RoomH n (X.suite a ((a, oe) :: pn)).A := ⟨hr.dp, hr.un⟩
  exact ss_one (s_ret (ee_errName (X := X.suite a ((a, oe) :: pn)) (p := (a, oe)) i G hrh hot List.mem_cons_self hz.1 hz.2.1 hf hm hk hb (List.getElem?_set_self hil) q hN hv hg hdv hcv hd he hpl))
theorem s_outcome (i : Nat) {c : Value} {body : List Stmt} {xc : Str} {np pos' tpos : Pos} (G : FnP X.prog X.w X.K X.mg X.base n f fd [y] (spE X.K C z)) (hr : Room n X.A) (hm : X.mg x = some (.ref f)) (hk : PySem.W.keepIn X.K (.ref f) = true) (hb : Binds X.K fd [y] [])
    (hN : X.N.Nodup) (hc : Names X xc c) (ex : PySem.W.exmOne X.K (.ref C) c = some true)
    (h : ∀ (pn : List (Addr × Obj)) (xe : Value → Shared → Prop) (W : WX), L2N.Takes (X.tr pn xe) W → SX (X.tr pn xe) W body env fun cls e => cls = .ref C ∧ i < e.length ∧ ∀ a : Addr, k4.rt (.d (S_ z)) (e.set i (.dat (.v (.ref a)))))
    (hi : X.N[i]? = some v := by rfl) (hln : X.env.kindOf v = some .local := by rfl) (hs : X.stack = X.env :: X.outer := by rfl) (hf : X.env.frame = some X.env.locals := by rfl) (hv : Vis X.env.scope v := by first | exact Or.inl rfl | exact Or.inr (Or.inl rfl) | exact Or.inr (Or.inr rfl)) (hg : Gl X x := by rfl)
    (hdv : (v == ("__debug__" : Str)) = false := by decide) (hcv : (v == ("__classdict__" : Str)) = false := by decide) (hd : (x == ("__debug__" : Str)) = false := by decide) (he : starEach [.Name v q2] X.env = (false, eval (.Name v q2) X.env) :: starEach [] X.env := by rfl) (hpl : (backTo pos (starEach [] X.env)).any (·.1) = false := by rfl) :
    S1 X (.Try body [.ExceptHandler (some (.Name xc np)) (some v) [.Return (some (.Call (.Name x q1) [.Name v q2] [] pos)) rpos] pos'] [] [] tpos) env k4 :=
  s_tryX i h (fun cls e hh => by
    obtain ⟨rfl, hl, q⟩ := hh
    exact ⟨ex, fun a oe pn hz hf2 => ss_err i G hr hm hk hb hl (q a) hz hf2 hi hv hg hdv hcv hd he hpl⟩) hN hc hs hf hi hln
end
end Sy
namespace Sy
open PySem PySem.Spec PyProof.Rows L2
/-! ### a def out of a list: [f, .., g][i](..) -/
def PostV (K : PySem.W.Frag) (M0 : Hp) (σ : L2.St) (B : Hp) (k : V → Env_ → Prop) : VK := fun v H => ∃ env' B' M', H = J B' M' ∧ Conc K M0 env' B' M' σ ∧ Same B B' ∧ k v env'
def LV (K : PySem.W.Frag) (t : TE) (env : Env_) (k : V → Env_ → Prop) : Prop := ∀ (M0 B M : Hp) (σ : L2.St), Conc K M0 env B M σ → ∀ Q : VK, (∀ v H, PostV K M0 σ B k v H → Q v H) → t σ (J B M) Q
def EV (X : Cx) (e : Expr) (env : Env_) (k : V → Env_ → Prop) : Prop := LV X.K (canE X e) env k
/-- globals that are defs, as values -/
def tVs (vs : List V) : TA := fun _ H Q => Q vs H
section
variable {X : Cx} {K : PySem.W.Frag} {e a b c fe : Expr} {es rest : List Expr} {env : Env_} {k : V → Env_ → Prop} {ke : D → Env_ → Prop} {km : MO → Env_ → Prop} {pos p : Pos} {t : TE}
theorem EV.of (h : PE X e t) (q : LV X.K t env k) : EV X e env k := fun M0 B M σ c Q hQ pins s I => h.run pins s σ _ Q I (q M0 B M σ c Q hQ)
theorem pv_nil : PA X [] (tVs []) := pa_nil
theorem pv_cons {x : Str} {f : Addr} {vs : List V} (hm : X.mg x = some (.ref f)) (h : PA X es (tVs vs)) (hg : Gl X x := by rfl) (hd : (x == ("__debug__" : Str)) = false := by decide) (hs : starEach (.Name x p :: es) X.env = (false, eval (.Name x p) X.env) :: starEach es X.env := by rfl) : PA X (.Name x p :: es) (tVs (.ref f :: vs)) :=
  pa_cons (te := tC (.ref f)) (t := tVs vs) (pe_glob hg hm rfl hd) h hs
theorem ev_ix {vs : List V} {p2 : Pos} (hv : PA X es (tVs vs)) (hz : vs.length ≤ 1000) (h : EE X b env fun d env1 => ∃ i v, d = I i ∧ atI vs i = some v ∧ k v env1) (hs : PlainIx b := by exact fun _ _ => rfl) : EV X (.Subscript (.List es p) b p2) env k :=
  .of (pe_ix ix_list (pe_lst hv) pe_can hs) fun M0 B M σ c Q hQ => by
    refine ⟨by rw [sizeLine_eq]; omega, fun ad hp => ?_⟩
    obtain ⟨h1, h2⟩ := J_none hp
    have e0 : upd (J B M) ad (.lst vs) = J (upd B ad (.lst vs)) M := upd_JB h1
    rw [e0]
    refine h M0 _ M σ (c.new h1 h2) _ fun v H ⟨d, env1, B1, M1, e1, c1, s1, r1, i, v2, e2, hi, q⟩ => ?_
    subst e1 e2
    cases r1
    refine ⟨ad, vs, i, v2, rfl, rfl, ?_, hi, hQ _ _ ⟨env1, B1, M1, rfl, c1, (same_new h2).trans s1, q⟩⟩
    exact sqL_same c1.same (sqL_same s1 (SqL.of upd_same))
variable {CX : CXT} {E : XK}
theorem arm_call_any (hnA : eval (.Call fe es [] pos) X.env = (do callWith pos (← eval fe X.env) [] (backTo pos (starEach es X.env)) (backToKw pos (keywordEach [] X.env)))) : True := trivial
/-- what a call of f needs -/
def CallOk (X : Cx) (CX : CXT) (f : Addr) (F : FSp) : Prop := ∃ (n : Nat) (fd : FuncData) (ps : List Str), FnOk X.prog X.w X.K X.mg X.base CX n f fd ps (spF X.K F) ∧ Room n X.A ∧ PySem.W.keepIn X.K (.ref f) = true ∧ Binds X.K fd ps []
theorem ee_callV (hx : Passes CX X E) (h : EV X fe env fun v env1 => ∃ f F, v = .ref f ∧ CallOk X CX f F ∧ ED X (e :: es) env1 fun ds env' => F ds fun r => ∃ d, r = .d d ∧ ke d env')
    (hc : eval (.Call fe (e :: es) [] pos) X.env = (do callWith pos (← eval fe X.env) [] (backTo pos (starEach (e :: es) X.env)) (backToKw pos (keywordEach [] X.env))) := by rfl)
    (he : starEach (e :: es) X.env = (false, eval e X.env) :: starEach es X.env := by rfl) (hpl : (backTo pos (starEach es X.env)).any (·.1) = false := by rfl) :
    EE X (.Call fe (e :: es) [] pos) env ke := fun M0 B M σ c Q hQ pins s I => by
  rw [hc]
  refine wpAny_bind (thn (h M0 B M σ c (fun v H => PostV X.K M0 σ B (fun v env1 => ∃ f F, v = .ref f ∧ CallOk X CX f F ∧ ED X (e :: es) env1 fun ds env' => F ds fun r => ∃ d, r = .d d ∧ ke d env') v H) (fun v H p => p) pins s I) fun u s1 hh => ?_)
  obtain ⟨v, H1, I1, r1, env1, B1, M1, e1, c1, sm1, f, F, e2, ⟨n, fd, ps, G, hr, hk, hb⟩, hd⟩ := hh
  subst e1 e2
  obtain rfl : u = Value.ref f := r1
  refine PySem.W.callWith_K (h₀ := X.base) I1.ok.mod.kin hk (thn (hd M0 B1 M1 σ c1 (fun vs H => PostDs X.K M0 σ B1 (fun ds env' => F ds fun r => ∃ d, r = .d d ∧ ke d env') vs H) (fun vs H p => p) pos pins s1 I1) fun us s2 hh => ?_) he hpl
  obtain ⟨vs, H2, I2, r, ds, env', B', M', e1, c', sm, rr, q⟩ := hh
  subst e1
  refine ⟨I2.kIn, ?_⟩
  refine run_fn (dvs := []) (ds := []) G hr hb .nil hx I2 r ⟨B', M', ds, _, rfl, c'.dis, by rw [List.append_nil]; exact rr, q, fun r h => ?_⟩
  obtain ⟨d, rfl, h⟩ := h
  intro v B2 s2 d2 r2
  exact hQ _ _ ⟨d, env', B2, M', rfl, c'.ext s2 d2, (sm1.trans sm).trans s2, r2, h⟩
theorem em_callV (hx : Passes CX X E) (h : EV X fe env fun v env1 => ∃ f F, v = .ref f ∧ CallOk X CX f F ∧ ED X (e :: es) env1 fun ds env' => F ds fun r => ∃ mo, r = .m mo ∧ km mo env')
    (hc : eval (.Call fe (e :: es) [] pos) X.env = (do callWith pos (← eval fe X.env) [] (backTo pos (starEach (e :: es) X.env)) (backToKw pos (keywordEach [] X.env))) := by rfl)
    (he : starEach (e :: es) X.env = (false, eval e X.env) :: starEach es X.env := by rfl) (hpl : (backTo pos (starEach es X.env)).any (·.1) = false := by rfl) :
    EM X (.Call fe (e :: es) [] pos) env km := fun M0 B M σ c Q hQ pins s I => by
  rw [hc]
  refine wpAny_bind (thn (h M0 B M σ c (fun v H => PostV X.K M0 σ B (fun v env1 => ∃ f F, v = .ref f ∧ CallOk X CX f F ∧ ED X (e :: es) env1 fun ds env' => F ds fun r => ∃ mo, r = .m mo ∧ km mo env') v H) (fun v H p => p) pins s I) fun u s1 hh => ?_)
  obtain ⟨v, H1, I1, r1, env1, B1, M1, e1, c1, sm1, f, F, e2, ⟨n, fd, ps, G, hr, hk, hb⟩, hd⟩ := hh
  subst e1 e2
  obtain rfl : u = Value.ref f := r1
  refine PySem.W.callWith_K (h₀ := X.base) I1.ok.mod.kin hk (thn (hd M0 B1 M1 σ c1 (fun vs H => PostDs X.K M0 σ B1 (fun ds env' => F ds fun r => ∃ mo, r = .m mo ∧ km mo env') vs H) (fun vs H p => p) pos pins s1 I1) fun us s2 hh => ?_) he hpl
  obtain ⟨vs, H2, I2, r, ds, env', B', M', e1, c', sm, rr, q⟩ := hh
  subst e1
  refine ⟨I2.kIn, ?_⟩
  refine run_fn (dvs := []) (ds := []) G hr hb .nil hx I2 r ⟨B', M', ds, _, rfl, c'.dis, by rw [List.append_nil]; exact rr, q, fun r h => ?_⟩
  obtain ⟨mo, rfl, h⟩ := h
  intro a o B2 s2 d2 n1 n2 r2
  exact hQ _ _ ⟨a, mo, o, env', B2, M', rfl, rfl, n1, n2, c'.ext s2 d2, (sm1.trans sm).trans s2, r2, h⟩
end
/-- what a call of f that raises needs -/
def CallOkX (X : Cx) (f : Addr) (F : FSx) : Prop := ∃ (n : Nat) (fd : FuncData) (ps : List Str), FnOk X.prog X.w X.K X.mg X.base (L2N.CX X.prog X.w) n f fd ps (spX X.K F) ∧ Room n X.A ∧ PySem.W.keepIn X.K (.ref f) = true ∧ Binds X.K fd ps []
section
variable {X : Cx} {W : WX} {K : PySem.W.Frag} {e fe : Expr} {es : List Expr} {env : Env_} {kx : Value → Env_ → Prop} {pos pos0 : Pos}
theorem sx_callV (tk : L2N.Takes X W) (h : EV X fe env fun v env1 => ∃ f F, v = .ref f ∧ CallOkX X f F ∧ ED X (e :: es) env1 fun ds env' => F ds fun cls => kx cls env')
    (hs : swapsWith (.Call fe (e :: es) [] pos) none pos0.line X.env = pure false := by rfl)
    (hc : eval (.Call fe (e :: es) [] pos) X.env = (do callWith pos (← eval fe X.env) [] (backTo pos (starEach (e :: es) X.env)) (backToKw pos (keywordEach [] X.env))) := by rfl)
    (he : starEach (e :: es) X.env = (false, eval e X.env) :: starEach es X.env := by rfl) (hpl : (backTo pos (starEach es X.env)).any (·.1) = false := by rfl) :
    SX1 X W (.Expr (.Call fe (e :: es) [] pos) pos0) env kx := fun M0 B M σ c hW Dd pins s I => (ps_expr (pe_can (X := X) (e := .Call fe (e :: es) [] pos)) hs).run pins s σ _ Dd I fun pins s I => by
  rw [hc]
  refine wpAny_bind (thn (h M0 B M σ c (fun v H => PostV X.K M0 σ B (fun v env1 => ∃ f F, v = .ref f ∧ CallOkX X f F ∧ ED X (e :: es) env1 fun ds env' => F ds fun cls => kx cls env') v H) (fun v H p => p) pins s I) fun u s1 hh => ?_)
  obtain ⟨v, H1, I1, r1, env1, B1, M1, e1, c1, sm1, f, F, e2, ⟨n, fd, ps, G, hr, hk, hb⟩, hd⟩ := hh
  subst e1 e2
  obtain rfl : u = Value.ref f := r1
  refine PySem.W.callWith_K (h₀ := X.base) I1.ok.mod.kin hk (thn (hd M0 B1 M1 σ c1 (fun vs H => PostDs X.K M0 σ B1 (fun ds env' => F ds fun cls => kx cls env') vs H) (fun vs H p => p) pos pins s1 I1) fun us s2 hh => ?_) he hpl
  obtain ⟨vs, H2, I2, r, ds, env', B', M', e1, c', sm, rr, q⟩ := hh
  subst e1
  refine ⟨I2.kIn, ?_⟩
  exact run_fnS G hr hb (L2N.passAt tk σ) I2 r ⟨B', M', ds, _, rfl, c'.dis, rr, q, fun cls hq B2 s2 d2 => hW _ _ _ _ ⟨rfl, env', B2, M', rfl, c'.ext s2 d2, (sm1.trans sm).trans s2, hq⟩⟩
end
end Sy
namespace Sy
open PySem PySem.Spec PyProof.Rows L2
section
variable {X : Cx} {K : PySem.W.Frag} {e a b c : Expr} {env : Env_} {km : MO → Env_ → Prop} {pos p : Pos}
/-- dict(d) -/
theorem em_dictD (hm : X.mg "dict" = none) (h : EE X e env fun d env' => ∃ kvs : List (Key × D), d = .dct kvs ∧ km (.dK kvs) env') (hc : X.calm = true := by rfl) (hg : Gl X "dict" := by rfl) (he : starEach (e :: []) X.env = (false, eval e X.env) :: starEach [] X.env := by rfl) (hpl : (backTo pos (starEach [] X.env)).any (·.1) = false := by rfl) : EM X (.Call (.Name "dict" p) [e] [] pos) env km :=
  .of (pe_callTy call_dictD hg hm (by decide +kernel) (pa_cons pe_can pa_nil he) (by decide) (by decide) he hpl) fun M0 B M σ c Q hQ => h M0 B M σ c _ fun v H ⟨d, env', B', M', e1, c', sm, r, kvs, e2, q⟩ => by
    subst e1 e2
    obtain ⟨ad, ks, o, rfl, hB, hr⟩ := r
    exact ⟨ad, ks, rfl, rd_same c'.same (.inr ⟨o, hB⟩), fun p hp => hQ _ _ ((PostM.new (mo := .dK kvs) c' hp ⟨_, rfl, hr⟩ q).back sm)⟩
end
/-! ### a dict of one's own, lent to a def -/
mutual
/-- data in which there is no dict and no list -/
def flatD : D → Prop
  | .v _ => True
  | .tup ds => flatA ds
  | _ => False
def flatA : List D → Prop
  | [] => True
  | d :: ds => flatD d ∧ flatA ds
end
section
variable {K : PySem.W.Frag} {B : Hp} {ad : Addr} {od : Obj} {u : HO}
theorem PlT.del {a : Addr} {xs : List V} (hB : B ad = some (.frz od u)) (hu : ∀ xs, u ≠ .tup xs) (h : PlT K B a xs) : PlT K (del B ad) a xs := by
  rcases h with ⟨o, h, q⟩ | h
  · refine .inl ⟨o, ?_, q⟩
    rw [del_ne (fun z => by rw [z, hB] at h; cases h; exact hu _ rfl)]
    exact h
  · exact .inr h
mutual
theorem Rp.del (hB : B ad = some (.frz od u)) (hu : ∀ xs, u ≠ .tup xs) : ∀ (d : D) (v : V), flatD d → Rp K B d v → Rp K (del B ad) d v
  | .v x, v, _, h => h
  | .tup ds, v, f, h => by
    obtain ⟨a, xs, e1, h1, h2⟩ := h
    exact ⟨a, xs, e1, h1.del hB hu, RpA.del hB hu ds xs f h2⟩
  | .wt _, _, f, _ => f.elim
  | .lst _, _, f, _ => f.elim
  | .dct _, _, f, _ => f.elim
  | .dti _, _, f, _ => f.elim
theorem RpA.del (hB : B ad = some (.frz od u)) (hu : ∀ xs, u ≠ .tup xs) : ∀ (ds : List D) (vs : List V), flatA ds → RpA K B ds vs → RpA K (del B ad) ds vs
  | [], vs, _, h => h
  | d :: ds, vs, f, h => by
    obtain ⟨x, r, e1, h1, h2⟩ := h
    exact ⟨x, r, e1, Rp.del hB hu d x f.1 h1, RpA.del hB hu ds r f.2 h2⟩
end
theorem J_lend {M : Hp} {o : HO} (h : M ad = some o) {w : HO} : upd (J B M) ad w = J (upd B ad w) (del M ad) := by
  funext b
  by_cases hb : b = ad
  · rw [hb, upd_same, J_B del_same, upd_same]
  · rw [upd_ne hb]
    cases e : M b with
    | none => rw [J_B e, J_B (by rw [del_ne hb]; exact e), upd_ne hb]
    | some u => rw [J_M e, J_M (by rw [del_ne hb]; exact e)]
theorem J_back {M : Hp} {o : HO} (h : M ad = some o) {a : Addr} {w : HO} (ha : a ≠ ad) : upd (J B (upd (del M ad) a w)) ad o = J (del B ad) (upd M a w) := by
  funext b
  by_cases hb : b = ad
  · rw [hb, upd_same, J_M (o := o) (by rw [upd_ne (Ne.symm ha)]; exact h)]
  · rw [upd_ne hb]
    by_cases hc : b = a
    · rw [hc, J_M upd_same, J_M upd_same]
    · cases e : M b with
      | none => rw [J_B (by rw [upd_ne hc, del_ne hb]; exact e), J_B (by rw [upd_ne hc]; exact e), del_ne hb]
      | some u => rw [J_M (o := u) (by rw [upd_ne hc, del_ne hb]; exact e), J_M (o := u) (by rw [upd_ne hc]; exact e)]
end
section
variable {X : Cx} {CX : CXT} {E : XK} {f : Addr} {fd : FuncData} {ps : List Str} {n : Nat} {x : Str} {a b c : Expr} {env : Env_} {km : MO → Env_ → Prop} {pos p pn : Pos}
/-- f(a, b, c, d), d a dict of one's own in slot i; f makes a list -/
theorem em_callL (i : Nat) {y : Str} {ad : Addr} {mo0 : MO} {F : FSp} (hi0 : env[i]? = some (.mu ad mo0)) (G : FnOk X.prog X.w X.K X.mg X.base CX n f fd ps (spF X.K F)) (hr : Room n X.A) (hm : X.mg x = some (.ref f)) (hk : PySem.W.keepIn X.K (.ref f) = true) (hb : Binds X.K fd ps []) (hx : Passes CX X E)
    (h : EE X a env fun d1 env1 => EE X b env1 fun d2 env2 => EE X c env2 fun d3 env3 => ∃ kvs, env3[i]? = some (.mu ad (.dK kvs)) ∧ F [d1, d2, d3, .dct kvs] fun r => ∃ ds, r = .m (.lst ds) ∧ flatA ds ∧ km (.lst ds) env3)
    (hN : X.N[i]? = some y := by rfl) (hv : Vis X.env.scope y := by first | exact Or.inl rfl | exact Or.inr (Or.inl rfl) | exact Or.inr (Or.inr rfl)) (hd : (y == ("__debug__" : Str)) = false := by decide) (hcd : (y == ("__classdict__" : Str)) = false := by decide)
    (hg : Gl X x := by rfl) (hdb : (x == ("__debug__" : Str)) = false := by decide)
    (h1 : starEach [a, b, c, .Name y pn] X.env = (false, eval a X.env) :: starEach [b, c, .Name y pn] X.env := by rfl) (h2 : starEach [b, c, .Name y pn] X.env = (false, eval b X.env) :: starEach [c, .Name y pn] X.env := by rfl) (h3 : starEach [c, .Name y pn] X.env = (false, eval c X.env) :: starEach [.Name y pn] X.env := by rfl)
    (h4 : starEach [.Name y pn] X.env = (false, eval (.Name y pn) X.env) :: starEach [] X.env := by rfl) (hpl : (backTo pos (starEach [b, c, .Name y pn] X.env)).any (·.1) = false := by rfl) :
    EM X (.Call (.Name x p) [a, b, c, .Name y pn] [] pos) env km := fun M0 B M σ c0 Q hQ pins s I => by
  have ha : PA X [a, b, c, .Name y pn] (tCons (canE X a) (tCons (canE X b) (tCons (canE X c) (tCons (tVar i) tNil)))) := pa_cons pe_can (pa_cons pe_can (pa_cons pe_can (pa_cons (pe_var hN hv hd hcd) pa_nil h4) h3) h2) h1
  refine wpAny_Call_Name_kw (ld_glob I hg hm ?_ hdb)
  refine PySem.W.callWith_K (h₀ := X.base) I.ok.mod.kin hk (thn (ha.run pos pins s σ _ (fun vs H => ∃ d1 d2 d3 v1 v2 v3 env3 B3 M3 kvs, H = J B3 M3 ∧ vs = [v1, v2, v3, V.ref ad] ∧ Conc X.K M0 env3 B3 M3 σ ∧ Same B B3 ∧ Rp X.K B3 d1 v1 ∧ Rp X.K B3 d2 v2 ∧ Rp X.K B3 d3 v3 ∧ env3[i]? = some (.mu ad (.dK kvs)) ∧ F [d1, d2, d3, .dct kvs] fun r => ∃ ds, r = .m (.lst ds) ∧ flatA ds ∧ km (.lst ds) env3) I ?_) fun us s1 hh => ?_) h1 hpl
  · refine h M0 B M σ c0 _ fun v1 H ⟨d1, env1, B1, M1, e1, c1, s1, r1, q1⟩ => ?_
    subst e1
    refine q1 M0 B1 M1 σ c1 _ fun v2 H ⟨d2, env2, B2, M2, e2, c2, s2, r2, q2⟩ => ?_
    subst e2
    refine q2 M0 B2 M2 σ c2 _ fun v3 H ⟨d3, env3, B3, M3, e3, c3, s3, r3, kvs, hi, q3⟩ => ?_
    subst e3
    obtain ⟨s4, hs4, es4, o4, ho4, ks, rfl, hr4⟩ := c3.slot i _ hi
    exact ⟨V.ref ad, by rw [hs4, es4], d1, d2, d3, v1, v2, v3, env3, B3, M3, kvs, rfl, rfl, c3, (s1.trans s2).trans s3, Rp.mono (s2.trans s3) _ _ r1, Rp.mono s3 _ _ r2, r3, hi, q3⟩
  obtain ⟨vs, H1, I1, rv, d1, d2, d3, v1, v2, v3, env3, B3, M3, kvs, rfl, rfl, c3, sm, r1, r2, r3, hi, q⟩ := hh
  refine ⟨I1.kIn, ?_⟩
  obtain ⟨s4, hs4, es4, o4, ho4, ks, rfl, hr4⟩ := c3.slot i _ hi
  have hn := I1.nofrz (J_M ho4) trivial
  obtain ⟨od, I2⟩ := I1.lock (J_M ho4) trivial
  have hB3 : B3 ad = none := c3.dis _ _ ho4
  rw [J_lend ho4] at I2
  have sL : Same B3 (upd B3 ad (.frz od (.dK ks))) := same_new hB3
  refine thn (run_fn (dvs := []) (ds := []) (Q := fun v H' => H' ad = some (.frz od (.dK ks)) ∧ Q v (upd H' ad (.dK ks))) G hr hb .nil hx I2 rv ⟨upd B3 ad (.frz od (.dK ks)), del M3 ad, [d1, d2, d3, .dct kvs], _, rfl, fun b o hb => ?_, ?_, q, fun r h => ?_⟩) fun u s' hh => ?_
  · have hne : b ≠ ad := fun z => by rw [z, del_same] at hb; cases hb
    rw [del_ne hne] at hb
    rw [upd_ne hne]
    exact c3.dis _ _ hb
  · exact ⟨v1, _, rfl, Rp.mono sL _ _ r1, v2, _, rfl, Rp.mono sL _ _ r2, v3, _, rfl, Rp.mono sL _ _ r3, V.ref ad, _, rfl, ⟨ad, ks, od, rfl, upd_same, hr4.mono sL⟩, rfl⟩
  · obtain ⟨ds, rfl, fl, h⟩ := h
    intro a o B4 s4 d4 n1 n2 r4
    have hB4 : B4 ad = some (.frz od (.dK ks)) := s4 _ _ upd_same
    have hne : a ≠ ad := fun z => by rw [z, hB4] at n2; cases n2
    refine ⟨?_, ?_⟩
    · rw [J_B (by rw [upd_ne (Ne.symm hne)]; exact del_same)]
      exact hB4
    · rw [J_back ho4 hne]
      have nM : M3 a = none := by rw [← del_ne (M := M3) hne]; exact n1
      have sB : Same B3 (del B4 ad) := fun b o e => by
        have hb : b ≠ ad := fun z => by rw [z, hB3] at e; cases e
        rw [del_ne hb]
        exact s4 _ _ (sL _ _ e)
      obtain ⟨xs, rfl, hr5⟩ := r4
      exact hQ _ _ ⟨a, .lst ds, _, env3, del B4 ad, M3, rfl, rfl, nM, by rw [del_ne hne]; exact n2, c3.ext sB (fun b o e => by
        by_cases hb : b = ad
        · rw [hb, del_same]
        · rw [del_ne hb]
          exact d4 b o (by rw [del_ne hb]; exact e)), sm.trans sB, ⟨xs, rfl, RpA.del hB4 (fun xs z => by cases z) ds xs fl hr5⟩, h⟩
  · obtain ⟨v, H', I', r, hf, q⟩ := hh
    exact ⟨v, _, I'.unlock hf hn, r, q⟩
end
end Sy
namespace Sy
open PySem PySem.Spec PyProof.Rows L2
/-! ### {(a, b): c} -/
section
variable {prog : Program} {w : World} {A : Around} {E : Value → Shared → Prop} {s : Shared} {env : Env}
theorem wpAny_Dict1 {a b : Expr} {pos : Pos} {Q : Value → Shared → Prop}
    (h : wpAny (model prog w) A (eval a env) (fun kv s1 => wpAny (model prog w) A (eval b env) (fun vv s2 => wpAny (model prog w) A (dictSet s.heap.objs.size kv vv) (fun _ s3 => Q (.ref s.heap.objs.size) s3) E s2) E s1) E { s with heap := s.heap.push { cls := .type "dict", data := .dict #[] } }) :
    wpAny (model prog w) A (eval (.Dict [some a] [b] pos) env) Q E s := by
  have hn := pairTrees_length [some a] [b] env pos rfl rfl
  rw [arm_eval_Dict, zip_pairTrees [some a] [b] env pos rfl rfl, dictDisplay_pairs (pairTrees [some a] [b] env pos) (fun z => by rw [z] at hn; cases hn) (by rw [hn, List.length_singleton]; omega)]
  refine wpAny_bind (wpAny_standAt (wpAny_bind ?_))
  unfold subDict
  refine wpAny_bind (wpAny_alloc ?_)
  refine wpAny_bind (wpAny_holding ?_)
  rw [if_pos (by rw [hn, List.length_singleton]; omega)]
  refine wpAny_bind (pairTrees_cons_walk (thn h fun kv s1 h1 => thn h1 fun vv s2 h2 => pairTrees_nil_walk ?_))
  refine wpAny_holding ?_
  refine wpAny_bind ?_
  rw [List.forIn_cons]
  refine wpAny_bind (wpAny_bind (thn h2 fun _ s3 h3 => wpAny_pure ?_))
  show wpAny (model prog w) A (forIn [] PUnit.unit _) _ E s3
  rw [List.forIn_nil]
  exact wpAny_pure (wpAny_pure (wpAny_pure (wpAny_pure h3)))
end
section
variable {X : Cx} {pins : List (Addr × Obj)} {σ : L2.St} {H : Hp} {s : Shared} {A : Around} {E : Value → Shared → Prop} {a q : Addr} {ks : TKs} {k : List Int} {v : V}
theorem t_dictSet {Q : Unit → Shared → Prop} {u : Value} (hu : (tupleKind (PySem.intKind X.prog X.w)).room A) (I : Inv X pins σ H s) (e : H a = some (TdO a ks)) (hk : KeysIn X.K H ks) (hq : PlT X.K H q (k.map V.int)) (hl : ks.length < sizeLine) (rv : RelV v u) (h : ∀ s', Inv X pins σ (upd H a (TdO a (putT ks k q v))) s' → Q () s') :
    wpAny (model X.prog X.w) A (dictSet a (.ref q) u) Q E s := by
  obtain ⟨hd, z, xs, rel, dd⟩ := td_at I (.inl e) hk
  have hz : xs.length ≤ sizeLine := by rw [← Paired.length rel]; exact z
  refine wpAny_dictSet_heap (hsz := hz) hu (keyT I hq) dd fun h' dd' hs => h _ ?_
  obtain ⟨o, es, ep, hq', h2, h3, h4, _, h5⟩ := dd'
  refine d_write I (by rw [e]; exact True.intro) hs ⟨o, hq'⟩ ⟨⟨hd, by have := putT_len ks k q v; omega, _, rel.put k rv, o, es, ep, hq', h2, h3, h4, h5⟩, ⟨o, hq'⟩, td_stable⟩
end
section
variable {X : Cx} {K : PySem.W.Frag} {a b : Expr} {env : Env_} {km : MO → Env_ → Prop} {pos : Pos} {ta tb : TE}
def tTDisp1 (K : PySem.W.Frag) (ta tb : TE) : TE := fun σ H Q => ∀ p, H p = none → ta σ (upd H p (TdO p [])) fun x H1 => tb σ H1 fun y H2 => H2 p = some (TdO p []) ∧ ∃ k q, x = .ref q ∧ PlT K H2 q (k.map V.int) ∧ Q (.ref p) (upd H2 p (TdO p [(k, q, y)]))
theorem pe_tdisp1 (hu : (tupleKind (PySem.intKind X.prog X.w)).room X.A) (ha : PE X a ta) (hb : PE X b tb) : PE X (.Dict [some a] [b] pos) (tTDisp1 X.K ta tb) := ⟨fun pins s σ H Q I h => by
  have hn := I.hok.fresh (Nat.le_refl s.heap.objs.size)
  have I1 := I.laid (a := s.heap.objs.size) (o := TdO s.heap.objs.size []) (h' := s.heap.push { cls := .type "dict", data := .dict #[] }) (t' := s.toks) (fun _ _ q => Heap.get?_push_of_some _ q) (Nat.le_refl _) (td_empty s.heap I.big)
  refine wpAny_Dict1 (thn (ha.run pins _ σ _ _ I1 (h _ hn)) fun u s1 ⟨x, H1, I2, rx, q1⟩ => thn (hb.run pins s1 σ H1 _ I2 q1) fun w2 s2 ⟨y, H2, I3, ry, e, k, q, ex, hq, q2⟩ => ?_)
  subst ex
  obtain rfl : u = Value.ref q := rx
  refine t_dictSet hu I3 e (fun p hp => nomatch hp) hq (by rw [sizeLine_eq]; decide) ry fun s4 I4 => ?_
  exact ⟨.ref _, _, I4, rfl, q2⟩⟩
theorem em_tdisp1 (hu : (tupleKind (PySem.intKind X.prog X.w)).room X.A) (h : EE X a env fun d1 env1 => EE X b env1 fun d2 env2 => ∃ ky : List Int, d1 = .tup (ky.map I) ∧ km (.dT [(ky, d2)]) env2) : EM X (.Dict [some a] [b] pos) env km :=
  .of (pe_tdisp1 hu pe_can pe_can) fun M0 B M σ c Q hQ p hp => by
    obtain ⟨n1, n2⟩ := J_none hp
    rw [upd_JM]
    refine h (upd M0 p (TdO p [])) B (upd M p (TdO p [])) σ (c.hide n1 n2) _ fun v1 H ⟨d1, env1, B1, M1, e1, c1, s1, r1, h2⟩ => ?_
    subst e1
    refine h2 _ B1 M1 σ c1 _ fun v2 H ⟨d2, env2, B2, M2, e2, c2, s2, r2, ky, e3, q⟩ => ?_
    subst e2 e3
    have at0 := c2.at0 (upd_same (H := M0) (a := p) (o := TdO p []))
    obtain ⟨c3, eM⟩ := c2.shown (upd_same (H := M0) (a := p) (o := TdO p []))
    have h0 : M0 p = none := by
      rw [← c.frame p fun i mo z => ?_]
      · exact n1
      · obtain ⟨s, _, _, u, hu, _⟩ := c.slot i _ z
        rw [n1] at hu; cases hu
    rw [del_upd h0] at c3
    obtain ⟨q0, rfl, hq⟩ := tup_key (Rp.mono s2 _ _ r1)
    refine ⟨J_M at0.1, ky, q0, rfl, hq.mono c2.same, hQ _ _ ⟨p, .dT [(ky, d2)], TdO p [(ky, q0, v2)], env2, B2, del M2 p, rfl, ?_, del_same, at0.2, c3, s1.trans s2, ⟨_, rfl, q0, v2, [], rfl, hq, r2, rfl⟩, q⟩⟩
    rw [upd_JM]
    congr 1
    funext z
    by_cases hz : z = p
    · rw [hz, upd_same, upd_same]
    · rw [upd_ne hz, upd_ne hz, del_ne hz]
end
end Sy
namespace Sy
open PySem PySem.Spec PyProof.Rows L2
/-! ### d.get(k, x), list(d) of dicts with ints -/
section
variable {X : Cx} {K : PySem.W.Frag} {e a b c : Expr} {env : Env_} {k : D → Env_ → Prop} {km : MO → Env_ → Prop} {pos p : Pos}
theorem ee_dget2 {apos : Pos} (hu : X.A.units + 1 < cLine) (h : EE X a env fun d env1 => (∃ kvs : List (Key × D), d = .dct kvs ∧ EE X b env1 fun d2 env2 => EE X c env2 fun d3 env3 => ∃ ky, d2 = kD ky ∧ k ((valD kvs ky).getD d3) env3))
    (m : M2 X a "get" apos b c pos := by exact ⟨rfl, rfl, rfl, rfl⟩) : EE X (.Call (.Attribute a "get" apos) [b, c] [] pos) env k :=
  .of (pe_dget2 hu pe_can pe_can pe_can m) fun M0 B M σ cc Q hQ => h M0 B M σ cc _ fun v H ⟨d, env1, B1, M1, e1, c1, s1, r1, kvs, ed, h2⟩ => by
    subst e1 ed
    obtain ⟨ad, ks, od, rfl, hB, hr⟩ := r1
    refine ⟨ad, rfl, .inl ⟨ks, .inr ⟨od, c1.same _ _ hB⟩⟩, h2 M0 B1 M1 σ c1 _ fun v2 H ⟨d2, env2, B2, M2, e2, c2, s2, r2, h3⟩ => ?_⟩
    subst e2
    refine h3 M0 B2 M2 σ c2 _ fun v3 H ⟨d3, env3, B3, M3, e3, c3, s3, r3, ky, e4, q⟩ => ?_
    subst e3 e4; cases r2
    have hr := hr.mono (s2.trans s3)
    refine ⟨_, DGet.kf (c3.same _ _ ((s2.trans s3) _ _ hB)), ?_⟩
    cases e : valD kvs ky with
    | none =>
      rw [hr.val.2 e]
      rw [e] at q
      exact hQ _ _ ((PostD.now c3 r3 q).back ((s1.trans s2).trans s3))
    | some d =>
      obtain ⟨v, hv2, rv⟩ := hr.val.1 d e
      rw [hv2]
      rw [e] at q
      exact hQ _ _ ((PostD.now c3 rv q).back ((s1.trans s2).trans s3))
theorem ee_dget2X (i : Nat) {x : Str} {pn apos : Pos} {ad : Addr} {kvs0 : List (Key × D)} (hu : X.A.units + 1 < cLine) (hi0 : env[i]? = some (.mu ad (.dK kvs0))) (h : EE X b env fun d2 env2 => EE X c env2 fun d3 env3 => ∃ kvs ky, env3[i]? = some (.mu ad (.dK kvs)) ∧ d2 = kD ky ∧ k ((valD kvs ky).getD d3) env3)
    (hN : X.N[i]? = some x := by rfl) (hv : Vis X.env.scope x := by first | exact Or.inl rfl | exact Or.inr (Or.inl rfl) | exact Or.inr (Or.inr rfl)) (hd : (x == ("__debug__" : Str)) = false := by decide) (hcd : (x == ("__classdict__" : Str)) = false := by decide)
    (m : M2 X (.Name x pn) "get" apos b c pos := by exact ⟨rfl, rfl, rfl, rfl⟩) : EE X (.Call (.Attribute (.Name x pn) "get" apos) [b, c] [] pos) env k :=
  .of (pe_dget2 hu (pe_var hN hv hd hcd) pe_can pe_can m) fun M0 B M σ cc Q hQ => by
    obtain ⟨s0, hs0, es0, o0, ho0, ks0, rfl, hr0⟩ := cc.slot i _ hi0
    refine ⟨.ref ad, by rw [hs0, es0], ad, rfl, .inl ⟨ks0, .inl (J_M ho0)⟩, h M0 B M σ cc _ fun v2 H ⟨d2, env2, B2, M2, e2, c2, s2, r2, h3⟩ => ?_⟩
    subst e2
    refine h3 M0 B2 M2 σ c2 _ fun v3 H ⟨d3, env3, B3, M3, e3, c3, s3, r3, kvs, ky, hi3, e4, q⟩ => ?_
    subst e3 e4; cases r2
    obtain ⟨s4, hs4, es4, o1, ho1, ks, rfl, hr⟩ := c3.slot i _ hi3
    refine ⟨_, DGet.k (J_M ho1), ?_⟩
    cases e : valD kvs ky with
    | none =>
      rw [hr.val.2 e]
      rw [e] at q
      exact hQ _ _ ((PostD.now c3 r3 q).back (s2.trans s3))
    | some d =>
      obtain ⟨v, hv2, rv⟩ := hr.val.1 d e
      rw [hv2]
      rw [e] at q
      exact hQ _ _ ((PostD.now c3 rv q).back (s2.trans s3))
theorem rk_keys {B : Hp} : ∀ {kvs : List (Key × D)} {ks : List (Key × V)}, RpK K B kvs ks → RpA K B (keysD kvs) (ks.map fun x => kV x.1)
  | [], ks, h => by rw [show ks = [] from h]; exact rfl
  | (k0, d0) :: r, ks, ⟨x, t, e, h1, h⟩ => by
    subst e
    exact ⟨_, _, rfl, rfl, rk_keys h⟩
theorem em_listKX (i : Nat) {x : Str} {pn : Pos} {ad : Addr} {kvs : List (Key × D)} (hm : X.mg "list" = none) (hi : env[i]? = some (.mu ad (.dK kvs))) (q : km (.lst (keysD kvs)) env) (hc : X.calm = true := by rfl)
    (hN : X.N[i]? = some x := by rfl) (hv : Vis X.env.scope x := by first | exact Or.inl rfl | exact Or.inr (Or.inl rfl) | exact Or.inr (Or.inr rfl)) (hd : (x == ("__debug__" : Str)) = false := by decide) (hcd : (x == ("__classdict__" : Str)) = false := by decide)
    (hg : Gl X "list" := by rfl) (he : starEach (.Name x pn :: []) X.env = (false, eval (.Name x pn) X.env) :: starEach [] X.env := by rfl) (hpl : (backTo pos (starEach [] X.env)).any (·.1) = false := by rfl) : EM X (.Call (.Name "list" p) [.Name x pn] [] pos) env km :=
  .of (pe_callTy (call_list_dK hc) hg hm (by decide +kernel) (pa_cons (pe_var hN hv hd hcd) pa_nil he) (by decide) (by decide) he hpl) fun M0 B M σ cc Q hQ => by
    obtain ⟨s0, hs0, es0, o0, ho0, ks, rfl, hr⟩ := cc.slot i _ hi
    refine ⟨.ref ad, by rw [hs0, es0], ad, ks, rfl, J_M ho0, fun p hp => hQ _ _ (PostM.newL cc hp (rk_keys hr) q)⟩
end
end Sy
namespace Sy
open PySem PySem.Spec PyProof.Rows L2
/-! ### t * n, n at most 1 -/
theorem tuple_mul0 (l : Addr) (items : Array Value) (n : Nat) (dd : Option Addr) (sl : Array (Option Value)) (x : Int) (u : Tok) (c0 : (decide (x < -(2 ^ 63)) || decide (x ≥ 2 ^ 63)) = false) (c1 : (items.isEmpty || x == 1) = false) (c2 : (decide (x ≤ 0) || items.isEmpty) = true) :
    Meets (Builtin.«tuple.__mul__» ⟨[.ref l, .int x u], []⟩) (fun _ R s => s.heap.get? l = some { cls := .type "tuple", dict := dd, data := .seq items n, slots := sl } ∧
      R (.ok (.ret (Value.ref s.heap.objs.size))) { s with heap := s.heap.push { cls := Value.type "tuple", data := Data.seq #[] }, toks := s.toks }) :=
  .of_wp fun prog w A R s h => by
    obtain ⟨hp, g, d, tk, os⟩ := s
    obtain ⟨hl, h⟩ := h
    have f1 := AutoSeq1.idx_int
    wp_walk using wpAny_loadPart' hl
    repeat (first
      | (refine wpAny_ite_false (decide_eq_false (by rw [c0]; exact Bool.false_ne_true)) ?_; wp_walk using wpAny_loadPart' hl)
      | (refine wpAny_ite_false (decide_eq_false (by rw [c1]; exact Bool.false_ne_true)) ?_; wp_walk using wpAny_loadPart' hl)
      | (refine wpAny_ite_true (decide_eq_true (by rw [c2])) ?_; wp_walk using wpAny_loadPart' hl))
    exact ⟨_, rfl, h⟩
theorem tuple_mul1 (l : Addr) (items : Array Value) (n : Nat) (dd : Option Addr) (sl : Array (Option Value)) (x : Int) (u : Tok) (c0 : (decide (x < -(2 ^ 63)) || decide (x ≥ 2 ^ 63)) = false) (c1 : (items.isEmpty || x == 1) = true) :
    Meets (Builtin.«tuple.__mul__» ⟨[.ref l, .int x u], []⟩) (fun _ R s => s.heap.get? l = some { cls := .type "tuple", dict := dd, data := .seq items n, slots := sl } ∧
      R (.ok (.ret (Value.ref l))) s) :=
  .of_wp fun prog w A R s h => by
    obtain ⟨hp, g, d, tk, os⟩ := s
    obtain ⟨hl, h⟩ := h
    have f1 := AutoSeq1.idx_int
    wp_walk using wpAny_loadPart' hl
    repeat (first
      | (refine wpAny_ite_false (decide_eq_false (by rw [c0]; exact Bool.false_ne_true)) ?_; wp_walk using wpAny_loadPart' hl)
      | (refine wpAny_ite_true (decide_eq_true (by rw [c1])) ?_; wp_walk using wpAny_loadPart' hl))
    exact ⟨_, rfl, h⟩
def rRepA (K : PySem.W.Frag) : R2 := fun x y H Q => ∃ l k xs, x = .ref l ∧ y = .int k ∧ SqT K H l xs ∧ xs ≠ [] ∧ 0 ≤ k ∧ k ≤ 1000 ∧ xs.length ≤ 1000 ∧ (k = 1 → Q (.ref l) H) ∧ (k ≠ 1 → NewT Q H (List.replicate k.toNat xs).flatten)
theorem op_repA {X : Cx} : OpR X (binaryOp .Mult) (rRepA X.K) := by
  intro pins s σ H x y v u Q I rx ry h
  obtain ⟨l, k, xs, rfl, rfl, hT, hne, h1, h2, hz, qs, qn⟩ := h
  by_cases hk2 : 2 ≤ k
  · exact op_repS pins s σ H _ _ v u Q I rx ry ⟨l, k, xs, rfl, rfl, hT, hne, hk2, h2, hz, qn (by omega)⟩
  cases rx
  obtain ⟨t, rfl⟩ := ry
  obtain ⟨its, r, ⟨⟨cls, dd, data, sl⟩, ho, hc, n, hd⟩, hs⟩ := I.tuple hT
  simp only at hc hd
  subst hc hd
  have hle : its.length = xs.length := r.length.symm
  have hn : its ≠ [] := fun e => hne (by
    rw [e] at hle
    exact List.eq_nil_of_length_eq_zero hle.symm)
  have hi : its.toArray.isEmpty = false := by
    cases its with
    | nil => exact absurd rfl hn
    | cons a b => rfl
  have c0 : (decide (k < -(2 ^ 63)) || decide (k ≥ 2 ^ 63)) = false := by
    rw [decide_eq_false (by omega), decide_eq_false (by omega)] <;> rfl
  by_cases hk : k = 1
  · have c1 : (its.toArray.isEmpty || k == 1) = true := by
      rw [hi, Bool.false_or, hk]
      rfl
    exact wpAny_binaryOp_repeat_ref (T := "tuple") (U := "int") (by decide) ⟨_, ho, rfl⟩ (fun s' => typeIs_int s' k t) noFill_tuple_mul F.fills_int_mul F.slot_int_rmul repeat_tuple F.slot_int_index.lookup
      (call_meets F.slot_int_rmul (typeIs_int s k t) F.entry_int_rmul (F.args_int_rmul_2 _ _) (int_rmul_tuple k t l its.toArray n dd sl)
        ⟨ho, rfl, ⟨_, ho, rfl⟩, call_meets F.slot_tuple_mul ⟨_, ho, rfl⟩ F.entry_tuple_mul (F.args_tuple_mul_2 _ _) (tuple_mul1 l its.toArray n dd sl k t c0 c1) ⟨ho, ⟨.ref l, H, I, rfl, qs hk⟩⟩⟩)
  · have c1 : (its.toArray.isEmpty || k == 1) = false := by
      rw [hi, Bool.false_or]
      exact beq_eq_false_iff_ne.mpr hk
    have hk0 : k = 0 := by omega
    have c2 : (decide (k ≤ 0) || its.toArray.isEmpty) = true := by
      rw [hi, Bool.or_false, hk0]
      rfl
    have q0 := qn hk
    rw [hk0] at q0
    refine wpAny_binaryOp_repeat_ref (T := "tuple") (U := "int") (by decide) ⟨_, ho, rfl⟩ (fun s' => typeIs_int s' k t) noFill_tuple_mul F.fills_int_mul F.slot_int_rmul repeat_tuple F.slot_int_index.lookup
      (call_meets F.slot_int_rmul (typeIs_int s k t) F.entry_int_rmul (F.args_int_rmul_2 _ _) (int_rmul_tuple k t l its.toArray n dd sl)
        ⟨ho, rfl, ⟨_, ho, rfl⟩, call_meets F.slot_tuple_mul ⟨_, ho, rfl⟩ F.entry_tuple_mul (F.args_tuple_mul_2 _ _) (tuple_mul0 l its.toArray n dd sl k t c0 c1 c2) ⟨ho, ?_⟩⟩)
    exact ep_newT (its := []) (tk := s.toks) I .nil (Nat.zero_le _) q0
theorem bo_repA {X : Cx} {env : Env_} {k : D → Env_ → Prop} {ds : List D} {m : Int} (hne : ds ≠ []) (h1 : 0 ≤ m) (h2 : m ≤ 1000) (hl : ds.length ≤ 1000) (q : k (.tup (List.replicate m.toNat ds).flatten) env) : BO X .Mult (.tup ds) (I m) env k := .of op_repA fun M0 B M σ c v1 v2 r1 r2 Q hQ => by
  have r0 := r1
  obtain ⟨a1, xs, rfl, hs1, hr1⟩ := r1
  cases r2
  refine ⟨a1, m, xs, rfl, rfl, sqT_same c.same hs1.sq, fun z => ?_, h1, h2, by rw [hr1.length]; exact hl, fun hm => hQ _ _ (.now c ?_ q), fun _ p o hp n1 n2 => hQ _ _ (.newT c hp n1 n2 (hr1.flat _) q)⟩
  · rw [z] at hr1
    exact hne (List.eq_nil_of_length_eq_zero (by rw [← hr1.length]; rfl))
  · rw [hm]
    show Rp X.K B (.tup (ds ++ [])) _
    rw [List.append_nil]
    exact r0
end Sy
namespace Ln
/-! ### an order that fits, car by car -/
theorem chF_snoc {ch : List (Int × Int)} {c s k : Int} : chF (ch ++ [(c, s)]) k = match chF ch k with
  | some q => some q
  | none => if c = k then some s else none := by
  unfold chF
  rw [List.find?_append]
  cases e : ch.find? fun q => decide (q.1 = k) with
  | some q => rfl
  | none =>
    rw [Option.none_or]
    show Option.map _ (List.find? _ [(c, s)]) = _
    by_cases h : c = k
    · rw [List.find?_cons_of_pos (by simpa using h), if_pos h]; rfl
    · rw [List.find?_cons_of_neg (by simpa using h), if_neg h]; rfl
def candG (R : List Int) (ch : List (Int × Int)) (s : Int) (p : Int × List Int) : Option (Int × Int) :=
  if chF ch p.1 = none ∧ s ∈ p.2 ∧ countW (freeR R) (ch ++ [(p.1, s)]) > 0 then some (p.1, countW (freeR R) (ch ++ [(p.1, s)])) else none
def candL (R : List Int) (ch : List (Int × Int)) (s : Int) : List (Int × Int) := match (fixedR R).filter (fun q => decide (q.2 = s)) with
  | q :: _ => [(q.1, countW (freeR R) ch)]
  | [] => (freeR R).filterMap (candG R ch s)
theorem candL_len {R : List Int} {ch : List (Int × Int)} {s : Int} : (candL R ch s).length ≤ R.length + 1 := by
  unfold candL
  split
  · show 1 ≤ _
    omega
  · have h1 := List.length_filterMap_le (candG R ch s) (freeR R)
    have h2 := free_len (R := R)
    omega
/-- cars placed so far -/
structure Part (R : List Int) (pre : List Int) (ch : List (Int × Int)) : Prop where
  ch1 : ∀ c q, chF ch c = some q → (∃ S, (c, S) ∈ freeR R) ∧ ∃ i : Nat, q = (i : Int) + 1 ∧ pre[i]? = some c
  ch2 : ∀ (i : Nat) (c : Int), pre[i]? = some c → chF ch c = some ((i : Int) + 1) ∨ (c, (i : Int) + 1) ∈ fixedR R
  fit : ∃ L, L ∈ fits R ch
section
variable {R pre : List Int} {ch : List (Int × Int)}
theorem fixed_pos {L : List Int} (h : Ord L) {q : Int × Int} (hq : q ∈ fixedR (row .srt L)) : q.1 ∈ L ∧ pos L q.1 = q.2 := by
  have h1 := (mem_fixed h).mp hq
  obtain ⟨h2, h3⟩ := (mem_records h).mp h1
  exact ⟨h2.1, by unfold pos; omega⟩
theorem pos_get {L : List Int} {c : Int} {i : Nat} (hm : c ∈ L) (h : pos L c = (i : Int) + 1) : L[i]? = some c := by
  have e : L.idxOf c = i := by unfold pos at h; omega
  have hl := List.idxOf_lt_length_of_mem hm
  subst e
  rw [List.getElem?_eq_getElem hl, List.getElem_idxOf hl]
theorem get_pos {L : List Int} (hn : L.Nodup) {c : Int} {i : Nat} (h : L[i]? = some c) : c ∈ L ∧ pos L c = (i : Int) + 1 := by
  obtain ⟨hi, e⟩ := List.getElem?_eq_some_iff.mp h
  refine ⟨e ▸ List.getElem_mem hi, ?_⟩
  have := List.Nodup.idxOf_getElem hn i hi
  unfold pos
  rw [← e, this]
theorem Part.nil (hg : good 0 R = true) (h1 : 1 ≤ R.length) (h30 : R.length ≤ 30) : Part R [] [] := by
  obtain ⟨L, hL, hl, hr⟩ := row_order hg h1 h30
  exact ⟨fun c q h => (by cases (show (none : Option Int) = some q from h)), fun i c h => (nomatch h), L, (mem_fits h1 h30).mpr ⟨hL, hl, hr, agr_nil L⟩⟩
/-- all orders that fit begin so -/
theorem Part.take (P : Part R pre ch) (h1 : 1 ≤ R.length) (h30 : R.length ≤ 30) {L : List Int} (hL : L ∈ fits R ch) {i : Nat} {c : Int} (h : pre[i]? = some c) : L[i]? = some c := by
  obtain ⟨hO, hl, hr, ha⟩ := (mem_fits h1 h30).mp hL
  rcases P.ch2 i c h with h2 | h2
  · obtain ⟨⟨S, hS⟩, _⟩ := P.ch1 c _ h2
    rw [← hr] at hS
    exact pos_get (free_mem_spot hO hS).1 (ha c _ h2)
  · rw [← hr] at h2
    obtain ⟨hm, hp⟩ := fixed_pos hO h2
    exact pos_get hm hp
theorem Part.count (P : Part R pre ch) (hg : good 0 R = true) (h1 : 1 ≤ R.length) (h30 : R.length ≤ 30) : countW (freeR R) ch = ((fits R ch).length : Nat) :=
  count_fits hg h1 h30 (fun c q h => (P.ch1 c q h).1) fun c c' q h h' => by
    obtain ⟨_, i, e, hi⟩ := P.ch1 c q h
    obtain ⟨_, j, e', hj⟩ := P.ch1 c' q h'
    have : i = j := by omega
    subst this
    rw [hi] at hj
    exact Option.some.inj hj
theorem Part.inj (P : Part R pre ch) {c c' q : Int} (h : chF ch c = some q) (h' : chF ch c' = some q) : c = c' := by
  obtain ⟨_, i, e, hi⟩ := P.ch1 c q h
  obtain ⟨_, j, e', hj⟩ := P.ch1 c' q h'
  have : i = j := by omega
  subst this
  rw [hi] at hj
  exact Option.some.inj hj
theorem Part.count2 (P : Part R pre ch) (hg : good 0 R = true) (h1 : 1 ≤ R.length) (h30 : R.length ≤ 30) {c : Int} {S : List Int} (hS : (c, S) ∈ freeR R) (hc : chF ch c = none) : countW (freeR R) (ch ++ [(c, (pre.length : Int) + 1)]) = ((fits R (ch ++ [(c, (pre.length : Int) + 1)])).length : Nat) := by
  have cases2 : ∀ k q, chF (ch ++ [(c, (pre.length : Int) + 1)]) k = some q → chF ch k = some q ∨ (k = c ∧ q = (pre.length : Int) + 1) := fun k q h => by
    rw [chF_snoc] at h
    cases e : chF ch k with
    | some q' => rw [e] at h; exact .inl h
    | none =>
      rw [e] at h
      by_cases hk : c = k
      · simp only [hk, if_true] at h
        exact .inr ⟨hk.symm, by rw [← Option.some.inj h]⟩
      · simp only [hk, if_false] at h
        cases h
  have lt : ∀ k q, chF ch k = some q → q < (pre.length : Int) + 1 := fun k q h => by
    obtain ⟨_, i, e, hi⟩ := P.ch1 k q h
    have := (List.getElem?_eq_some_iff.mp hi).1
    omega
  refine count_fits hg h1 h30 (fun k q h => ?_) fun k k' q h h' => ?_
  · rcases cases2 k q h with h | ⟨rfl, _⟩
    · exact (P.ch1 k q h).1
    · exact ⟨S, hS⟩
  · rcases cases2 k q h with hA | ⟨e1, e⟩ <;> rcases cases2 k' q h' with hB | ⟨e2, e'⟩
    · exact P.inj hA hB
    · have := lt k q hA; omega
    · have := lt k' q hB; omega
    · rw [e1, e2]
/-- the first car that can stand next -/
theorem Part.first (P : Part R pre ch) (hg : good 0 R = true) (h1 : 1 ≤ R.length) (h30 : R.length ≤ 30) (hl : pre.length < R.length) :
    ∃ c m r, candL R ch ((pre.length : Int) + 1) = (c, m) :: r ∧ 0 < m ∧ (((c, (pre.length : Int) + 1) ∈ fixedR R ∧ Part R (pre ++ [c]) ch) ∨ ((∀ p, (c, p) ∉ fixedR R) ∧ chF ch c = none ∧ Part R (pre ++ [c]) (ch ++ [(c, (pre.length : Int) + 1)]))) := by
  obtain ⟨L, hL⟩ := P.fit
  obtain ⟨hO, hLl, hr, ha⟩ := (mem_fits h1 h30).mp hL
  have hnd := ord_nodup hO
  unfold candL
  cases e : (fixedR R).filter (fun q => decide (q.2 = (pre.length : Int) + 1)) with
  | cons q t =>
    have hq : q ∈ (fixedR R).filter (fun q => decide (q.2 = (pre.length : Int) + 1)) := by rw [e]; exact List.mem_cons_self
    obtain ⟨hq1, hq2⟩ := List.mem_filter.mp hq
    have hq2 := of_decide_eq_true hq2
    have hq3 : (q.1, (pre.length : Int) + 1) ∈ fixedR R := by rw [← hq2]; exact hq1
    refine ⟨q.1, _, [], rfl, ?_, .inl ⟨hq3, fun c v h => ?_, fun i c h => ?_, L, hL⟩⟩
    · rw [P.count hg h1 h30]
      have := List.length_pos_of_mem hL
      omega
    · obtain ⟨h2, i, e2, hi⟩ := P.ch1 c v h
      exact ⟨h2, i, e2, by rw [List.getElem?_append_left (List.getElem?_eq_some_iff.mp hi).1]; exact hi⟩
    · by_cases hil : i < pre.length
      · rw [List.getElem?_append_left hil] at h
        exact P.ch2 i c h
      · rw [List.getElem?_append_right (by omega)] at h
        have hi : i = pre.length := by
          have := (List.getElem?_eq_some_iff.mp h).1
          rw [List.length_singleton] at this
          omega
        subst hi
        rw [Nat.sub_self] at h
        obtain rfl : q.1 = c := Option.some.inj h
        exact .inr hq3
  | nil =>
    have nofix : ∀ c, (c, (pre.length : Int) + 1) ∉ fixedR R := fun c h => by
      have : (c, (pre.length : Int) + 1) ∈ (fixedR R).filter (fun q => decide (q.2 = (pre.length : Int) + 1)) := List.mem_filter.mpr ⟨h, decide_eq_true rfl⟩
      rw [e] at this
      cases this
    have key : ∀ x, x ∈ (freeR R).filterMap (candG R ch ((pre.length : Int) + 1)) → 0 < x.2 ∧ (∀ p, (x.1, p) ∉ fixedR R) ∧ chF ch x.1 = none ∧ Part R (pre ++ [x.1]) (ch ++ [(x.1, (pre.length : Int) + 1)]) := fun x hx => by
      obtain ⟨p, hp, hpx⟩ := List.mem_filterMap.mp hx
      unfold candG at hpx
      split at hpx
      · rename_i hc
        obtain ⟨hc1, hc2, hc3⟩ := hc
        obtain rfl := Option.some.inj hpx
        have hcnt := P.count2 hg h1 h30 (c := p.1) (S := p.2) hp hc1
        have hpos : 0 < (fits R (ch ++ [(p.1, (pre.length : Int) + 1)])).length := by omega
        obtain ⟨L', hL'⟩ := List.exists_mem_of_length_pos hpos
        obtain ⟨hO', hl', hr', ha'⟩ := (mem_fits h1 h30).mp hL'
        have hp' : pos L' p.1 = (pre.length : Int) + 1 := ha' _ _ (by rw [chF_snoc, hc1]; simp)
        refine ⟨hc3, fun v hv => ?_, hc1, fun c v h => ?_, fun i c h => ?_, L', hL'⟩
        · rw [← hr'] at hv
          obtain ⟨_, z⟩ := fixed_pos hO' hv
          have z : pos L' p.1 = v := z
          refine nofix p.1 ?_
          rw [← hp', z, ← hr']
          exact hv
        · rw [chF_snoc] at h
          cases e2 : chF ch c with
          | some v' =>
            rw [e2] at h
            obtain rfl := Option.some.inj h
            obtain ⟨h2, i, e3, hi⟩ := P.ch1 c _ e2
            exact ⟨h2, i, e3, by rw [List.getElem?_append_left (List.getElem?_eq_some_iff.mp hi).1]; exact hi⟩
          | none =>
            rw [e2] at h
            by_cases hk : p.1 = c
            · simp only [hk, if_true] at h
              obtain rfl := Option.some.inj h
              refine ⟨⟨p.2, by rw [← hk]; exact hp⟩, pre.length, rfl, ?_⟩
              rw [List.getElem?_append_right (Nat.le_refl _), Nat.sub_self, hk]
              rfl
            · simp only [hk, if_false] at h
              cases h
        · by_cases hil : i < pre.length
          · rw [List.getElem?_append_left hil] at h
            rcases P.ch2 i c h with h2 | h2
            · exact .inl (by rw [chF_snoc, h2])
            · exact .inr h2
          · rw [List.getElem?_append_right (by omega)] at h
            have hi : i = pre.length := by
              have := (List.getElem?_eq_some_iff.mp h).1
              rw [List.length_singleton] at this
              omega
            subst hi
            rw [Nat.sub_self] at h
            obtain rfl : p.1 = c := Option.some.inj h
            exact .inl (by rw [chF_snoc, hc1]; simp)
      · cases hpx
    have ex : ∃ x, x ∈ (freeR R).filterMap (candG R ch ((pre.length : Int) + 1)) := by
      have hlt : pre.length < L.length := by omega
      obtain ⟨hm, hp⟩ := get_pos hnd (List.getElem?_eq_getElem hlt)
      have hnf : ¬ lmin L L[pre.length] := fun z => by
        have := (sound hO hm).1 z
        rw [hr, hp] at this
        exact nofix _ this
      obtain ⟨S, hS, hpS⟩ := (sound hO hm).2 hnf
      rw [hr] at hS
      rw [hp] at hpS
      have hc : chF ch L[pre.length] = none := by
        cases e2 : chF ch L[pre.length] with
        | none => rfl
        | some v =>
          obtain ⟨_, i, e3, hi⟩ := P.ch1 _ _ e2
          have h3 := P.take h1 h30 hL hi
          obtain ⟨_, h4⟩ := get_pos hnd h3
          have := (List.getElem?_eq_some_iff.mp hi).1
          omega
      have hfit : L ∈ fits R (ch ++ [(L[pre.length], (pre.length : Int) + 1)]) := (mem_fits h1 h30).mpr ⟨hO, hLl, hr, fun k v h => by
        rw [chF_snoc] at h
        cases e2 : chF ch k with
        | some v' =>
          rw [e2] at h
          obtain rfl := Option.some.inj h
          exact ha k _ e2
        | none =>
          rw [e2] at h
          by_cases hk : L[pre.length] = k
          · simp only [hk, if_true] at h
            obtain rfl := Option.some.inj h
            rw [← hk]
            exact hp
          · simp only [hk, if_false] at h
            cases h⟩
      have hcnt := P.count2 hg h1 h30 hS hc
      have hpos := List.length_pos_of_mem hfit
      refine ⟨(L[pre.length], countW (freeR R) (ch ++ [(L[pre.length], (pre.length : Int) + 1)])), List.mem_filterMap.mpr ⟨_, hS, ?_⟩⟩
      unfold candG
      rw [if_pos ⟨hc, hpS, by show countW _ _ > 0; rw [hcnt]; omega⟩]
    cases e3 : (freeR R).filterMap (candG R ch ((pre.length : Int) + 1)) with
    | nil =>
      obtain ⟨x, hx⟩ := ex
      rw [e3] at hx
      cases hx
    | cons x r =>
      obtain ⟨h1, h2, h3, h4⟩ := key x (by rw [e3]; exact List.mem_cons_self)
      exact ⟨x.1, x.2, r, rfl, h1, .inr ⟨h2, h3, h4⟩⟩
theorem Part.all (P : Part R pre ch) (h1 : 1 ≤ R.length) (h30 : R.length ≤ 30) (hl : pre.length = R.length) : Ord pre ∧ row .srt pre = R := by
  obtain ⟨L, hL⟩ := P.fit
  obtain ⟨hO, hLl, hr, ha⟩ := (mem_fits h1 h30).mp hL
  have e : L = pre := by
    refine List.ext_getElem? fun i => ?_
    cases h : pre[i]? with
    | some c => exact P.take h1 h30 hL h
    | none =>
      rw [List.getElem?_eq_none_iff] at h ⊢
      omega
  rw [← e]
  exact ⟨hO, hr⟩
end
end Ln
namespace Ln
/-! ### the numbers of orders by total: lists of coefficients -/
def addL : List Nat → List Nat → List Nat
  | [], b => b
  | x :: a, [] => x :: a
  | x :: a, y :: b => (x + y) :: addL a b
def sumL (L : List (List Nat)) : List Nat := L.foldr addL []
def nextP (n t : Nat) (P : List (List Nat)) : List (List Nat) := (List.range (n + 1)).map fun o => if o + (t + 1) ≤ n then addL ((P.getD (o + 1) []).map ((o + 1) * ·)) (List.replicate o 0 ++ sumL (P.take (o + 1))) else []
def pl (n : Nat) : Nat → List (List Nat)
  | 0 => [[1]]
  | t + 1 => nextP n t (pl n t)
def cf (P : List (List Nat)) (o p : Nat) : Nat := (P.getD o []).getD p 0
theorem add_get : ∀ (a b : List Nat) (i : Nat), (addL a b).getD i 0 = a.getD i 0 + b.getD i 0
  | [], b, i => by simp [addL]
  | x :: a, [], i => by simp [addL]
  | x :: a, y :: b, 0 => by simp [addL]
  | x :: a, y :: b, i + 1 => by
    have := add_get a b i
    simpa [addL] using this
theorem scale_get (k : Nat) : ∀ (l : List Nat) (i : Nat), (l.map (k * ·)).getD i 0 = k * l.getD i 0
  | [], i => by simp
  | x :: l, 0 => by simp
  | x :: l, i + 1 => by
    have := scale_get k l i
    simpa using this
theorem shift_get (l : List Nat) : ∀ (m i : Nat), (List.replicate m 0 ++ l).getD i 0 = if i < m then 0 else l.getD (i - m) 0
  | 0, i => by simp
  | m + 1, 0 => by simp [List.replicate_succ]
  | m + 1, i + 1 => by
    have := shift_get l m i
    rw [List.replicate_succ, List.cons_append]
    show (List.replicate m 0 ++ l).getD i 0 = _
    rw [this]
    by_cases h : i < m
    · rw [if_pos h, if_pos (by omega)]
    · rw [if_neg h, if_neg (by omega), show i + 1 - (m + 1) = i - m from by omega]
theorem sum_get : ∀ (L : List (List Nat)) (i : Nat), (sumL L).getD i 0 = (L.map fun l => l.getD i 0).sum
  | [], i => by simp [sumL]
  | l :: L, i => by
    have := sum_get L i
    unfold sumL at this ⊢
    rw [List.foldr_cons, add_get, this, List.map_cons, List.sum_cons]
theorem take_sum (f : List Nat → Nat) (hf : f [] = 0) (P : List (List Nat)) : ∀ m : Nat, ((P.take m).map f).sum = ((List.range m).map fun o => f (P.getD o [])).sum
  | 0 => by simp
  | m + 1 => by
    rw [List.range_succ, List.map_append, List.sum_append, ← take_sum f hf P m, List.take_add_one, List.map_append, List.sum_append]
    congr 1
    cases h : P[m]? with
    | none => simp [List.getD_eq_getElem?_getD, h, hf]
    | some l => simp [List.getD_eq_getElem?_getD, h]
theorem getD_out {l : List (List Nat)} {o : Nat} (h : l.length ≤ o) : l.getD o [] = [] := by
  rw [List.getD_eq_getElem?_getD, List.getElem?_eq_none h]
  rfl
theorem cf_next {n t : Nat} {P : List (List Nat)} {o p : Nat} : cf (nextP n t P) o p = if o + (t + 1) ≤ n then (o + 1) * cf P (o + 1) p + (if p < o then 0 else ((List.range (o + 1)).map fun q => cf P q (p - o)).sum) else 0 := by
  unfold cf nextP
  by_cases ho : o < n + 1
  · have e : ((List.range (n + 1)).map fun o => if o + (t + 1) ≤ n then addL ((P.getD (o + 1) []).map ((o + 1) * ·)) (List.replicate o 0 ++ sumL (P.take (o + 1))) else []).getD o [] = if o + (t + 1) ≤ n then addL ((P.getD (o + 1) []).map ((o + 1) * ·)) (List.replicate o 0 ++ sumL (P.take (o + 1))) else [] := by
      rw [List.getD_eq_getElem?_getD, List.getElem?_map, List.getElem?_range ho]
      rfl
    rw [e]
    by_cases h : o + (t + 1) ≤ n
    · rw [if_pos h, if_pos h, add_get, scale_get, shift_get]
      by_cases hp : p < o
      · rw [if_pos hp, if_pos hp]
      · rw [if_neg hp, if_neg hp, sum_get, take_sum (fun l => l.getD (p - o) 0) rfl]
    · rw [if_neg h, if_neg h]
      rfl
  · rw [if_neg (by omega)]
    have e := getD_out (o := o) (l := (List.range (n + 1)).map fun o => if o + (t + 1) ≤ n then addL ((P.getD (o + 1) []).map ((o + 1) * ·)) (List.replicate o 0 ++ sumL (P.take (o + 1))) else []) (by rw [List.length_map, List.length_range]; omega)
    exact congrArg (fun l : List Nat => l.getD p 0) e
/-! ### the table as a list -/
abbrev Tb := List ((Nat × Nat) × Int)
def tbv (ts : Tb) (k : Nat × Nat) : Option Int := (ts.find? fun x => decide (x.1 = k)).map (·.2)
def wv (ts : Tb) (k : Nat × Nat) : Int := (tbv ts k).getD 0
def tput (ts : Tb) (k : Nat × Nat) (v : Int) : Tb := if (ts.any fun x => decide (x.1 = k)) then ts.map (fun x => if x.1 = k then (x.1, v) else x) else ts ++ [(k, v)]
theorem tbv_cons {x : (Nat × Nat) × Int} {ts : Tb} {k : Nat × Nat} : tbv (x :: ts) k = if x.1 = k then some x.2 else tbv ts k := by
  unfold tbv
  by_cases h : x.1 = k
  · rw [List.find?_cons_of_pos (by simpa using h), if_pos h]; rfl
  · rw [List.find?_cons_of_neg (by simpa using h), if_neg h]
theorem tbv_none {ts : Tb} {k : Nat × Nat} (h : ∀ x, x ∈ ts → x.1 ≠ k) : tbv ts k = none := by
  unfold tbv
  rw [Option.map_eq_none_iff, List.find?_eq_none]
  intro x hx
  simpa using h x hx
theorem wv_none {ts : Tb} {k : Nat × Nat} (h : ∀ x, x ∈ ts → x.1 ≠ k) : wv ts k = 0 := by unfold wv; rw [tbv_none h]; rfl
theorem tbv_map {k : Nat × Nat} {v : Int} {k' : Nat × Nat} : ∀ ts : Tb, tbv (ts.map fun x => if x.1 = k then (x.1, v) else x) k' = if k' = k then (tbv ts k).map (fun _ => v) else tbv ts k'
  | [] => by simp [tbv]
  | x :: ts => by
    rw [List.map_cons, tbv_cons, tbv_cons, tbv_cons, tbv_map ts]
    by_cases h1 : x.1 = k
    · simp only [h1, if_true]
      by_cases h2 : k' = k
      · simp [h2]
      · simp [h2, Ne.symm h2]
    · simp only [h1, if_false]
      by_cases h2 : x.1 = k'
      · simp only [h2, if_true]
        rw [if_neg (fun z => h1 (by rw [h2, z]))]
      · simp only [h2, if_false]
theorem tbv_snoc {k : Nat × Nat} {v : Int} {k' : Nat × Nat} : ∀ ts : Tb, tbv (ts ++ [(k, v)]) k' = match tbv ts k' with | some x => some x | none => if k = k' then some v else none
  | [] => by
    rw [List.nil_append, tbv_cons]
    rfl
  | x :: ts => by
    rw [List.cons_append, tbv_cons, tbv_cons, tbv_snoc ts]
    by_cases h : x.1 = k'
    · simp only [h, if_true]
    · simp only [h, if_false]
theorem any_tbv {ts : Tb} {k : Nat × Nat} : (ts.any fun x => decide (x.1 = k)) = (tbv ts k).isSome := by
  unfold tbv
  rw [Option.isSome_map]
  rw [Bool.eq_iff_iff, List.any_eq_true, List.find?_isSome]
theorem wv_put {ts : Tb} {k k' : Nat × Nat} {v : Int} : wv (tput ts k v) k' = if k' = k then v else wv ts k' := by
  unfold wv tput
  rw [any_tbv]
  cases h : tbv ts k with
  | some y =>
    simp only [Option.isSome_some, if_true]
    rw [tbv_map, h]
    by_cases e : k' = k
    · rw [if_pos e, if_pos e]; rfl
    · rw [if_neg e, if_neg e]
  | none =>
    rw [if_neg (by simp), tbv_snoc]
    by_cases e : k' = k
    · rw [if_pos e, e, h]
      simp
    · rw [if_neg e]
      cases h2 : tbv ts k' with
      | some z => rfl
      | none => simp [Ne.symm e]
theorem put_len {ts : Tb} {k : Nat × Nat} {v : Int} : (tput ts k v).length ≤ ts.length + 1 := by
  unfold tput
  split
  · rw [List.length_map]; omega
  · rw [List.length_append]; exact Nat.le_refl _
theorem put_keys {ts : Tb} {k : Nat × Nat} {v : Int} : (tput ts k v).map (·.1) = if (ts.any fun x => decide (x.1 = k)) then ts.map (·.1) else ts.map (·.1) ++ [k] := by
  unfold tput
  split
  · rw [List.map_map]
    refine List.map_congr_left fun x _ => ?_
    show (if x.1 = k then (x.1, v) else x).1 = x.1
    split <;> rfl
  · rw [List.map_append]; rfl
theorem put_nodup {ts : Tb} {k : Nat × Nat} {v : Int} (h : (ts.map (·.1)).Nodup) : ((tput ts k v).map (·.1)).Nodup := by
  rw [put_keys]
  split
  · exact h
  · rename_i hn
    rw [List.nodup_append]
    refine ⟨h, List.pairwise_singleton _ _, fun a ha b hb z => hn ?_⟩
    obtain ⟨x, hx, rfl⟩ := List.mem_map.mp ha
    rw [List.any_eq_true]
    exact ⟨x, hx, decide_eq_true (by rw [z, List.mem_singleton.mp hb])⟩
theorem put_mem {ts : Tb} {k : Nat × Nat} {v : Int} {k' : Nat × Nat} (h : k' ∈ (tput ts k v).map (·.1)) : k' ∈ ts.map (·.1) ∨ k' = k := by
  rw [put_keys] at h
  split at h
  · exact .inl h
  · exact (List.mem_append.mp h).imp id List.mem_singleton.mp
theorem tbv_mem {ts : Tb} (hn : (ts.map (·.1)).Nodup) {x : (Nat × Nat) × Int} (h : x ∈ ts) : tbv ts x.1 = some x.2 := by
  induction ts with
  | nil => cases h
  | cons y ts ih =>
    rw [List.map_cons, List.nodup_cons] at hn
    rw [tbv_cons]
    rcases List.mem_cons.mp h with rfl | h
    · rw [if_pos rfl]
    · rw [if_neg fun z => hn.1 (by rw [z]; exact List.mem_map.mpr ⟨x, h, rfl⟩)]
      exact ih hn.2 h
theorem sumI_at {ts : Tb} (hn : (ts.map (·.1)).Nodup) (c : Int) (k : Nat × Nat) : (ts.map fun x => if x.1 = k then c * x.2 else 0).sum = c * wv ts k := by
  induction ts with
  | nil => simp [wv, tbv]
  | cons x ts ih =>
    rw [List.map_cons, List.nodup_cons] at hn
    rw [List.map_cons, List.sum_cons, ih hn.2]
    unfold wv
    rw [tbv_cons]
    by_cases h : x.1 = k
    · have : tbv ts k = none := tbv_none fun y hy z => hn.1 (by rw [h, ← z]; exact List.mem_map.mpr ⟨y, hy, rfl⟩)
      rw [if_pos h, if_pos h, this]
      simp
    · rw [if_neg h, if_neg h]
      simp
theorem sumI_add {α : Type} (f g : α → Int) : ∀ l : List α, (l.map fun x => f x + g x).sum = (l.map f).sum + (l.map g).sum
  | [] => rfl
  | x :: l => by
    rw [List.map_cons, List.map_cons, List.map_cons, List.sum_cons, List.sum_cons, List.sum_cons, sumI_add f g l]
    omega
theorem sumI_zero {α : Type} {f : α → Int} : ∀ {l : List α}, (∀ x, x ∈ l → f x = 0) → (l.map f).sum = 0
  | [], _ => rfl
  | x :: l, h => by
    rw [List.map_cons, List.sum_cons, h x List.mem_cons_self, sumI_zero fun y hy => h y (List.mem_cons_of_mem _ hy)]
    rfl
theorem sumI_range {a : Nat} {v : Int} {C : Prop} [Decidable C] : ∀ N : Nat, ((List.range N).map fun o => if a = o ∧ C then v else 0).sum = if a < N ∧ C then v else 0
  | 0 => by simp
  | N + 1 => by
    rw [List.range_succ, List.map_append, List.sum_append, sumI_range N, List.map_singleton, List.sum_singleton]
    by_cases hC : C
    · by_cases h : a < N
      · rw [if_pos ⟨h, hC⟩, if_neg (fun z => by omega), if_pos ⟨by omega, hC⟩]; omega
      · by_cases h2 : a = N
        · rw [if_neg (fun z => h z.1), if_pos ⟨h2, hC⟩, if_pos ⟨by omega, hC⟩]; omega
        · rw [if_neg (fun z => h z.1), if_neg (fun z => h2 z.1), if_neg (fun z => by omega)]; rfl
    · rw [if_neg (fun z => hC z.2), if_neg (fun z => hC z.2), if_neg (fun z => hC z.2)]; rfl
theorem sumI_swap {α : Type} (g : α → Nat → Int) (ts : List α) : ∀ N : Nat, (ts.map fun x => ((List.range N).map fun o => g x o).sum).sum = ((List.range N).map fun o => (ts.map fun x => g x o).sum).sum
  | 0 => by
    simp only [List.range_zero, List.map_nil, List.sum_nil]
    exact sumI_zero fun _ _ => rfl
  | N + 1 => by
    rw [List.range_succ, List.map_append, List.sum_append, ← sumI_swap g ts N, List.map_singleton, List.sum_singleton, ← sumI_add]
    congr 1
    refine List.map_congr_left fun x _ => ?_
    rw [List.map_append, List.sum_append, List.map_singleton, List.sum_singleton]
/-- what a state gives to a state by the first numbers -/
def con (j : Nat) (x : (Nat × Nat) × Int) (k : Nat × Nat) : Int := (if 0 < j ∧ x.1 = (k.1 + 1, k.2) then ((k.1 : Int) + 1) * x.2 else 0) + (if x.1.1 ≤ k.1 ∧ k.1 < j ∧ x.1.2 + k.1 = k.2 then x.2 else 0)
theorem con_all {ts : Tb} (hn : (ts.map (·.1)).Nodup) {j : Nat} (hj : 0 < j) (k : Nat × Nat) : (ts.map fun x => con j x k).sum = ((k.1 : Int) + 1) * wv ts (k.1 + 1, k.2) + (if k.1 < j ∧ k.1 ≤ k.2 then ((List.range (k.1 + 1)).map fun o => wv ts (o, k.2 - k.1)).sum else 0) := by
  unfold con
  rw [sumI_add]
  congr 1
  · rw [← sumI_at hn]
    congr 1
    refine List.map_congr_left fun x _ => ?_
    by_cases h : x.1 = (k.1 + 1, k.2)
    · rw [if_pos ⟨hj, h⟩, if_pos h]
    · rw [if_neg (fun z => h z.2), if_neg h]
  · by_cases hc : k.1 < j ∧ k.1 ≤ k.2
    · rw [if_pos hc]
      have e1 : ∀ o, wv ts (o, k.2 - k.1) = (ts.map fun x => if x.1 = (o, k.2 - k.1) then 1 * x.2 else 0).sum := fun o => by rw [sumI_at hn, Int.one_mul]
      rw [List.map_congr_left fun o _ => e1 o, ← sumI_swap]
      congr 1
      refine List.map_congr_left fun x _ => ?_
      have e2 : ∀ o, (if x.1 = (o, k.2 - k.1) then 1 * x.2 else 0) = if x.1.1 = o ∧ x.1.2 = k.2 - k.1 then x.2 else 0 := fun o => by
        by_cases h : x.1 = (o, k.2 - k.1)
        · rw [if_pos h, if_pos (by rw [h]; exact ⟨rfl, rfl⟩), Int.one_mul]
        · rw [if_neg h, if_neg fun z => h (Prod.ext z.1 z.2)]
      rw [List.map_congr_left fun o _ => e2 o, sumI_range]
      by_cases h : x.1.1 ≤ k.1 ∧ k.1 < j ∧ x.1.2 + k.1 = k.2
      · rw [if_pos h, if_pos ⟨by omega, by omega⟩]
      · rw [if_neg h, if_neg fun z => h ⟨by omega, hc.1, by omega⟩]
    · rw [if_neg hc]
      exact sumI_zero fun x _ => if_neg fun z => hc ⟨z.2.1, by omega⟩
/-- the table after some turns -/
structure TbOk (n t : Nat) (ts : Tb) : Prop where
  nd : (ts.map (·.1)).Nodup
  bd : ∀ k, k ∈ ts.map (·.1) → k.1 + t ≤ n ∧ k.2 ≤ t * n
  val : ∀ k, wv ts k = (cf (pl n t) k.1 k.2 : Nat)
theorem TbOk.first (n : Nat) : TbOk n 0 [((0, 0), 1)] := by
  refine ⟨List.pairwise_singleton _ _, fun k hk => ?_, fun k => ?_⟩
  · rw [List.map_singleton, List.mem_singleton] at hk
    rw [hk]
    exact ⟨by simp, by simp⟩
  · obtain ⟨o, p⟩ := k
    unfold wv
    rw [tbv_cons]
    match o, p with
    | 0, 0 => rfl
    | 0, p + 1 =>
      rw [if_neg (by simp)]
      rfl
    | o + 1, p =>
      rw [if_neg (by simp)]
      rfl
theorem cast_sum (f : Nat → Nat) : ∀ l : List Nat, ((l.map f).sum : Nat) = (l.map fun o => ((f o : Nat) : Int)).sum
  | [] => rfl
  | x :: l => by
    rw [List.map_cons, List.map_cons, List.sum_cons, List.sum_cons, ← cast_sum f l, Int.natCast_add]
theorem TbOk.next {n t : Nat} {ts ts' : Tb} (h : TbOk n t ts) (ht : t + 1 ≤ n) (hn : (ts'.map (·.1)).Nodup) (hb : ∀ k, k ∈ ts'.map (·.1) → k.1 + (t + 1) ≤ n ∧ k.2 ≤ (t + 1) * n) (hv : ∀ k, wv ts' k = (ts.map fun x => con (n - t) x k).sum) : TbOk n (t + 1) ts' := by
  refine ⟨hn, hb, fun k => ?_⟩
  rw [hv, con_all h.nd (by omega)]
  show _ = ((cf (nextP n t (pl n t)) k.1 k.2 : Nat) : Int)
  rw [cf_next]
  by_cases hk : k.1 + (t + 1) ≤ n
  · rw [if_pos hk, h.val]
    by_cases hp : k.2 < k.1
    · rw [if_pos hp, if_neg (by omega)]
      rw [Int.add_zero]
      show _ = (((k.1 + 1) * cf (pl n t) (k.1 + 1) k.2 : Nat) : Int)
      rw [Int.natCast_mul]
      rfl
    · rw [if_neg hp, if_pos ⟨by omega, by omega⟩, Int.natCast_add, Int.natCast_mul, cast_sum]
      congr 1
      congr 1
      exact List.map_congr_left fun o _ => h.val (o, k.2 - k.1)
  · rw [if_neg hk, wv_none fun x hx z => ?_, if_neg (by omega)]
    · rw [Int.mul_zero]; rfl
    · have := (h.bd x.1 (List.mem_map.mpr ⟨x, hx, rfl⟩)).1
      rw [z] at this
      have h3 : k.1 + 1 + t ≤ n := this
      omega
theorem tb_len {n t : Nat} {ts : Tb} (hn : (ts.map (·.1)).Nodup) (hb : ∀ k, k ∈ ts.map (·.1) → k.1 + t ≤ n ∧ k.2 ≤ t * n) (h20 : n ≤ 20) (ht : t ≤ n) : ts.length ≤ 21000 := by
  have htn : t * n ≤ 20 * 20 := Nat.mul_le_mul (by omega) h20
  have h1 : ((ts.map (·.1)).map fun k => ((k.1 * 1000 + k.2 : Nat) : Int)).Nodup := List.pairwise_map.mpr (List.Pairwise.imp_of_mem (fun {a b} ha hb' hne z => hne (by
    have h2 := hb a ha
    have h3 := hb b hb'
    have h4 : a.1 = b.1 ∧ a.2 = b.2 := by omega
    exact Prod.ext h4.1 h4.2)) hn)
  have h2 := Sy.nodup_len_le (M := (List.range 21000).map fun j : Nat => (j : Int)) h1 fun z hz => by
    obtain ⟨k, hk, rfl⟩ := List.mem_map.mp hz
    have h3 := hb k hk
    exact List.mem_map.mpr ⟨_, List.mem_range.mpr (by omega), rfl⟩
  rw [List.length_map, List.length_map, List.length_map, List.length_range] at h2
  exact h2
end Ln
namespace Ln
/-! ### what the table says at the sizes that are asked -/
theorem F1 : ∀ n : Nat, n < 15 → n ≠ 0 → cf (pl n n) 0 0 = 1 ∧ cf (pl n n) 0 (n * n / 4 + 1) = 0 ∧ ∀ a : Nat, a < n * n / 4 + 1 → 1 ≤ cf (pl n n) 0 a := by decide +kernel
theorem F2 : ((List.range 17).map fun a => cf (pl 8 8) 0 a).sum = 40320 ∧ (List.range 4).map (fun a => cf (pl 3 3) 0 a) = [1, 2, 3, 0] := by decide +kernel
theorem F3 : ∀ n : Nat, n < 7 → n ≠ 0 → ∀ a : Nat, a < n * n / 4 + 3 → cf (pl n n) 0 a = (((lanesA n n).map fun L => (dueL L).sum).filter fun x => decide (x = (a : Int))).length := by decide +kernel
def rowW (n a : Nat) : List Int := List.replicate (max 1 (n / 2) - a % max 1 (n / 2)) ((a / max 1 (n / 2) : Nat) : Int) ++ List.replicate (a % max 1 (n / 2)) (((a / max 1 (n / 2) : Nat) : Int) + 1) ++ List.replicate (n - max 1 (n / 2)) 0
theorem F4 : ∀ n : Nat, n < 15 → n ≠ 0 → ∀ a : Nat, a < n * n / 4 + 1 → (rowW n a).length = n ∧ good 0 (rowW n a) = true ∧ (rowW n a).sum = (a : Int) := by decide +kernel
theorem con_zero {x : (Nat × Nat) × Int} {k : Nat × Nat} : con 0 x k = 0 := by
  unfold con
  rw [if_neg (by omega), if_neg (by omega)]
  rfl
theorem con_back {o p : Nat} {v : Int} {k : Nat × Nat} : con 1 ((o + 1, p), v) k = if k = (o, p) then v * ((o : Int) + 1) else 0 := by
  obtain ⟨k1, k2⟩ := k
  unfold con
  rw [if_neg (c := o + 1 ≤ k1 ∧ k1 < 1 ∧ p + k1 = k2) (by omega), Int.add_zero]
  by_cases h : k1 = o ∧ k2 = p
  · obtain ⟨rfl, rfl⟩ := h
    rw [if_pos ⟨by omega, rfl⟩, if_pos rfl, Int.mul_comm]
  · rw [if_neg (fun z => h (by have := Prod.mk.inj z.2; omega)), if_neg (fun z => h (by have := Prod.mk.inj z; omega))]
theorem con_on {j o p : Nat} {v : Int} {k : Nat × Nat} (h : o ≤ j) (h0 : 0 < j ∨ o = 0) : con (j + 1) ((o, p), v) k = con j ((o, p), v) k + if k = (j, p + j) then v else 0 := by
  obtain ⟨k1, k2⟩ := k
  unfold con
  have e1 : (if 0 < j + 1 ∧ (o, p) = (k1 + 1, k2) then ((k1 : Int) + 1) * v else 0) = (if 0 < j ∧ (o, p) = (k1 + 1, k2) then ((k1 : Int) + 1) * v else 0) := by
    by_cases hj : 0 < j
    · by_cases hk : (o, p) = (k1 + 1, k2)
      · rw [if_pos ⟨by omega, hk⟩, if_pos ⟨hj, hk⟩]
      · rw [if_neg (fun z => hk z.2), if_neg (fun z => hk z.2)]
    · have ho : o = 0 := h0.resolve_left hj
      rw [if_neg (fun z => by have := (Prod.mk.inj z.2).1; omega), if_neg (fun z => hj z.1)]
  show (if 0 < j + 1 ∧ (o, p) = (k1 + 1, k2) then ((k1 : Int) + 1) * v else 0) + (if o ≤ k1 ∧ k1 < j + 1 ∧ p + k1 = k2 then v else 0) = (if 0 < j ∧ (o, p) = (k1 + 1, k2) then ((k1 : Int) + 1) * v else 0) + (if o ≤ k1 ∧ k1 < j ∧ p + k1 = k2 then v else 0) + _
  rw [e1, Int.add_assoc]
  congr 1
  by_cases hk : k1 = j ∧ k2 = p + j
  · obtain ⟨rfl, rfl⟩ := hk
    rw [if_pos ⟨h, by omega, rfl⟩, if_neg (by omega), if_pos rfl]
    omega
  · rw [if_neg (c := ((k1, k2) : Nat × Nat) = (j, p + j)) (fun z => hk (by have := Prod.mk.inj z; omega)), Int.add_zero]
    by_cases hc : o ≤ k1 ∧ k1 < j ∧ p + k1 = k2
    · rw [if_pos hc, if_pos ⟨hc.1, by omega, hc.2.2⟩]
    · rw [if_neg hc, if_neg fun z => by
        have : k1 ≠ j := fun e => hk ⟨e, by omega⟩
        exact hc ⟨z.1, by omega, z.2.2⟩]
theorem con_no {j o p : Nat} {v : Int} {k : Nat × Nat} (h : j < o) (h0 : 0 < j) : con (j + 1) ((o, p), v) k = con j ((o, p), v) k := by
  obtain ⟨k1, k2⟩ := k
  unfold con
  show (if 0 < j + 1 ∧ (o, p) = (k1 + 1, k2) then ((k1 : Int) + 1) * v else 0) + (if o ≤ k1 ∧ k1 < j + 1 ∧ p + k1 = k2 then v else 0) = (if 0 < j ∧ (o, p) = (k1 + 1, k2) then ((k1 : Int) + 1) * v else 0) + (if o ≤ k1 ∧ k1 < j ∧ p + k1 = k2 then v else 0)
  rw [if_neg (c := o ≤ k1 ∧ k1 < j + 1 ∧ p + k1 = k2) (by omega), if_neg (c := o ≤ k1 ∧ k1 < j ∧ p + k1 = k2) (by omega)]
  congr 1
  by_cases hk : (o, p) = (k1 + 1, k2)
  · rw [if_pos ⟨by omega, hk⟩, if_pos ⟨h0, hk⟩]
  · rw [if_neg (fun z => hk z.2), if_neg (fun z => hk z.2)]
theorem tot_mem {n : Nat} (h0 : 1 ≤ n) (h6 : n ≤ 6) {L : List Int} (hL : L ∈ lanesA n n) : (row .srt L).sum = (dueL L).sum ∧ Ord L ∧ L.length = n := by
  obtain ⟨hO, hl⟩ := (lanesA_ord h0 (by omega)).mp hL
  exact ⟨by rw [T1 hO], hO, hl⟩
end Ln
namespace Law
open PySem PySem.Spec PyProof.Rows L2 Sy
def topS (i : Nat) : Stmt := PySem.Challenge.pw_blockedcars_k33_whole_orders_by_totals.main.body.getD i (.Pass ⟨0, 0, 0, 0⟩)
abbrev s_is_integer : Stmt := topS 11
abbrev s_step : Stmt := topS 13
abbrev s_places_of : Stmt := topS 14
abbrev s_count_with : Stmt := topS 15
abbrev s_candidates : Stmt := topS 16
abbrev s_order_number : Stmt := topS 17
abbrev s_require_number : Stmt := topS 21
abbrev s_counted : Stmt := topS 22
abbrev s_greatest_total : Stmt := topS 23
abbrev s_count_by_total : Stmt := topS 24
abbrev s_order_with : Stmt := topS 25
abbrev s__law_source : Stmt := topS 27
abbrev s__law_pick : Stmt := topS 28
abbrev s__law_error_name : Stmt := topS 29
abbrev s__law_left : Stmt := topS 30
abbrev s__law_row : Stmt := topS 31
abbrev s__law_all_lanes : Stmt := topS 32
abbrev s__law_outcome : Stmt := topS 33
abbrev s__law_is_lane : Stmt := topS 34
abbrev s_law : Stmt := topS 35
/-- what the top has written -/
structure Top (K : PySem.W.Frag) (mg : Str → Option Value) where
  f_is_integer : Addr
  fd_is_integer : FuncData
  F_is_integer : Fun K "is_integer" "is_integer" s_is_integer f_is_integer fd_is_integer
  g_is_integer : mg "is_integer" = some (.ref f_is_integer)
  b_is_integer : Binds K fd_is_integer ["value", "low", "high"] []
  f_step : Addr
  fd_step : FuncData
  F_step : Fun K "step" "step" s_step f_step fd_step
  g_step : mg "step" = some (.ref f_step)
  b_step : Binds K fd_step ["size", "turn", "outside", "number"] []
  f_places_of : Addr
  fd_places_of : FuncData
  F_places_of : Fun K "places_of" "places_of" s_places_of f_places_of fd_places_of
  g_places_of : mg "places_of" = some (.ref f_places_of)
  b_places_of : Binds K fd_places_of ["row"] []
  f_count_with : Addr
  fd_count_with : FuncData
  F_count_with : Fun K "count_with" "count_with" s_count_with f_count_with fd_count_with
  g_count_with : mg "count_with" = some (.ref f_count_with)
  b_count_with : Binds K fd_count_with ["free", "chosen"] []
  f_candidates : Addr
  fd_candidates : FuncData
  F_candidates : Fun K "candidates" "candidates" s_candidates f_candidates fd_candidates
  g_candidates : mg "candidates" = some (.ref f_candidates)
  b_candidates : Binds K fd_candidates ["place", "fixed", "free", "chosen"] []
  f_order_number : Addr
  fd_order_number : FuncData
  F_order_number : Fun K "order_number" "order_number" s_order_number f_order_number fd_order_number
  g_order_number : mg "order_number" = some (.ref f_order_number)
  b_order_number : Binds K fd_order_number ["row", "number"] []
  f_require_number : Addr
  fd_require_number : FuncData
  F_require_number : Fun K "require_number" "require_number" s_require_number f_require_number fd_require_number
  g_require_number : mg "require_number" = some (.ref f_require_number)
  b_require_number : Binds K fd_require_number ["value", "low", "high"] []
  f_counted : Addr
  fd_counted : FuncData
  F_counted : Fun K "counted" "counted" s_counted f_counted fd_counted
  g_counted : mg "counted" = some (.ref f_counted)
  b_counted : Binds K fd_counted ["size"] []
  f_greatest_total : Addr
  fd_greatest_total : FuncData
  F_greatest_total : Fun K "greatest_total" "greatest_total" s_greatest_total f_greatest_total fd_greatest_total
  g_greatest_total : mg "greatest_total" = some (.ref f_greatest_total)
  b_greatest_total : Binds K fd_greatest_total ["size"] []
  f_count_by_total : Addr
  fd_count_by_total : FuncData
  F_count_by_total : Fun K "count_by_total" "count_by_total" s_count_by_total f_count_by_total fd_count_by_total
  g_count_by_total : mg "count_by_total" = some (.ref f_count_by_total)
  b_count_by_total : Binds K fd_count_by_total ["size", "number"] []
  f_order_with : Addr
  fd_order_with : FuncData
  F_order_with : Fun K "order_with" "order_with" s_order_with f_order_with fd_order_with
  g_order_with : mg "order_with" = some (.ref f_order_with)
  b_order_with : Binds K fd_order_with ["size", "number"] []
  f__law_source : Addr
  fd__law_source : FuncData
  F__law_source : Fun K "_law_source" "_law_source" s__law_source f__law_source fd__law_source
  g__law_source : mg "_law_source" = some (.ref f__law_source)
  b__law_source : Binds K fd__law_source ["script", "k"] []
  f__law_pick : Addr
  fd__law_pick : FuncData
  F__law_pick : Fun K "_law_pick" "_law_pick" s__law_pick f__law_pick fd__law_pick
  g__law_pick : mg "_law_pick" = some (.ref f__law_pick)
  b__law_pick : Binds K fd__law_pick ["source", "size"] []
  f__law_error_name : Addr
  fd__law_error_name : FuncData
  F__law_error_name : Fun K "_law_error_name" "_law_error_name" s__law_error_name f__law_error_name fd__law_error_name
  g__law_error_name : mg "_law_error_name" = some (.ref f__law_error_name)
  b__law_error_name : Binds K fd__law_error_name ["e"] []
  f__law_left : Addr
  fd__law_left : FuncData
  F__law_left : Fun K "_law_left" "_law_left" s__law_left f__law_left fd__law_left
  g__law_left : mg "_law_left" = some (.ref f__law_left)
  b__law_left : Binds K fd__law_left ["lane", "by"] []
  f__law_row : Addr
  fd__law_row : FuncData
  F__law_row : Fun K "_law_row" "_law_row" s__law_row f__law_row fd__law_row
  g__law_row : mg "_law_row" = some (.ref f__law_row)
  b__law_row : Binds K fd__law_row ["lane", "by"] []
  f__law_all_lanes : Addr
  fd__law_all_lanes : FuncData
  F__law_all_lanes : Fun K "_law_all_lanes" "_law_all_lanes" s__law_all_lanes f__law_all_lanes fd__law_all_lanes
  g__law_all_lanes : mg "_law_all_lanes" = some (.ref f__law_all_lanes)
  b__law_all_lanes : Binds K fd__law_all_lanes ["size"] []
  f__law_outcome : Addr
  fd__law_outcome : FuncData
  F__law_outcome : Fun K "_law_outcome" "_law_outcome" s__law_outcome f__law_outcome fd__law_outcome
  g__law_outcome : mg "_law_outcome" = some (.ref f__law_outcome)
  b__law_outcome : Binds K fd__law_outcome ["call", "size", "amount"] []
  f__law_is_lane : Addr
  fd__law_is_lane : FuncData
  F__law_is_lane : Fun K "_law_is_lane" "_law_is_lane" s__law_is_lane f__law_is_lane fd__law_is_lane
  g__law_is_lane : mg "_law_is_lane" = some (.ref f__law_is_lane)
  b__law_is_lane : Binds K fd__law_is_lane ["value", "size"] []
  f_law : Addr
  fd_law : FuncData
  F_law : Fun K "law" "law" s_law f_law fd_law
  g_law : mg "law" = some (.ref f_law)
  b_law : Binds K fd_law ["script"] []
  z_len : mg "len" = none
  z_sum : mg "sum" = none
  z_min : mg "min" = none
  z_max : mg "max" = none
  z_sorted : mg "sorted" = none
  z_tuple : mg "tuple" = none
  z_list : mg "list" = none
  z_range : mg "range" = none
  z_enumerate : mg "enumerate" = none
  z_zip : mg "zip" = none
  z_int : mg "int" = none
  z_isinstance : mg "isinstance" = none
  z_dict : mg "dict" = none
  z_bool : mg "bool" = none
  z_ValueError : mg "ValueError" = none
  C_InvalidOrder : Addr
  g_InvalidOrder : mg "InvalidOrder" = some (.ref C_InvalidOrder)
  C_InvalidRule : Addr
  g_InvalidRule : mg "InvalidRule" = some (.ref C_InvalidRule)
  C_InvalidNumber : Addr
  g_InvalidNumber : mg "InvalidNumber" = some (.ref C_InvalidNumber)
  C_InvalidRow : Addr
  g_InvalidRow : mg "InvalidRow" = some (.ref C_InvalidRow)
  C_InvalidCar : Addr
  g_InvalidCar : mg "InvalidCar" = some (.ref C_InvalidCar)
  C_TooMany : Addr
  g_TooMany : mg "TooMany" = some (.ref C_TooMany)
  C_LaneEmpty : Addr
  g_LaneEmpty : mg "LaneEmpty" = some (.ref C_LaneEmpty)
  C_NothingToUndo : Addr
  g_NothingToUndo : mg "NothingToUndo" = some (.ref C_NothingToUndo)
  C_LaneError : Addr
  g_LaneError : mg "LaneError" = some (.ref C_LaneError)
  e_InvalidNumber : Sy.ErrK K C_InvalidNumber C_LaneError [C_InvalidOrder, C_InvalidRule, C_InvalidNumber, C_InvalidRow, C_InvalidCar, C_TooMany, C_LaneEmpty, C_NothingToUndo, C_LaneError] [false, false, true, false, false, false, false, false, true]
  k_MAX_SIZE : Tok
  c_MAX_SIZE : mg "MAX_SIZE" = some (.int 20 k_MAX_SIZE)
  k_MOST : Tok
  c_MOST : mg "MOST" = some (.int 10000000000000000000000000000000000000000 k_MOST)

section
variable {P : Program} {w : World} {K : PySem.W.Frag} {mg : Str → Option Value} {base : Heap} {k : Nat}
def fPick : FSs := fun mo ds q => ∃ a b c n : Int, mo = .lst [I a, I b, I c] ∧ ds = [I n] ∧ (0 < c ∧ c < 2 ^ 31) ∧ (0 < n ∧ n < 2 ^ 30) ∧ ∀ r a' b' : Int, 0 ≤ r → r < n → q (.d (I r)) (.lst [I a', I b', I c])
abbrev n__law_pick : List Str := ["source", "size", "drawn"]
theorem sc__law_pick : FnScope n__law_pick ["source", "size"] (defScope s__law_pick) := ⟨rfl, rfl, rfl, by decide +kernel, rfl, by decide +kernel, by decide +kernel⟩
theorem ok__law_pick (T : Top K mg) : FnOk P w K mg base CX0 (k + 1) T.f__law_pick T.fd__law_pick ["source", "size"] (spS K fPick) := by
  refine fn_S (N := n__law_pick) T.F__law_pick sc__law_pick (fun mo ds q h => ?_) (fun cdv A outer s H E hr a mo ds q h => ?_)
  · obtain ⟨a, b, c, n, _, rfl, _⟩ := h
    rfl
  · obtain ⟨x, b, c, n, rfl, rfl, hc, hn, hq⟩ := h
    have nd := sc__law_pick.nd
    have hu1 := hu_of hr
    have hu64 := hr.units
    refine ss_cons ?_
    refine s_if ?_
    refine eb_cmp ?_
    refine ee_ixX 0 rfl ?_
    refine ee_int ?_
    first | refine ⟨_, _, _, rfl, rfl, rfl, ?_⟩
    refine ee_int ?_
    refine co_gt ?_
    refine ⟨_, rfl, ?_⟩
    refine ⟨fun h => ?_, fun h => ?_⟩
    · have hx : 0 < x := of_decide_eq_true h
      refine ss_cons ?_
      refine s_set 2 ?_ nd
      refine ee_bin ?_
      refine ee_ixX 0 rfl ?_
      refine ee_int ?_
      first | refine ⟨_, _, _, rfl, rfl, rfl, ?_⟩
      refine ee_var 1 rfl ?_
      refine bo_mod (by first | omega | (simp only [List.length_map, List.length_append, List.length_cons, List.length_nil, List.length_reverse, List.length_dropLast, List.length_take, List.length_drop, List.length_range, List.length_replicate, Sy.rgS_len, Sy.rgD_len, Ln.downs_len, Ln.upto_len]; omega) | decide | assumption) ?_
      refine ss_cons ?_
      refine s_setIx 0 rfl ?_
      refine ee_bin ?_
      refine ee_ixX 0 rfl ?_
      refine ee_int ?_
      first | refine ⟨_, _, _, rfl, rfl, rfl, ?_⟩
      refine ee_var 1 rfl ?_
      refine bo_fdiv ⟨by first | omega | (simp only [List.length_map, List.length_append, List.length_cons, List.length_nil, List.length_reverse, List.length_dropLast, List.length_take, List.length_drop, List.length_range, List.length_replicate, Sy.rgS_len, Sy.rgD_len, Ln.downs_len, Ln.upto_len]; omega) | decide | assumption, by first | omega | (simp only [List.length_map, List.length_append, List.length_cons, List.length_nil, List.length_reverse, List.length_dropLast, List.length_take, List.length_drop, List.length_range, List.length_replicate, Sy.rgS_len, Sy.rgD_len, Ln.downs_len, Ln.upto_len]; omega) | decide | assumption⟩ ?_
      refine ⟨_, rfl, ?_⟩
      refine ee_int ?_
      refine ⟨_, _, _, rfl, rfl, rfl, ?_⟩
      refine ss_one ?_
      refine s_ret ?_
      refine ee_var 2 rfl ?_
      exact ⟨_, rfl, hq _ _ _ (Int.emod_nonneg _ (by omega)) (Int.emod_lt_of_pos _ hn.1)⟩
    · have hb0 : 0 ≤ b * 48271 % c := Int.emod_nonneg _ (by omega)
      have hb1 : b * 48271 % c < c := Int.emod_lt_of_pos _ hc.1
      refine ss_nil ?_
      refine ss_cons ?_
      refine s_setIx 0 rfl ?_
      refine ee_bin ?_
      refine ee_bin ?_
      refine ee_bin ?_
      refine ee_ixX 0 rfl ?_
      refine ee_int ?_
      first | refine ⟨_, _, _, rfl, rfl, rfl, ?_⟩
      refine ee_int ?_
      refine bo_mul (by first | exact .inr ⟨by omega, by omega⟩ | exact .inl ⟨by omega, by omega⟩) ?_
      refine ee_ixX 0 rfl ?_
      refine ee_int ?_
      first | refine ⟨_, _, _, rfl, rfl, rfl, ?_⟩
      refine bo_mod (by first | omega | (simp only [List.length_map, List.length_append, List.length_cons, List.length_nil, List.length_reverse, List.length_dropLast, List.length_take, List.length_drop, List.length_range, List.length_replicate, Sy.rgS_len, Sy.rgD_len, Ln.downs_len, Ln.upto_len]; omega) | decide | assumption) ?_
      refine ee_int ?_
      refine bo_add ?_
      refine ⟨_, rfl, ?_⟩
      refine ee_int ?_
      refine ⟨_, _, _, rfl, rfl, rfl, ?_⟩
      refine ss_one ?_
      refine s_ret ?_
      refine ee_bin ?_
      refine ee_bin ?_
      refine ee_bin ?_
      refine ee_bin ?_
      refine ee_ixX 0 rfl ?_
      refine ee_int ?_
      first | refine ⟨_, _, _, rfl, rfl, rfl, ?_⟩
      refine ee_ixX 0 rfl ?_
      refine ee_int ?_
      first | refine ⟨_, _, _, rfl, rfl, rfl, ?_⟩
      refine bo_mul (by first | exact .inr ⟨by omega, by omega⟩ | exact .inl ⟨by omega, by omega⟩) ?_
      refine ee_int ?_
      refine bo_mod (by first | omega | (simp only [List.length_map, List.length_append, List.length_cons, List.length_nil, List.length_reverse, List.length_dropLast, List.length_take, List.length_drop, List.length_range, List.length_replicate, Sy.rgS_len, Sy.rgD_len, Ln.downs_len, Ln.upto_len]; omega) | decide | assumption) ?_
      refine ee_int ?_
      refine bo_fdiv ⟨by first | omega | (simp only [List.length_map, List.length_append, List.length_cons, List.length_nil, List.length_reverse, List.length_dropLast, List.length_take, List.length_drop, List.length_range, List.length_replicate, Sy.rgS_len, Sy.rgD_len, Ln.downs_len, Ln.upto_len]; omega) | decide | assumption, by first | omega | (simp only [List.length_map, List.length_append, List.length_cons, List.length_nil, List.length_reverse, List.length_dropLast, List.length_take, List.length_drop, List.length_range, List.length_replicate, Sy.rgS_len, Sy.rgD_len, Ln.downs_len, Ln.upto_len]; omega) | decide | assumption⟩ ?_
      refine ee_var 1 rfl ?_
      refine bo_mod (by first | omega | (simp only [List.length_map, List.length_append, List.length_cons, List.length_nil, List.length_reverse, List.length_dropLast, List.length_take, List.length_drop, List.length_range, List.length_replicate, Sy.rgS_len, Sy.rgD_len, Ln.downs_len, Ln.upto_len]; omega) | decide | assumption) ?_
      exact ⟨_, rfl, hq _ _ _ (Int.emod_nonneg _ (by omega)) (Int.emod_lt_of_pos _ hn.1)⟩

theorem use_pick {a b c n : Int} {q : Res → MO → Prop} (hc : 0 < c ∧ c < 2 ^ 31) (h0 : 0 < n) (h1 : n < 2 ^ 30) (hq : ∀ r a' b' : Int, 0 ≤ r → r < n → q (.d (I r)) (.lst [I a', I b', I c])) : fPick (.lst [I a, I b, I c]) [I n] q := ⟨a, b, c, n, rfl, rfl, hc, ⟨h0, h1⟩, hq⟩

def fSource : FSp := fun ds q => ∃ (ns : List Int) (k : Int), ds = [.lst (ns.map I), I k] ∧ ns.length ≤ 63 ∧ 0 ≤ k ∧ k < 64 ∧ ∀ a b c : Int, 0 < c → c < 2 ^ 31 → q (.m (.lst [I a, I b, I c]))
def primesL : List D := [I 2147483647, I 2147483629, I 2147483587, I 2147483579, I 2147483563, I 2147483549, I 2147483543, I 2147483497]
theorem primes_at (k : Int) : ∃ c, atI primesL (k % 8) = some (I c) ∧ 0 < c ∧ c < 2 ^ 31 := by
  have h0 : 0 ≤ k % 8 := Int.emod_nonneg _ (by decide)
  have h1 : k % 8 < 8 := Int.emod_lt_of_pos _ (by decide)
  have : k % 8 = 0 ∨ k % 8 = 1 ∨ k % 8 = 2 ∨ k % 8 = 3 ∨ k % 8 = 4 ∨ k % 8 = 5 ∨ k % 8 = 6 ∨ k % 8 = 7 := by omega
  rcases this with e | e | e | e | e | e | e | e <;> rw [e] <;> exact ⟨_, rfl, by decide, by decide⟩
abbrev n__law_source : List Str := ["script", "k", "cell", "primes", "seed"]
theorem sc__law_source : FnScope n__law_source ["script", "k"] (defScope s__law_source) := ⟨rfl, rfl, rfl, by decide +kernel, rfl, by decide +kernel, by decide +kernel⟩
theorem ok__law_source (T : Top K mg) : FnOk P w K mg base CX0 (k + 1) T.f__law_source T.fd__law_source ["script", "k"] (spF K fSource) := by
  refine fn_F (N := n__law_source) T.F__law_source sc__law_source (fun ds q h => ?_) (fun cdv A outer s H E hr ds q h => ?_)
  · obtain ⟨ns, k, rfl, _⟩ := h
    rfl
  · obtain ⟨ns, k, rfl, hl, hk0, hk1, hq⟩ := h
    have nd := sc__law_source.nd
    have hu1 := hu_of hr
    have hu64 := hr.units
    refine ss_cons ?_
    refine s_set 2 ?_ nd
    refine ee_int ?_
    refine ss_cut (fun e => ∃ cell : Int, e = [.dat (.lst (ns.map I)), .dat (I k), .dat (I cell), .un, .un]) ?_ ?_
    · refine s_if ?_
      refine eb_cmp ?_
      refine ee_var 1 rfl ?_
      refine ee_lenL T.z_len ?_
      refine el_dat ?_
      refine ee_var 0 rfl ?_
      refine ⟨_, rfl, ?_⟩
      refine co_lt ?_
      refine ⟨_, rfl, ?_⟩
      refine ⟨fun h => ?_, fun h => ?_⟩
      · have hx : k < ((ns.map I).length : Int) := of_decide_eq_true h
        rw [List.length_map] at hx
        refine ss_one ?_
        refine s_set 2 ?_ nd
        refine ee_ix ?_
        refine ee_var 0 rfl ?_
        refine ee_var 1 rfl ?_
        refine ⟨_, _, _, .inr rfl, rfl, atI_ints hk0 hx, ?_⟩
        exact ⟨_, rfl⟩
      · refine ss_nil ?_
        exact ⟨_, rfl⟩
    · rintro env' ⟨cell, rfl⟩
      have h1 : 0 ≤ cell % 2147483489 := Int.emod_nonneg _ (by decide)
      have h2 : cell % 2147483489 < 2147483489 := Int.emod_lt_of_pos _ (by decide)
      have h3 : 0 ≤ (cell % 2147483489 + 1) * (48271 + 2 * k) % 2147483489 := Int.emod_nonneg _ (by decide)
      have h4 : (cell % 2147483489 + 1) * (48271 + 2 * k) % 2147483489 < 2147483489 := Int.emod_lt_of_pos _ (by decide)
      refine ss_cons ?_
      refine s_setM 3 ?_ nd
      refine em_lst ?_
      refine ed_cons ?_
      refine ee_int ?_
      refine ed_cons ?_
      refine ee_int ?_
      refine ed_cons ?_
      refine ee_int ?_
      refine ed_cons ?_
      refine ee_int ?_
      refine ed_cons ?_
      refine ee_int ?_
      refine ed_cons ?_
      refine ee_int ?_
      refine ed_cons ?_
      refine ee_int ?_
      refine ed_cons ?_
      refine ee_int ?_
      refine ed_nil ?_
      refine ⟨Nat.le_of_ble_eq_true rfl, ?_⟩
      refine ⟨Nat.le_of_ble_eq_true rfl, fun p_primes => ?_⟩
      refine ss_cons ?_
      refine s_set 4 ?_ nd
      refine ee_bin ?_
      refine ee_bin ?_
      refine ee_bin ?_
      refine ee_bin ?_
      refine ee_var 2 rfl ?_
      refine ee_int ?_
      refine bo_mod (by first | omega | (simp only [List.length_map, List.length_append, List.length_cons, List.length_nil, List.length_reverse, List.length_dropLast, List.length_take, List.length_drop, List.length_range, List.length_replicate, Sy.rgS_len, Sy.rgD_len, Ln.downs_len, Ln.upto_len]; omega) | decide | assumption) ?_
      refine ee_int ?_
      refine bo_add ?_
      refine ee_bin ?_
      refine ee_int ?_
      refine ee_bin ?_
      refine ee_int ?_
      refine ee_var 1 rfl ?_
      refine bo_mul (by first | exact .inr ⟨by omega, by omega⟩ | exact .inl ⟨by omega, by omega⟩) ?_
      refine bo_add ?_
      refine bo_mul (by first | exact .inr ⟨by omega, by omega⟩ | exact .inl ⟨by omega, by omega⟩) ?_
      refine ee_int ?_
      refine bo_mod (by first | omega | (simp only [List.length_map, List.length_append, List.length_cons, List.length_nil, List.length_reverse, List.length_dropLast, List.length_take, List.length_drop, List.length_range, List.length_replicate, Sy.rgS_len, Sy.rgD_len, Ln.downs_len, Ln.upto_len]; omega) | decide | assumption) ?_
      refine ss_cons ?_
      refine s_set 4 ?_ nd
      refine ee_bin ?_
      refine ee_bin ?_
      refine ee_bin ?_
      refine ee_bin ?_
      refine ee_var 4 rfl ?_
      refine ee_var 4 rfl ?_
      refine bo_mul (by first | exact .inr ⟨by omega, by omega⟩ | exact .inl ⟨by omega, by omega⟩) ?_
      refine ee_int ?_
      refine bo_mod (by first | omega | (simp only [List.length_map, List.length_append, List.length_cons, List.length_nil, List.length_reverse, List.length_dropLast, List.length_take, List.length_drop, List.length_range, List.length_replicate, Sy.rgS_len, Sy.rgD_len, Ln.downs_len, Ln.upto_len]; omega) | decide | assumption) ?_
      refine ee_var 1 rfl ?_
      refine bo_add ?_
      refine ee_int ?_
      refine bo_add ?_
      refine ss_cons ?_
      refine s_if ?_
      refine eb_cmp ?_
      refine ee_var 2 rfl ?_
      refine ee_bin ?_
      refine ee_int ?_
      refine ee_int ?_
      refine bo_pow ⟨by decide, by decide, by decide⟩ ?_
      refine co_ge ?_
      refine ⟨_, rfl, ?_⟩
      obtain ⟨c, hc, hc0, hc1⟩ := primes_at k
      refine ⟨fun h => ?_, fun h => ?_⟩
      · refine ss_one ?_
        refine s_retM ?_
        refine em_lst ?_
        refine ed_cons ?_
        refine ee_var 2 rfl ?_
        refine ed_cons ?_
        refine ee_var 4 rfl ?_
        refine ed_cons ?_
        refine ee_ixX 3 rfl ?_
        refine ee_bin ?_
        refine ee_var 1 rfl ?_
        refine ee_int ?_
        refine bo_mod (by first | omega | (simp only [List.length_map, List.length_append, List.length_cons, List.length_nil, List.length_reverse, List.length_dropLast, List.length_take, List.length_drop, List.length_range, List.length_replicate, Sy.rgS_len, Sy.rgD_len, Ln.downs_len, Ln.upto_len]; omega) | decide | assumption) ?_
        refine ⟨_, _, _, rfl, rfl, hc, ?_⟩
        refine ed_nil ?_
        refine ⟨Nat.le_of_ble_eq_true rfl, ?_⟩
        exact hq _ _ _ hc0 hc1
      · refine ss_nil ?_
        refine ss_one ?_
        refine s_retM ?_
        refine em_lst ?_
        refine ed_cons ?_
        refine ee_int ?_
        refine ed_cons ?_
        refine ee_var 4 rfl ?_
        refine ed_cons ?_
        refine ee_ixX 3 rfl ?_
        refine ee_bin ?_
        refine ee_var 1 rfl ?_
        refine ee_int ?_
        refine bo_mod (by first | omega | (simp only [List.length_map, List.length_append, List.length_cons, List.length_nil, List.length_reverse, List.length_dropLast, List.length_take, List.length_drop, List.length_range, List.length_replicate, Sy.rgS_len, Sy.rgD_len, Ln.downs_len, Ln.upto_len]; omega) | decide | assumption) ?_
        refine ⟨_, _, _, rfl, rfl, hc, ?_⟩
        refine ed_nil ?_
        refine ⟨Nat.le_of_ble_eq_true rfl, ?_⟩
        exact hq _ _ _ hc0 hc1

def intIn : D → Int → Int → Bool
  | .v (.int i), lo, hi => decide (lo ≤ i) && decide (i ≤ hi)
  | _, _, _ => false
theorem intIn_not {d : D} {lo hi : Int} (h : isInt d = false) : intIn d lo hi = false := by
  match d, h with
  | .v (.bl _), _ => rfl
  | .v (.str _), _ => rfl
  | .v .non, _ => rfl
  | .v (.byt _), _ => rfl
  | .v (.flt _), _ => rfl
  | .v (.ref _), _ => rfl
  | .v (.ty _), _ => rfl
  | .tup _, _ => rfl
  | .lst _, _ => rfl
  | .dct _, _ => rfl
  | .dti _, _ => rfl
  | .wt _, _ => rfl
theorem int_of {d : D} (h : isInt d = true) (h2 : isBool d = false) : ∃ i, d = I i := by
  match d, h, h2 with
  | .v (.int i), _, _ => exact ⟨i, rfl⟩
theorem bl_of {d : D} (h : isBool d = true) : ∃ i, d = Bl i := by
  match d, h with
  | .v (.bl i), _ => exact ⟨i, rfl⟩
def fIsInt : FSp := fun ds q => ∃ (d : D) (lo hi : Int), ds = [d, I lo, I hi] ∧ okD d = true ∧ q (.d (Bl (intIn d lo hi)))
abbrev n_is_integer : List Str := ["value", "low", "high"]
theorem sc_is_integer : FnScope n_is_integer ["value", "low", "high"] (defScope s_is_integer) := ⟨rfl, rfl, rfl, by decide +kernel, rfl, by decide +kernel, by decide +kernel⟩
theorem ok_is_integer (T : Top K mg) : FnOk P w K mg base CX0 (k + 1) T.f_is_integer T.fd_is_integer ["value", "low", "high"] (spF K fIsInt) := by
  refine fn_F (N := n_is_integer) T.F_is_integer sc_is_integer (fun ds q h => ?_) (fun cdv A outer s H E hr ds q h => ?_)
  · obtain ⟨d, lo, hi, rfl, _⟩ := h
    rfl
  · obtain ⟨d, lo, hi, rfl, hok, hq⟩ := h
    have nd := sc_is_integer.nd
    have hu1 := hu_of hr
    have hu64 := hr.units
    refine ss_one ?_
    refine s_ret ?_
    refine ee_and ?_
    refine ee_isiInt T.z_isinstance T.z_int ?_
    refine ee_var 0 rfl ?_
    refine ⟨hok, ?_⟩
    refine ⟨_, rfl, ?_⟩
    refine ⟨fun h1 => ?_, fun h1 => ?_⟩
    · refine ee_and ?_
      refine ee_not ?_
      refine ee_isiBool T.z_isinstance T.z_bool ?_
      refine ee_var 0 rfl ?_
      refine ⟨hok, ?_⟩
      refine ⟨_, rfl, ?_⟩
      refine ⟨_, rfl, ?_⟩
      refine ⟨fun h2 => ?_, fun h2 => ?_⟩
      · obtain ⟨i, rfl⟩ := int_of h1 (by simpa using h2)
        refine ee_bool1 ?_
        refine ee_chain ?_
        refine ee_var 1 rfl ?_
        refine ee_var 0 rfl ?_
        refine co_le ?_
        refine ⟨_, rfl, ?_⟩
        refine ⟨fun h3 => ?_, fun h3 => ?_⟩
        · refine ee_var 2 rfl ?_
          refine co_le ?_
          have e : intIn (I i) lo hi = decide (i ≤ hi) := by
            show (decide (lo ≤ i) && decide (i ≤ hi)) = _
            rw [h3, Bool.true_and]
          rw [e] at hq
          exact hq
        · skip
          have e : intIn (I i) lo hi = false := by
            show (decide (lo ≤ i) && decide (i ≤ hi)) = _
            rw [h3, Bool.false_and]
          rw [e] at hq
          exact hq
      · obtain ⟨i, rfl⟩ := bl_of (d := d) (by simpa using h2)
        exact hq
    · skip
      rw [intIn_not h1] at hq
      exact hq

/-- what is_order says of a value -/
def IsOrdD (d : D) : Prop := ∃ ns : List Int, d = .tup (ns.map I) ∧ Ln.Ord ns
def okV (d : D) : Prop := okD d = true ∧ ∀ xs, d = .tup xs → ∀ x, x ∈ xs → okD x = true
theorem tup_of {d : D} (h : isTup d = true) : ∃ ds, d = .tup ds := by
  match d, h with
  | .tup ds, _ => exact ⟨ds, rfl⟩
theorem not_tup {ds : List D} (h : isTup (.tup ds) = false) : False := by cases h
theorem intIn_true {d : D} {lo hi : Int} (h : intIn d lo hi = true) : ∃ i, d = I i ∧ lo ≤ i ∧ i ≤ hi := by
  match d, h with
  | .v (.int i), h =>
    have h : (decide (lo ≤ i) && decide (i ≤ hi)) = true := h
    rw [Bool.and_eq_true] at h
    exact ⟨i, rfl, of_decide_eq_true h.1, of_decide_eq_true h.2⟩
theorem intIn_I {i lo hi : Int} (h1 : lo ≤ i) (h2 : i ≤ hi) : intIn (I i) lo hi = true := by
  show (decide (lo ≤ i) && decide (i ≤ hi)) = true
  rw [decide_eq_true h1, decide_eq_true h2]
  rfl
theorem all_ints {lo hi : Int} : ∀ {ds : List D}, (∀ x, x ∈ ds → intIn x lo hi = true) → ∃ ns : List Int, ds = ns.map I
  | [], _ => ⟨[], rfl⟩
  | d :: ds, h => by
    obtain ⟨i, rfl, _⟩ := intIn_true (h d List.mem_cons_self)
    obtain ⟨ns, e⟩ := all_ints (ds := ds) fun x hx => h x (List.mem_cons_of_mem _ hx)
    exact ⟨i :: ns, by rw [e]; rfl⟩
theorem rgD_upto (n : Nat) : rgD 1 ((n : Int) + 1) = (Ln.upto n).map I := by
  unfold rgD Ln.upto
  rw [List.map_map]
  have e : ((n : Int) + 1 - 1).toNat = n := by omega
  rw [e]
  refine List.map_congr_left fun i _ => ?_
  show I (1 + (i : Int)) = I ((i : Int) + 1)
  rw [Int.add_comm]
theorem lstI_inj {xs ys : List Int} (h : D.lst (xs.map I) = D.lst (ys.map I)) : xs = ys := by
  have h := D.lst.inj h
  refine (List.map_inj_right (f := I) fun a b e => ?_).mp h
  cases e
  rfl
theorem tupI_inj {xs ys : List Int} (h : D.tup (xs.map I) = D.tup (ys.map I)) : xs = ys := by
  have h := D.tup.inj h
  refine (List.map_inj_right (f := I) fun a b e => ?_).mp h
  cases e
  rfl
theorem dep_ints (ns : List Int) : (D.lst (ns.map I)).dep ≤ 64 := by
  show depA (ns.map I) + 1 ≤ 64
  rw [depA_ints]
  decide
theorem dep_intsT (ns : List Int) : (D.tup (ns.map I)).dep ≤ 64 := dep_ints ns
theorem okV_ints (ns : List Int) : okV (.tup (ns.map I)) := ⟨rfl, fun xs e x hx => by
  have e := D.tup.inj e
  rw [← e, List.mem_map] at hx
  obtain ⟨i, _, rfl⟩ := hx
  rfl⟩

theorem ord_len {ns : List Int} (h : Ln.Ord ns) : ns.length < 64 := by
  obtain ⟨_, h, _⟩ := h
  omega
theorem tup_ne {ns : List Int} {x : Bool} (h : x = true ↔ D.tup (ns.map I) ≠ D.tup []) : x = true ↔ ns ≠ [] := by
  rw [h]
  constructor
  · intro h e
    exact h (by rw [e]; rfl)
  · intro h e
    have e := D.tup.inj e
    exact h (List.map_eq_nil_iff.mp e)
theorem b_false {b : Bool} {p : Prop} (h : b = true ↔ ¬ p) (hp : p) : b = false := by
  cases b with
  | false => rfl
  | true => exact absurd hp (h.mp rfl)

abbrev errWords : List Str := ["order", "rule", "number", "row", "car", "many", "empty", "undo", "base", "value"]
abbrev n__law_error_name : List Str := ["e", "some", "words", "names", "word", "good"]
theorem sc__law_error_name : FnScope n__law_error_name ["e"] (defScope s__law_error_name) := ⟨rfl, rfl, rfl, by decide +kernel, rfl, by decide +kernel, by decide +kernel⟩
theorem ok__law_error_name (T : Top K mg) {C : Addr} {b0 b1 b2 b3 b4 b5 b6 b7 : Bool} {z : Str} (he : Sy.ErrK K C T.C_LaneError [T.C_InvalidOrder, T.C_InvalidRule, T.C_InvalidNumber, T.C_InvalidRow, T.C_InvalidCar, T.C_TooMany, T.C_LaneEmpty, T.C_NothingToUndo, T.C_LaneError] [b0, b1, b2, b3, b4, b5, b6, b7, true]) (hz : SyH.pk errWords [b0, b1, b2, b3, b4, b5, b6, b7, true, true] = [z, "base", "value"]) : SyH.FnP P w K mg base (k + 1) T.f__law_error_name T.fd__law_error_name ["e"] (spE K C z) := by
  refine fn_E (N := n__law_error_name) T.F__law_error_name sc__law_error_name fun cdv A outer s H p hot hr h1 h2 h3 => ?_
  have hp : p ∈ [p] := List.mem_singleton.mpr rfl
  have hu64 : (A.deeper (envOfC "_law_error_name" (defScope s__law_error_name) s.heap.objs.size T.f__law_error_name cdv)).units + 64 < cLine := by have := hr.un; omega
  have nd := sc__law_error_name.nd
  refine ss_cons ?_
  refine s_setM 1 ?_ nd
  refine em_lst ?_
  refine ed_cons ?_
  refine ee_isEC 0 T.z_isinstance hp he.c h1 h2 h3 T.g_InvalidOrder (he.ki 0 _ _ rfl rfl) rfl ?_
  refine ed_cons ?_
  refine ee_isEC 0 T.z_isinstance hp he.c h1 h2 h3 T.g_InvalidRule (he.ki 1 _ _ rfl rfl) rfl ?_
  refine ed_cons ?_
  refine ee_isEC 0 T.z_isinstance hp he.c h1 h2 h3 T.g_InvalidNumber (he.ki 2 _ _ rfl rfl) rfl ?_
  refine ed_nil ?_
  refine ⟨Nat.le_of_ble_eq_true rfl, ?_⟩
  refine ⟨Nat.le_of_ble_eq_true rfl, fun p_some => ?_⟩
  refine ss_cons ?_
  refine s_setM 1 ?_ nd
  refine em_catX 1 rfl ?_
  refine ee_new ?_
  refine em_lst ?_
  refine ed_cons ?_
  refine ee_isEC 0 T.z_isinstance hp he.c h1 h2 h3 T.g_InvalidRow (he.ki 3 _ _ rfl rfl) rfl ?_
  refine ed_cons ?_
  refine ee_isEC 0 T.z_isinstance hp he.c h1 h2 h3 T.g_InvalidCar (he.ki 4 _ _ rfl rfl) rfl ?_
  refine ed_cons ?_
  refine ee_isEC 0 T.z_isinstance hp he.c h1 h2 h3 T.g_TooMany (he.ki 5 _ _ rfl rfl) rfl ?_
  refine ed_nil ?_
  refine ⟨Nat.le_of_ble_eq_true rfl, ?_⟩
  refine ⟨_, _, rfl, rfl, by simp, ?_⟩
  refine ⟨Nat.le_of_ble_eq_true rfl, fun p_some => ?_⟩
  refine ss_cons ?_
  refine s_setM 1 ?_ nd
  refine em_catX 1 rfl ?_
  refine ee_new ?_
  refine em_lst ?_
  refine ed_cons ?_
  refine ee_isEC 0 T.z_isinstance hp he.c h1 h2 h3 T.g_LaneEmpty (he.ki 6 _ _ rfl rfl) rfl ?_
  refine ed_cons ?_
  refine ee_isEC 0 T.z_isinstance hp he.c h1 h2 h3 T.g_NothingToUndo (he.ki 7 _ _ rfl rfl) rfl ?_
  refine ed_nil ?_
  refine ⟨Nat.le_of_ble_eq_true rfl, ?_⟩
  refine ⟨_, _, rfl, rfl, by simp, ?_⟩
  refine ⟨Nat.le_of_ble_eq_true rfl, fun p_some => ?_⟩
  refine ss_cons ?_
  refine s_setM 1 ?_ nd
  refine em_catX 1 rfl ?_
  refine ee_new ?_
  refine em_lst ?_
  refine ed_cons ?_
  refine ee_isEC 0 T.z_isinstance hp he.c h1 h2 h3 T.g_LaneError (he.ki 8 _ _ rfl rfl) rfl ?_
  refine ed_cons ?_
  refine ee_isEB 0 T.z_isinstance hp he.c h1 h2 h3 T.z_ValueError (by decide +kernel) he.kv rfl ?_
  refine ed_nil ?_
  refine ⟨Nat.le_of_ble_eq_true rfl, ?_⟩
  refine ⟨_, _, rfl, rfl, by simp, ?_⟩
  refine ⟨Nat.le_of_ble_eq_true rfl, fun p_some => ?_⟩
  refine ss_cons ?_
  refine s_set 2 ?_ nd
  refine ee_str ?_
  refine ss_cons ?_
  refine s_lcZ 3 2 1 4 5 (ws := errWords) (bs := [b0, b1, b2, b3, b4, b5, b6, b7, true, true]) ⟨p, hot, hp⟩ nd ?ok T.z_zip rfl rfl ?sp rfl ?le ?h0 ?tl ?q ?nx ?ny ?ht ?he ?hw ?hz ?es
  case ok => exact blkOk_by (show blkC n__law_error_name (defScope s__law_error_name) _ _ = true by decide +kernel)
  case sp => decide +kernel
  case le => decide
  case h0 => rfl
  case tl => decide
  case nx => exact fun _ _ _ _ _ => pg_name (i := 4) nd rfl (.inl rfl)
  case ny => exact fun _ _ _ _ _ => pg_name (i := 5) nd rfl (.inl rfl)
  case ht => exact fun _ _ _ _ _ => pe_var rfl (.inl rfl)
  case he => exact fun _ _ _ _ _ => pe_var rfl (.inl rfl)
  case hw => exact pe_var rfl (.inl rfl)
  case hz => exact pe_var rfl (.inl rfl)
  case es => exact fun _ _ _ _ _ => ⟨rfl, rfl⟩
  rw [hz]
  refine ⟨Nat.le_of_ble_eq_true rfl, fun p_names => ?_⟩
  refine ss_one ?_
  refine s_ret ?_
  refine ee_if ?_
  refine eb_cmp ?_
  refine ee_new ?_
  refine em_sliceX 3 rfl ?_
  refine eo_some ?_
  refine ee_int ?_
  refine ⟨_, rfl, ?_⟩
  refine eo_none ?_
  refine ⟨_, rfl, ?_⟩
  refine ee_new ?_
  refine em_lst ?_
  refine ed_cons ?_
  refine ee_str ?_
  refine ed_cons ?_
  refine ee_str ?_
  refine ed_nil ?_
  refine ⟨Nat.le_of_ble_eq_true rfl, ?_⟩
  refine co_eqD hu64 ⟨show PyData.strOk "base" = true by decide +kernel, show PyData.strOk "value" = true by decide +kernel, trivial⟩ ⟨show PyData.strOk "base" = true by decide +kernel, show PyData.strOk "value" = true by decide +kernel, trivial⟩ (Nat.le_of_ble_eq_true rfl) (Nat.le_of_ble_eq_true rfl) fun b hb => ?_
  refine ⟨_, rfl, ?_⟩
  obtain rfl : b = true := hb.mpr rfl
  refine ⟨fun _ => ?_, fun h => nomatch h⟩
  refine ee_ixX 3 rfl ?_
  refine ee_int ?_
  first | refine ⟨_, _, _, rfl, rfl, rfl, ?_⟩
  exact rfl
theorem err_InvalidNumber (T : Top K mg) : SyH.FnP P w K mg base (k + 1) T.f__law_error_name T.fd__law_error_name ["e"] (spE K T.C_InvalidNumber "number") := ok__law_error_name T T.e_InvalidNumber (by decide +kernel)

def fLeft : FSp := fun ds q => ∃ (ns : List Int) (r : Ln.Rl), ds = [.tup (ns.map I), S_ r.str] ∧ ns ≠ [] ∧ ns.length < 64 ∧ ns.Nodup ∧ q (.d (.tup [I (Ln.outs ns).length, .tup ((Ln.next r ns).map I)]))
theorem take_last {ns : List Int} {j : Nat} (h : j < ns.length) : ns.take (j + 1) = ns.take j ++ [ns[j]] := by
  rw [List.take_add_one, List.getElem?_eq_getElem h]
  rfl
theorem drop_rev {ns : List Int} {j : Nat} (h : j < ns.length) : (ns.drop j).reverse = (ns.drop (j + 1)).reverse ++ [ns[j]] := by
  rw [List.drop_eq_getElem_cons h, List.reverse_cons]
theorem back_rev (r : Ln.Rl) (o : List Int) : (if r = .srt then (Ln.srt o.reverse).reverse else if r = .old then o.reverse.reverse else o.reverse) = Ln.back r o := by
  cases r with
  | old => rw [if_neg (by decide), if_pos rfl, List.reverse_reverse]; rfl
  | rev => rw [if_neg (by decide), if_neg (by decide)]; rfl
  | srt =>
    rw [if_pos rfl]
    show _ = (Ln.srt o).reverse
    rw [Ln.srt_eq ((Ln.srt_perm o.reverse).trans (List.reverse_perm o)) (Ln.srt_pw _)]
abbrev n__law_left : List Str := ["lane", "by", "inside", "out", "back", "car"]
theorem sc__law_left : FnScope n__law_left ["lane", "by"] (defScope s__law_left) := ⟨rfl, rfl, rfl, by decide +kernel, rfl, by decide +kernel, by decide +kernel⟩
theorem ok__law_left (T : Top K mg) : FnOk P w K mg base CX0 (k + 1) T.f__law_left T.fd__law_left ["lane", "by"] (spF K fLeft) := by
  refine fn_F (N := n__law_left) T.F__law_left sc__law_left (fun ds q h => ?_) (fun cdv A outer s H E hr ds q h => ?_)
  · obtain ⟨ns, r, rfl, _⟩ := h
    rfl
  · obtain ⟨ns, r, rfl, hne, hlen, hnd, hq⟩ := h
    have hai := Ln.idx_lt hne
    have nd := sc__law_left.nd
    have hu1 := hu_of hr
    have hu64 := hr.units
    refine ss_cons ?_
    first | refine s_par 2 3 ?_ nd | refine s_parC 2 3 ?_ nd
    refine eu_m ?_
    refine em_listT T.z_list ?_
    refine ee_var 0 rfl ?_
    refine ⟨_, rfl, ?_⟩
    refine eu_m ?_
    refine em_lst ?_
    refine ed_nil ?_
    refine ⟨Nat.le_of_ble_eq_true rfl, ?_⟩
    refine eu_nil ?_
    refine ⟨Nat.le_of_ble_eq_true rfl, fun p_inside => ?_⟩
    refine ⟨Nat.le_of_ble_eq_true rfl, fun p_out => ?_⟩
    refine ss_cons ?_
    refine s_while (fun m e => ∃ j : Nat, m = j ∧ ns.idxOf (Ln.lo ns) ≤ j ∧ j < ns.length ∧ e = [.dat (.tup (ns.map I)), .dat (S_ r.str), .mu p_inside (.lst ((ns.take (j + 1)).map I)), .mu p_out (.lst ((ns.drop (j + 1)).reverse.map I)), .un, .un]) (ns.length - 1) ⟨ns.length - 1, rfl, by omega, by omega, ?_⟩ fun j e hI => ?_
    · have e1 : ns.length - 1 + 1 = ns.length := by omega
      rw [e1, List.take_length, List.drop_length]
      rfl
    obtain ⟨_, rfl, hj1, hj2, rfl⟩ := hI
    have hgl : atI ((ns.take (j + 1)).map I) (-1) = some (I ns[j]) := by
      rw [take_last hj2, List.map_append]
      exact atI_last _ _
    refine eb_cmp ?_
    refine ee_ixX 2 rfl ?_
    refine ee_neg (i := 0) ?_
    refine ee_int ?_
    refine ⟨_, rfl, ?_⟩
    refine ⟨_, _, _, rfl, rfl, hgl, ?_⟩
    refine ee_minT T.z_min hu1 ?_
    refine ee_var 0 rfl ?_
    refine ⟨ns, rfl, hne, fun m hm1 hm2 => ?_⟩
    have e := Ln.lo_eq hm1 hm2
    subst e
    refine co_ne ?_
    refine ⟨_, rfl, ?_⟩
    have hlast : ((ns.take (j + 1)).map I)[((ns.take (j + 1)).map I).length - 1]? = some (I ns[j]) := by
      rw [take_last hj2, List.map_append, List.length_append]
      simp
    have hdl : ((ns.take (j + 1)).map I).dropLast = (ns.take j).map I := by
      rw [take_last hj2, List.map_append]
      exact List.dropLast_concat
    refine ⟨fun h => ?_, fun h => ?_⟩
    · have hne2 : ns[j] ≠ Ln.lo ns := by simpa using h
      refine ss_one ?_
      refine s_expr ?_
      refine ee_append 3 rfl ?_
      refine ee_pop 2 rfl hlast ?_
      refine ⟨_, rfl, by first | omega | (simp only [List.length_map, List.length_append, List.length_cons, List.length_nil, List.length_reverse, List.length_dropLast, List.length_take, List.length_drop, List.length_range, List.length_replicate, Sy.rgS_len, Sy.rgD_len, Ln.downs_len, Ln.upto_len]; omega) | decide | assumption, ?_⟩
      rw [hdl]
      have hjne : ns.idxOf (Ln.lo ns) ≠ j := fun z => hne2 (by
        have : ns[ns.idxOf (Ln.lo ns)]'hai = Ln.lo ns := List.getElem_idxOf _
        rw [← this]
        congr 1
        exact z.symm)
      refine ⟨j - 1, by omega, j - 1, rfl, by omega, by omega, ?_⟩
      have e1 : j - 1 + 1 = j := by omega
      rw [e1, drop_rev hj2, List.map_append]
      rfl
    · have he : ns[j] = Ln.lo ns := by simpa using h
      have hj : ns.idxOf (Ln.lo ns) = j := by
        have h1 : ns[ns.idxOf (Ln.lo ns)]'hai = Ln.lo ns := List.getElem_idxOf _
        exact (List.getElem_inj hnd).mp (h1.trans he.symm)
      subst hj
      refine ss_cons ?_
      refine s_expr ?_
      refine ee_pop 2 rfl hlast ?_
      refine ss_frz 3 rfl ?_
      rw [hdl]
      have hol : ((ns.drop (ns.idxOf (Ln.lo ns) + 1)).reverse).length = (Ln.outs ns).length := List.length_reverse
      have hol2 := Ln.outs_len (ns := ns)
      refine ss_cut (fun e => e = [.dat (.tup (ns.map I)), .dat (S_ r.str), .mu p_inside (.lst ((Ln.ins ns).map I)), .dat (.lst ((Ln.outs ns).reverse.map I)), .dat (.lst ((if r = .old then (Ln.outs ns).reverse.reverse else (Ln.outs ns).reverse).map I)), .un]) ?_ ?_
      · refine s_set 4 ?_ nd
        refine ee_if ?_
        refine eb_cmp ?_
        refine ee_var 1 rfl ?_
        refine ee_str ?_
        refine co_eqS rfl ?_
        refine ⟨_, rfl, ?_⟩
        refine ⟨fun h => ?_, fun h => ?_⟩
        · have hr := Ln.rl_old h
          subst hr
          refine ee_new ?_
          refine em_revL ?_
          refine el_dat ?_
          refine ee_var 3 rfl ?_
          refine ⟨_, rfl, ?_⟩
          rw [if_pos rfl, @List.map_reverse _ _ I (Ln.outs ns).reverse]
          rfl
        · have hr := Ln.rl_nold h
          refine ee_var 3 rfl ?_
          rw [if_neg hr]
          rfl
      rintro env' rfl
      refine ss_cut (fun e => e = [.dat (.tup (ns.map I)), .dat (S_ r.str), .mu p_inside (.lst ((Ln.ins ns).map I)), .dat (.lst ((Ln.outs ns).reverse.map I)), .dat (.lst ((Ln.back r (Ln.outs ns)).map I)), .un]) ?_ ?_
      · refine s_if ?_
        refine eb_cmp ?_
        refine ee_var 1 rfl ?_
        refine ee_str ?_
        refine co_eqS rfl ?_
        refine ⟨_, rfl, ?_⟩
        refine ⟨fun h => ?_, fun h => ?_⟩
        · have hr := Ln.rl_srt h
          subst hr
          refine ss_one ?_
          refine s_set 4 ?_ nd
          refine ee_new ?_
          refine em_revL ?_
          refine el_new ?_
          refine em_sortedL T.z_sorted ?_
          refine el_dat ?_
          refine ee_var 3 rfl ?_
          refine ⟨_, rfl, ?_⟩
          refine ⟨_, rfl, by rw [List.length_reverse]; omega, fun l hp hs => ?_⟩
          refine ⟨_, rfl, ?_⟩
          rw [← back_rev, if_pos rfl, ← Ln.srt_eq hp hs, @List.map_reverse _ _ I l]
          rfl
        · have hr := Ln.rl_nsrt h
          refine ss_nil ?_
          rw [← back_rev, if_neg hr]
      rintro env' rfl
      refine ss_cons ?_
      refine s_for ?_
      refine ei_list ?_
      refine ee_var 4 rfl ?_
      refine ⟨_, rfl, ?_⟩
      have hbl := Ln.back_len r (Ln.outs ns)
      have hil : (Ln.ins ns).length ≤ ns.length := by unfold Ln.ins; rw [List.length_take]; omega
      refine ⟨fun i e => ∃ d5 : Desc, e = [.dat (.tup (ns.map I)), .dat (S_ r.str), .mu p_inside (.lst ((Ln.ins ns ++ (Ln.back r (Ln.outs ns)).take i).map I)), .dat (.lst ((Ln.outs ns).reverse.map I)), .dat (.lst ((Ln.back r (Ln.outs ns)).map I)), d5], ⟨_, by rw [List.take_zero, List.append_nil]⟩, fun _ _ _ => trivial, fun i d e hd hI => ?_, fun e hI => ?_⟩
      · obtain ⟨d5, rfl⟩ := hI
        rw [List.getElem?_map] at hd
        cases hb : (Ln.back r (Ln.outs ns))[i]? with
        | none => rw [hb] at hd; cases hd
        | some c =>
        rw [hb] at hd
        have hd := Option.some.inj hd
        subst hd
        have hll : ((Ln.ins ns ++ (Ln.back r (Ln.outs ns)).take i).map I).length ≤ 1000 := by
          rw [List.length_map, List.length_append, List.length_take]
          omega
        refine eg_name 5 ?_ nd
        refine ss_one ?_
        refine s_expr ?_
        refine ee_append 2 rfl ?_
        refine ee_var 5 rfl ?_
        refine ⟨_, rfl, by first | omega | (simp only [List.length_map, List.length_append, List.length_cons, List.length_nil, List.length_reverse, List.length_dropLast, List.length_take, List.length_drop, List.length_range, List.length_replicate, Sy.rgS_len, Sy.rgD_len, Ln.downs_len, Ln.upto_len]; omega) | decide | assumption, ?_⟩
        have e : (Ln.ins ns ++ (Ln.back r (Ln.outs ns)).take i).map I ++ [I c] = (Ln.ins ns ++ (Ln.back r (Ln.outs ns)).take (i + 1)).map I := by
          rw [List.take_add_one, hb, ← List.append_assoc]
          exact (List.map_append (l₁ := Ln.ins ns ++ (Ln.back r (Ln.outs ns)).take i) (l₂ := [c])).symm
        rw [e]
        exact ⟨_, rfl⟩
      · obtain ⟨d5, rfl⟩ := hI
        rw [List.length_map, List.take_length]
        refine ss_one ?_
        refine s_ret ?_
        refine ee_tup ?_
        refine ed_cons ?_
        refine ee_lenL T.z_len ?_
        refine el_dat ?_
        refine ee_var 3 rfl ?_
        refine ⟨_, rfl, ?_⟩
        refine ed_cons ?_
        refine ee_tupleL T.z_tuple ?_
        refine el_slot 2 rfl ?_
        refine ed_nil ?_
        refine ⟨Nat.le_of_ble_eq_true rfl, ?_⟩
        rw [List.length_map, List.length_reverse]
        exact hq

def fRow : FSp := fun ds q => ∃ (ns : List Int) (r : Ln.Rl), ds = [.tup (ns.map I), S_ r.str] ∧ ns.length < 64 ∧ ns.Nodup ∧ q (.d (.tup ((Ln.row r ns).map I)))
abbrev n__law_row : List Str := ["lane", "by", "found", "out"]
theorem sc__law_row : FnScope n__law_row ["lane", "by"] (defScope s__law_row) := ⟨rfl, rfl, rfl, by decide +kernel, rfl, by decide +kernel, by decide +kernel⟩
theorem ok__law_row (T : Top K mg) : FnOk P w K mg base CX0 (k + 2) T.f__law_row T.fd__law_row ["lane", "by"] (spF K fRow) := by
  refine fn_F (N := n__law_row) T.F__law_row sc__law_row (fun ds q h => ?_) (fun cdv A outer s H E hr ds q h => ?_)
  · obtain ⟨ns, r, rfl, _⟩ := h
    rfl
  · obtain ⟨ns, r, rfl, hlen, hnd, hq⟩ := h
    have nd := sc__law_row.nd
    have hu1 := hu_of hr
    have hu64 := hr.units
    refine ss_cons ?_
    refine s_setM 2 ?_ nd
    refine em_lst ?_
    refine ed_nil ?_
    refine ⟨Nat.le_of_ble_eq_true rfl, ?_⟩
    refine ⟨Nat.le_of_ble_eq_true rfl, fun p_found => ?_⟩
    refine ss_cons ?_
    refine s_while (fun m e => ∃ (done : List Int) (cs : List Int) (d3 : Desc), cs.length = m ∧ cs.Nodup ∧ Ln.row r ns = done ++ Ln.row r cs ∧ done.length + cs.length = ns.length ∧ e = [.dat (.tup (cs.map I)), .dat (S_ r.str), .mu p_found (.lst (done.map I)), d3]) ns.length ⟨[], ns, _, rfl, hnd, rfl, by rw [List.length_nil]; omega, rfl⟩ fun m e hI => ?_
    obtain ⟨done, cs, d3, hm, hcn, hd, hl, rfl⟩ := hI
    have hl64 : done.length < 64 ∧ cs.length < 64 := by omega
    refine eb_cmp ?_
    refine ee_var 0 rfl ?_
    refine ee_tup ?_
    refine ed_nil ?_
    refine ⟨Nat.le_of_ble_eq_true rfl, ?_⟩
    refine co_neD hu64 (eqkA_ints _) trivial (dep_intsT _) (by decide) fun b hb => ?_
    have hb := tup_ne hb
    refine ⟨_, rfl, ?_⟩
    refine ⟨fun h => ?_, fun h => ?_⟩
    · have hne := hb.mp h
      refine ss_cons ?_
      refine s_asg ?_
      refine ee_call (ok__law_left T) hr T.g__law_left T.F__law_left.kp T.b__law_left pass0 ?_
      refine ed_cons ?_
      refine ee_var 0 rfl ?_
      refine ed_cons ?_
      refine ee_var 1 rfl ?_
      refine ed_nil ?_
      refine ⟨cs, r, rfl, hne, by omega, hcn, ⟨_, rfl, ?_⟩⟩
      refine eg_tup ?_
      refine egs_cons ?_
      refine eg_name 3 ?_ nd
      refine egs_cons ?_
      refine eg_name 0 ?_ nd
      refine egs_nil ?_
      refine ss_one ?_
      refine s_expr ?_
      refine ee_append 2 rfl ?_
      refine ee_var 3 rfl ?_
      refine ⟨_, rfl, by first | omega | (simp only [List.length_map, List.length_append, List.length_cons, List.length_nil, List.length_reverse, List.length_dropLast, List.length_take, List.length_drop, List.length_range, List.length_replicate, Sy.rgS_len, Sy.rgD_len, Ln.downs_len, Ln.upto_len]; omega) | decide | assumption, ?_⟩
      have e : done.map I ++ [I (Ln.outs cs).length] = (done ++ [((Ln.outs cs).length : Int)]).map I := by
        rw [List.map_append]
        rfl
      rw [e]
      have hl2 := Ln.next_len (r := r) hne
      refine ⟨(Ln.next r cs).length, by omega, _, _, _, rfl, (List.nodup_cons.mp (Ln.next_nodup (r := r) hne hcn)).2, ?_, by rw [List.length_append, List.length_singleton]; omega, rfl⟩
      rw [hd, Ln.row_cons hne, List.append_assoc]
      rfl
    · have he : cs = [] := Classical.byContradiction fun z => by
        rw [hb.mpr z] at h
        cases h
      subst he
      refine ss_one ?_
      refine s_ret ?_
      refine ee_tupleL T.z_tuple ?_
      refine el_slot 2 rfl ?_
      rw [Ln.row_nil, List.append_nil] at hd
      rw [hd] at hq
      exact hq

theorem use_source {ns : List Int} {k : Int} {q : Res → Prop} (hl : ns.length ≤ 63) (h0 : 0 ≤ k) (h1 : k < 64) (hq : ∀ a b c : Int, 0 < c → c < 2 ^ 31 → q (.m (.lst [I a, I b, I c]))) : fSource [.lst (ns.map I), I k] q := ⟨ns, k, rfl, hl, h0, h1, hq⟩
theorem turns_of {n : Nat} {a b : Int} (ha : 0 ≤ a ∧ a ≤ 30) (hb : 0 ≤ b ∧ b ≤ 30) : ∃ t : Nat, t ≤ 30 ∧ (if (if (n : Int) < a then (n : Int) else a) > b then (if (n : Int) < a then (n : Int) else a) else b) = (t : Int) := by
  by_cases h1 : (n : Int) < a
  · rw [if_pos h1]
    by_cases h2 : (n : Int) > b
    · exact ⟨n, by omega, by rw [if_pos h2]⟩
    · exact ⟨b.toNat, by omega, by rw [if_neg h2]; omega⟩
  · rw [if_neg h1]
    by_cases h2 : a > b
    · exact ⟨a.toNat, by omega, by rw [if_pos h2]; omega⟩
    · exact ⟨b.toNat, by omega, by rw [if_neg h2]; omega⟩

def oD : Option Int → D
  | some x => I x
  | none => Nn
def stepD (m o : Int) : D → D
  | .v (.int x) => oD (Ln.stepZ m o x)
  | _ => Nn
theorem stepD_bad {m o : Int} {d : D} (h : intIn d 0 m = false) : stepD m o d = Nn := by
  match d, h with
  | .v (.int x), h =>
    have h : (decide (0 ≤ x) && decide (x ≤ m)) = false := h
    rw [Bool.and_eq_false_iff, decide_eq_false_iff_not, decide_eq_false_iff_not] at h
    show oD (Ln.stepZ m o x) = Nn
    rw [Ln.stepZ_out (by omega)]
    rfl
  | .v (.bl _), _ => rfl
  | .v (.str _), _ => rfl
  | .v .non, _ => rfl
  | .v (.byt _), _ => rfl
  | .v (.flt _), _ => rfl
  | .v (.ref _), _ => rfl
  | .v (.ty _), _ => rfl
  | .tup _, _ => rfl
  | .lst _, _ => rfl
  | .dct _, _ => rfl
  | .dti _, _ => rfl
  | .wt _, _ => rfl
def fStep : FSp := fun ds q => ∃ (m t o : Int) (d : D), ds = [I m, I t, I o, d] ∧ okD d = true ∧ q (.d (stepD (m - t) o d))
abbrev n_step : List Str := ["size", "turn", "outside", "number"]
theorem sc_step : FnScope n_step ["size", "turn", "outside", "number"] (defScope s_step) := ⟨rfl, rfl, rfl, by decide +kernel, rfl, by decide +kernel, by decide +kernel⟩
theorem ok_step (T : Top K mg) : FnOk P w K mg base CX0 (k + 2) T.f_step T.fd_step ["size", "turn", "outside", "number"] (spF K fStep) := by
  refine fn_F (N := n_step) T.F_step sc_step (fun ds q h => ?_) (fun cdv A outer s H E hr ds q h => ?_)
  · obtain ⟨m, t, o, d, rfl, _⟩ := h
    rfl
  · obtain ⟨m, t, o, d, rfl, hok, hq⟩ := h
    have nd := sc_step.nd
    have hu1 := hu_of hr
    have hu64 := hr.units
    refine ss_cons ?_
    refine s_if ?_
    refine eb_not ?_
    refine eb_val ?_
    refine ee_call (ok_is_integer T) hr T.g_is_integer T.F_is_integer.kp T.b_is_integer pass0 ?_
    refine ed_cons ?_
    refine ee_var 3 rfl ?_
    refine ed_cons ?_
    refine ee_int ?_
    refine ed_cons ?_
    refine ee_bin ?_
    refine ee_var 0 rfl ?_
    refine ee_var 1 rfl ?_
    refine bo_sub ?_
    refine ed_nil ?_
    refine ⟨d, 0, _, rfl, hok, ⟨_, rfl, ?_⟩⟩
    refine ⟨_, rfl, ?_⟩
    refine ⟨fun h => ?_, fun h => ?_⟩
    · refine ss_one ?_
      refine s_ret ?_
      refine ee_non ?_
      have h : intIn d 0 (m - t) = false := by simpa using h
      rw [stepD_bad h] at hq
      exact hq
    · have h : intIn d 0 (m - t) = true := by simpa using h
      obtain ⟨x, rfl, h1, h2⟩ := intIn_true h
      have hq : q (.d (oD (Ln.stepZ (m - t) o x))) := hq
      refine ss_nil ?_
      refine ss_cons ?_
      refine s_if ?_
      refine eb_w ?_
      refine ew_and ?_
      refine eb_cmp ?_
      refine ee_var 2 rfl ?_
      refine ee_int ?_
      refine co_gt ?_
      refine ⟨_, rfl, ?_⟩
      have new : ∀ (hz : 0 < o → x ≠ 0), (∃ b : Bool, b = decide (x ≥ o) ∧ (b = true → q (.d (I x))) ∧ (b = false → q (.d Nn))) := fun hz => by
        refine ⟨_, rfl, fun h => ?_, fun h => ?_⟩
        · have h := of_decide_eq_true h
          rw [Ln.stepZ_new h1 h2 h hz] at hq
          exact hq
        · have h := of_decide_eq_false h
          have e : Ln.stepZ (m - t) o x = none := by
            by_cases h0 : 0 < x
            · exact Ln.stepZ_low h0 (by omega)
            · exact absurd (by omega : x = 0) (hz (by omega))
          rw [e] at hq
          exact hq
      refine ⟨fun h3 => ?_, fun h3 => ?_⟩
      · have h3 := of_decide_eq_true h3
        refine ew_and1 ?_
        refine eb_cmp ?_
        refine ee_var 3 rfl ?_
        refine ee_int ?_
        refine co_eq ?_
        refine ⟨_, rfl, ?_⟩
        refine ⟨fun h4 => ?_, fun h4 => ?_⟩
        · have h4 := of_decide_eq_true h4
          subst h4
          refine ss_one ?_
          refine s_ret ?_
          refine ee_bin ?_
          refine ee_var 2 rfl ?_
          refine ee_int ?_
          refine bo_sub ?_
          rw [Ln.stepZ_zero h2 h3] at hq
          exact hq
        · have h4 := of_decide_eq_false h4
          refine ss_nil ?_
          refine ss_one ?_
          refine s_ret ?_
          refine ee_if ?_
          refine eb_cmp ?_
          refine ee_var 3 rfl ?_
          refine ee_var 2 rfl ?_
          refine co_ge ?_
          refine ⟨_, rfl, ?_⟩
          obtain ⟨b, e, y, n⟩ := new fun _ => h4
          refine ⟨fun h5 => ?_, fun h5 => ?_⟩
          · refine ee_var 3 rfl ?_
            exact y (by rw [e]; exact h5)
          · refine ee_non ?_
            exact n (by rw [e]; exact h5)
      · have h3 := of_decide_eq_false h3
        refine ⟨fun h => (nomatch h), fun _ => ?_⟩
        refine ss_nil ?_
        refine ss_one ?_
        refine s_ret ?_
        refine ee_if ?_
        refine eb_cmp ?_
        refine ee_var 3 rfl ?_
        refine ee_var 2 rfl ?_
        refine co_ge ?_
        refine ⟨_, rfl, ?_⟩
        obtain ⟨b, e, y, n⟩ := new fun z => absurd z h3
        refine ⟨fun h5 => ?_, fun h5 => ?_⟩
        · refine ee_var 3 rfl ?_
          exact y (by rw [e]; exact h5)
        · refine ee_non ?_
          exact n (by rw [e]; exact h5)

def prD (p : Int × Int) : D := .tup [I p.1, I p.2]

def outD (o : List Int) : D := .tup (o.map I)

def fxK (q : Int × Int) : Key × D := (.inl q.1, I q.2)
def frD (q : Int × List Int) : D := .tup [I q.1, .lst (q.2.map I)]
theorem fx_put {fx : List (Int × Int)} {i : Nat} {v : Int} (hk : ∀ q, q ∈ fx → q.1 ≤ i) : putD (fx.map fxK) (.inl ((i : Int) + 1)) (I v) = (fx ++ [((i : Int) + 1, v)]).map fxK := by
  rw [putD_new, List.map_append]
  · rfl
  · intro p hp
    rw [List.mem_map] at hp
    obtain ⟨q, hq, rfl⟩ := hp
    intro z
    have z := Sum.inl.inj z
    have := hk q hq
    omega
theorem rgD_between {a b : Int} : rgD (a + 1) b = (Ln.between a b).map I := by
  unfold rgD Ln.between
  rw [List.map_map, show b - (a + 1) = b - a - 1 from by omega]
  rfl
def placesD (R : List Int) : D := .tup [.dct ((Ln.fixedR R).map fxK), .lst ((Ln.freeR R).map frD)]
def fPlaces : FSp := fun ds q => ∃ ns : List Int, ds = [.tup (ns.map I)] ∧ 1 ≤ ns.length ∧ ns.length ≤ 30 ∧ Ln.good 0 ns = true ∧ q (.d (placesD ns))
abbrev n_places_of : List Str := ["row", "size", "fixed", "free", "outside", "places", "least", "turn", "number", "car", "place"]
theorem sc_places_of : FnScope n_places_of ["row"] (defScope s_places_of) := ⟨rfl, rfl, rfl, by decide +kernel, rfl, by decide +kernel, by decide +kernel⟩
theorem ok_places_of (T : Top K mg) : FnOk P w K mg base CX0 (k + 1) T.f_places_of T.fd_places_of ["row"] (spF K fPlaces) := by
  refine fn_F (N := n_places_of) T.F_places_of sc_places_of (fun ds q h => ?_) (fun cdv A outer s H E hr ds q h => ?_)
  · obtain ⟨ns, rfl, _⟩ := h
    rfl
  · obtain ⟨ns, rfl, h1, h2, hg, hq⟩ := h
    have hml : ((ns.map I).length : Int) = (ns.length : Int) := by rw [List.length_map]
    have nd := sc_places_of.nd
    have hu1 := hu_of hr
    have hu64 := hr.units
    refine ss_cons ?_
    first | refine s_par3 1 2 3 ?_ nd | refine s_parC3 1 2 3 ?_ nd
    refine eu_d ?_
    refine ee_lenT T.z_len ?_
    refine ee_var 0 rfl ?_
    refine ⟨_, rfl, ?_⟩
    refine eu_m ?_
    refine em_dnew ?_
    refine eu_m ?_
    refine em_lst ?_
    refine ed_nil ?_
    refine ⟨Nat.le_of_ble_eq_true rfl, ?_⟩
    refine eu_nil ?_
    refine ⟨Nat.le_of_ble_eq_true rfl, fun p_fixed => ?_⟩
    refine ⟨Nat.le_of_ble_eq_true rfl, fun p_free => ?_⟩
    refine ss_cons ?_
    first | refine s_par3 4 5 6 ?_ nd | refine s_parC3 4 5 6 ?_ nd
    refine eu_d ?_
    refine ee_int ?_
    refine eu_m ?_
    refine em_lst ?_
    refine ed_nil ?_
    refine ⟨Nat.le_of_ble_eq_true rfl, ?_⟩
    refine eu_d ?_
    refine ee_bin ?_
    refine ee_lenT T.z_len ?_
    refine ee_var 0 rfl ?_
    refine ⟨_, rfl, ?_⟩
    refine ee_int ?_
    refine bo_add ?_
    refine eu_nil ?_
    refine ⟨Nat.le_of_ble_eq_true rfl, fun p_places => ?_⟩
    refine ss_cons ?_
    refine s_for ?_
    refine ei_enumT T.z_enumerate ?_
    refine ee_var 0 rfl ?_
    refine ⟨_, rfl, ?_⟩
    rw [hml]
    refine ⟨fun i e => ∃ (fx : List (Int × Int)) (fr : List (Int × List Int)) (o l : Int) (P : List Int) (pp : Addr) (d7 d8 d9 d10 : Desc), Ln.Wk o P l ns.length (ns.length - i) ∧ Ln.good o (ns.drop i) = true ∧ Ln.fixedR ns = fx ++ (Ln.wk ns.length ((i : Int) + 1) o P l (ns.drop i)).1 ∧ Ln.freeR ns = fr ++ (Ln.wk ns.length ((i : Int) + 1) o P l (ns.drop i)).2 ∧ (∀ q, q ∈ fx → q.1 ≤ i) ∧ fx.length ≤ i ∧ fr.length ≤ i ∧ e = [.dat (.tup (ns.map I)), .dat (I ns.length), .mu p_fixed (.dK (fx.map fxK)), .mu p_free (.lst (fr.map frD)), .dat (I o), .mu pp (.lst (P.map I)), .dat (I l), d7, d8, d9, d10], ⟨[], [], 0, _, [], _, _, _, _, _, Ln.Wk.init _, hg, rfl, rfl, (fun q hq => nomatch hq), Nat.le_refl _, Nat.le_refl _, rfl⟩, fun _ _ _ => trivial, fun i d e hd hI => ?_, fun e hI => ?_⟩
    · obtain ⟨fx, fr, o, l, P, pp, d7, d8, d9, d10, hw, hgi, hfx, hfr, hk, hl1, hl2, rfl⟩ := hI
      obtain ⟨hi, rfl⟩ := enumD_ints hd
      have hdr : ns.drop i = ns[i] :: ns.drop (i + 1) := List.drop_eq_getElem_cons hi
      have hdl : (ns.drop (i + 1)).length = ns.length - (i + 1) := List.length_drop
      have hm : ns.length - i = ns.length - (i + 1) + 1 := by omega
      rw [hdr] at hgi hfx hfr
      rw [hm] at hw
      have hPl : P.length ≤ 31 := by have := hw.pl; have := hw.l1; omega
      generalize ns[i] = x at hdr hgi hfx hfr ⊢
      have ho := hw.o0
      refine eg_wt ?_
      refine egs_cons ?_
      refine eg_name 7 ?_ nd
      refine egs_cons ?_
      refine eg_name 8 ?_ nd
      refine egs_nil ?_
      refine ss_cons ?_
      refine s_set 9 ?_ nd
      refine ee_bin ?_
      refine ee_var 7 rfl ?_
      refine ee_int ?_
      refine bo_add ?_
      refine ss_one ?_
      refine s_if ?_
      refine eb_w ?_
      refine ew_and ?_
      refine eb_cmp ?_
      refine ee_var 4 rfl ?_
      refine ee_int ?_
      refine co_gt ?_
      refine ⟨_, rfl, ?_⟩
      refine ⟨fun h => ?_, fun h => ?_⟩
      · refine ew_and1 ?_
        refine eb_cmp ?_
        refine ee_var 8 rfl ?_
        refine ee_int ?_
        refine co_eq ?_
        refine ⟨_, rfl, ?_⟩
        have h := of_decide_eq_true h
        refine ⟨fun h4 => ?_, fun h4 => ?_⟩
        · have h4 := of_decide_eq_true h4
          rcases Ln.good_two ho hgi with ⟨_, _, hgn⟩ | ⟨h9, _⟩
          · rw [Ln.wk_free ⟨h, h4⟩] at hfx hfr
            refine ss_cons ?_
            refine s_expr ?_
            refine ee_append 3 rfl ?_
            refine ee_tup ?_
            refine ed_cons ?_
            refine ee_var 9 rfl ?_
            refine ed_cons ?_
            refine ee_new ?_
            refine em_sortedL T.z_sorted ?_
            refine el_slot 5 rfl ?_
            refine ⟨P, rfl, by omega, fun ns' hp hs => ?_⟩
            have e := Ln.srt_eq hp hs
            subst e
            refine ed_nil ?_
            refine ⟨Nat.le_of_ble_eq_true rfl, ?_⟩
            refine ⟨_, rfl, by first | omega | (simp only [List.length_map, List.length_append, List.length_cons, List.length_nil, List.length_reverse, List.length_dropLast, List.length_take, List.length_drop, List.length_range, List.length_replicate, Sy.rgS_len, Sy.rgD_len, Ln.downs_len, Ln.upto_len]; omega) | decide | assumption, ?_⟩
            refine ss_one ?_
            refine s_set 4 ?_ nd
            refine ee_bin ?_
            refine ee_var 4 rfl ?_
            refine ee_int ?_
            refine bo_sub ?_
            have e : fr.map frD ++ [.tup [I ((i : Int) + 1), (MO.lst ((Ln.srt P).map I)).frz]] = (fr ++ [((i : Int) + 1, Ln.srt P)]).map frD := by rw [List.map_append]; rfl
            rw [e]
            exact ⟨fx, fr ++ [((i : Int) + 1, Ln.srt P)], o - 1, l, P, pp, _, _, _, _, hw.free h, hgn, hfx, by rw [hfr, List.append_assoc]; rfl, fun q hq => by have := hk q hq; omega, by omega, by rw [List.length_append]; exact Nat.succ_le_succ hl2, rfl⟩
          · exact absurd ⟨h, h4⟩ h9
        · have h4 := of_decide_eq_false h4
          have hnf : ¬ (0 < o ∧ x = 0) := fun z => h4 z.2
          obtain ⟨hx1, hx2, hgn⟩ := (Ln.good_two ho hgi).resolve_left (fun z => h4 z.2.1) |>.2
          rw [hdl] at hx2
          have hlo := hw.lo
          have hln := hw.ln
          refine ss_cons ?_
          refine s_if ?_
          refine eb_cmp ?_
          refine ee_var 4 rfl ?_
          refine ee_int ?_
          refine co_eq ?_
          refine ⟨_, rfl, ?_⟩
          refine ⟨fun h => absurd (of_decide_eq_true h) (by omega), fun _ => ?_⟩
          refine ss_nil ?_
          refine ss_cons ?_
          refine s_set 10 ?_ nd
          refine ee_bin ?_
          refine ee_bin ?_
          refine ee_bin ?_
          refine ee_var 1 rfl ?_
          refine ee_var 9 rfl ?_
          refine bo_sub ?_
          refine ee_int ?_
          refine bo_add ?_
          refine ee_var 8 rfl ?_
          refine bo_sub ?_
          refine ss_cons ?_
          refine s_dput 2 hu1 rfl ?_
          refine ee_var 10 rfl ?_
          refine ⟨_, rfl, ?_⟩
          refine ee_var 9 rfl ?_
          refine ⟨_, .inl ((i : Int) + 1), rfl, rfl, by rw [List.length_map]; omega, ?_⟩
          rw [fx_put hk]
          refine ss_cons ?_
          refine s_setM 5 ?_ nd
          refine em_catX 5 rfl ?_
          refine ee_new ?_
          refine em_listRg2 T.z_list T.z_range ?_
          refine ee_bin ?_
          refine ee_var 10 rfl ?_
          refine ee_int ?_
          refine bo_add ?_
          refine ee_var 6 rfl ?_
          refine ⟨_, _, rfl, rfl, by first | exact ⟨by omega, by omega, by omega, by omega, by omega⟩ | (simp only [List.length_map, List.length_append, List.length_cons, List.length_nil, List.length_reverse, List.length_dropLast, List.length_take, List.length_drop, List.length_range, List.length_replicate, Sy.rgS_len, Sy.rgD_len, Ln.downs_len, Ln.upto_len]; exact ⟨by omega, by omega, by omega, by omega, by omega⟩) | assumption, ?_⟩
          rw [rgD_between]
          have hbl := Ln.between_len (a := (ns.length : Int) - ((i : Int) + 1) + 1 - x) (b := l) (by omega)
          refine ⟨_, _, rfl, rfl, by rw [List.length_map, List.length_map]; omega, ?_⟩
          refine ⟨Nat.le_of_ble_eq_true rfl, fun p_places => ?_⟩
          refine ss_one ?_
          first | refine s_par 6 4 ?_ nd | refine s_parC 6 4 ?_ nd
          refine eu_d ?_
          refine ee_var 10 rfl ?_
          refine eu_d ?_
          refine ee_var 8 rfl ?_
          refine eu_nil ?_
          have ep : ((ns.length - (i + 1) : Nat) : Int) + 1 - x = (ns.length : Int) - ((i : Int) + 1) + 1 - x := by omega
          have hw' := hw.recd hx1 hx2
          rw [ep] at hw'
          rw [Ln.wk_rec hnf] at hfx hfr
          have e : P.map I ++ (Ln.between ((ns.length : Int) - ((i : Int) + 1) + 1 - x) l).map I = (P ++ Ln.between ((ns.length : Int) - ((i : Int) + 1) + 1 - x) l).map I := (List.map_append ..).symm
          rw [e]
          rw [if_neg (show ¬ o = 0 by omega)] at hw' hfx hfr
          exact ⟨fx ++ [((i : Int) + 1, (ns.length : Int) - ((i : Int) + 1) + 1 - x)], fr, x, _, _, _, _, _, _, _, hw', hgn, by rw [hfx, List.append_assoc]; rfl, hfr, fun q hq => by
            rcases List.mem_append.mp hq with h | h
            · have := hk q h
              omega
            · rw [List.mem_singleton.mp h]
              show (i : Int) + 1 ≤ _
              omega, by rw [List.length_append]; exact Nat.succ_le_succ hl1, by omega, rfl⟩
      · have h := of_decide_eq_false h
        have h0 : o = 0 := by omega
        have hnf : ¬ (0 < o ∧ x = 0) := fun z => h z.1
        obtain ⟨hx1, hx2, hgn⟩ := (Ln.good_two ho hgi).resolve_left (fun z => h z.1) |>.2
        rw [hdl] at hx2
        have hlo := hw.lo
        have hln := hw.ln
        refine ⟨fun h => (nomatch h), fun _ => ?_⟩
        refine ss_cons ?_
        refine s_if ?_
        refine eb_cmp ?_
        refine ee_var 4 rfl ?_
        refine ee_int ?_
        refine co_eq ?_
        refine ⟨_, rfl, ?_⟩
        refine ⟨fun _ => ?_, fun h => absurd h0 (of_decide_eq_false h)⟩
        refine ss_one ?_
        refine s_setM 5 ?_ nd
        refine em_lst ?_
        refine ed_nil ?_
        refine ⟨Nat.le_of_ble_eq_true rfl, ?_⟩
        refine ⟨Nat.le_of_ble_eq_true rfl, fun p_places => ?_⟩
        refine ss_cons ?_
        refine s_set 10 ?_ nd
        refine ee_bin ?_
        refine ee_bin ?_
        refine ee_bin ?_
        refine ee_var 1 rfl ?_
        refine ee_var 9 rfl ?_
        refine bo_sub ?_
        refine ee_int ?_
        refine bo_add ?_
        refine ee_var 8 rfl ?_
        refine bo_sub ?_
        refine ss_cons ?_
        refine s_dput 2 hu1 rfl ?_
        refine ee_var 10 rfl ?_
        refine ⟨_, rfl, ?_⟩
        refine ee_var 9 rfl ?_
        refine ⟨_, .inl ((i : Int) + 1), rfl, rfl, by rw [List.length_map]; omega, ?_⟩
        rw [fx_put hk]
        refine ss_cons ?_
        refine s_setM 5 ?_ nd
        refine em_catX 5 rfl ?_
        refine ee_new ?_
        refine em_listRg2 T.z_list T.z_range ?_
        refine ee_bin ?_
        refine ee_var 10 rfl ?_
        refine ee_int ?_
        refine bo_add ?_
        refine ee_var 6 rfl ?_
        refine ⟨_, _, rfl, rfl, by first | exact ⟨by omega, by omega, by omega, by omega, by omega⟩ | (simp only [List.length_map, List.length_append, List.length_cons, List.length_nil, List.length_reverse, List.length_dropLast, List.length_take, List.length_drop, List.length_range, List.length_replicate, Sy.rgS_len, Sy.rgD_len, Ln.downs_len, Ln.upto_len]; exact ⟨by omega, by omega, by omega, by omega, by omega⟩) | assumption, ?_⟩
        rw [rgD_between]
        have hbl := Ln.between_len (a := (ns.length : Int) - ((i : Int) + 1) + 1 - x) (b := l) (by omega)
        refine ⟨_, _, rfl, rfl, by rw [List.length_nil, List.length_map]; omega, ?_⟩
        refine ⟨Nat.le_of_ble_eq_true rfl, fun p_places => ?_⟩
        refine ss_one ?_
        first | refine s_par 6 4 ?_ nd | refine s_parC 6 4 ?_ nd
        refine eu_d ?_
        refine ee_var 10 rfl ?_
        refine eu_d ?_
        refine ee_var 8 rfl ?_
        refine eu_nil ?_
        have ep : ((ns.length - (i + 1) : Nat) : Int) + 1 - x = (ns.length : Int) - ((i : Int) + 1) + 1 - x := by omega
        have hw' := hw.recd hx1 hx2
        rw [ep] at hw'
        rw [Ln.wk_rec hnf] at hfx hfr
        have e : ([] : List D) ++ (Ln.between ((ns.length : Int) - ((i : Int) + 1) + 1 - x) l).map I = ([] ++ Ln.between ((ns.length : Int) - ((i : Int) + 1) + 1 - x) l).map I := rfl
        rw [e]
        rw [if_pos h0] at hw' hfx hfr
        exact ⟨fx ++ [((i : Int) + 1, (ns.length : Int) - ((i : Int) + 1) + 1 - x)], fr, x, _, _, _, _, _, _, _, hw', hgn, by rw [hfx, List.append_assoc]; rfl, hfr, fun q hq => by
          rcases List.mem_append.mp hq with h | h
          · have := hk q h
            omega
          · rw [List.mem_singleton.mp h]
            show (i : Int) + 1 ≤ _
            omega, by rw [List.length_append]; exact Nat.succ_le_succ hl1, by omega, rfl⟩
    · obtain ⟨fx, fr, o, l, P, pp, d7, d8, d9, d10, hw, hgi, hfx, hfr, hk, hl1, hl2, rfl⟩ := hI
      rw [enumD_len, List.length_map, List.drop_length] at hfx hfr
      refine ss_frz 2 rfl ?_
      refine ss_frz 3 rfl ?_
      refine ss_one ?_
      refine s_ret ?_
      refine ee_tup ?_
      refine ed_cons ?_
      refine ee_var 2 rfl ?_
      refine ed_cons ?_
      refine ee_var 3 rfl ?_
      refine ed_nil ?_
      refine ⟨Nat.le_of_ble_eq_true rfl, ?_⟩
      have hfx : Ln.fixedR ns = fx ++ [] := hfx
      have hfr : Ln.freeR ns = fr ++ [] := hfr
      rw [List.append_nil] at hfx hfr
      unfold placesD at hq
      rw [hfx, hfr] at hq
      exact hq

theorem valD_map {α : Type} (f : α → D) : ∀ {ps : List (Int × α)} {c : Int}, valD (ps.map fun q => ((.inl q.1 : Key), f q.2)) (.inl c) = (ps.find? fun q => decide (q.1 = c)).map fun q => f q.2
  | [], _ => rfl
  | p :: ps, c => by
    have ih := valD_map f (ps := ps) (c := c)
    unfold valD at ih ⊢
    by_cases h : p.1 = c
    · subst h
      rw [List.map_cons, List.find?_cons_of_pos (by simp), List.find?_cons_of_pos (by simp)]
      rfl
    · rw [List.map_cons, List.find?_cons_of_neg (by simpa using h), List.find?_cons_of_neg (by simpa using h)]
      exact ih

def fCountW : FSp := fun ds q => ∃ (fr : List (Int × List Int)) (ch : List (Int × Int)), ds = [.lst (fr.map frD), .dct (ch.map fxK)] ∧ fr.length ≤ 30 ∧ (∀ p, p ∈ fr → p.2.length ≤ 31) ∧ q (.d (I (Ln.countW fr ch)))
theorem lst_ne {ns : List Int} {x : Bool} (h : x = true ↔ D.lst (ns.map I) ≠ D.lst []) : x = true ↔ ns ≠ [] := by
  rw [h]
  constructor
  · intro h e
    exact h (by rw [e]; rfl)
  · intro h e
    exact h (List.map_eq_nil_iff.mp (D.lst.inj e))
abbrev n_count_with : List Str := ["free", "chosen", "found", "done", "before", "car", "places", "later", "other", "spots"]
theorem sc_count_with : FnScope n_count_with ["free", "chosen"] (defScope s_count_with) := ⟨rfl, rfl, rfl, by decide +kernel, rfl, by decide +kernel, by decide +kernel⟩
theorem ok_count_with (T : Top K mg) : FnOk P w K mg base CX0 (k + 1) T.f_count_with T.fd_count_with ["free", "chosen"] (spF K fCountW) := by
  refine fn_F (N := n_count_with) T.F_count_with sc_count_with (fun ds q h => ?_) (fun cdv A outer s H E hr ds q h => ?_)
  · obtain ⟨fr, ch, rfl, _⟩ := h
    rfl
  · obtain ⟨fr, ch, rfl, h1, h2, hq⟩ := h
    have hch : ∀ c, valD (ch.map fxK) (.inl c) = (Ln.chF ch c).map I := fun c => by
      have := valD_map I (ps := ch) (c := c)
      unfold Ln.chF
      rw [Option.map_map]
      exact this
    have nd := sc_count_with.nd
    have hu1 := hu_of hr
    have hu64 := hr.units
    refine ss_cons ?_
    first | refine s_par3 2 3 4 ?_ nd | refine s_parC3 2 3 4 ?_ nd
    refine eu_d ?_
    refine ee_int ?_
    refine eu_d ?_
    refine ee_int ?_
    refine eu_d ?_
    refine ee_new ?_
    refine em_lst ?_
    refine ed_nil ?_
    refine ⟨Nat.le_of_ble_eq_true rfl, ?_⟩
    refine eu_nil ?_
    refine ss_cons ?_
    refine s_for ?_
    refine ei_list ?_
    refine ee_var 0 rfl ?_
    refine ⟨_, rfl, ?_⟩
    refine ⟨fun i e => ∃ (f d : Int) (b : List Int) (d5 d6 d7 : Desc) (o8 o9 : Option D), Ln.countW fr ch = Ln.cwGo fr ch f d b (fr.drop i) ∧ 0 ≤ d ∧ e = [.dat (.lst (fr.map frD)), .dat (.dct (ch.map fxK)), .dat (I f), .dat (I d), .dat (.lst (b.map I)), d5, d6, d7, sl o8, sl o9], ⟨1, 0, [], _, _, _, none, none, rfl, Int.le_refl 0, rfl⟩, fun _ _ _ => trivial, fun i d e hd hI => ?_, fun e hI => ?_⟩
    · obtain ⟨f, d, b, d5, d6, d7, o8, o9, hg, h0, rfl⟩ := hI
      rw [List.getElem?_map] at hd
      cases hp : fr[i]? with
      | none => rw [hp] at hd; cases hd
      | some p =>
      rw [hp] at hd
      have hd := Option.some.inj hd
      subst hd
      obtain ⟨hi, hpe⟩ := List.getElem?_eq_some_iff.mp hp
      have hS := h2 p (List.mem_of_getElem? hp)
      have hdr : fr.drop i = p :: fr.drop (i + 1) := by rw [List.drop_eq_getElem_cons hi, hpe]
      rw [hdr] at hg
      obtain ⟨c, S⟩ := p
      have hS : S.length ≤ 31 := hS
      have hg : Ln.countW fr ch = Ln.cwGo fr ch (f * Ln.fac fr ch (Ln.dn d b S) c S) (Ln.dn d b S + 1) S (fr.drop (i + 1)) := hg
      refine eg_tup ?_
      refine egs_cons ?_
      refine eg_name 5 ?_ nd
      refine egs_cons ?_
      refine eg_name 6 ?_ nd
      refine egs_nil ?_
      refine ss_cut (fun e => ∃ b' : List Int, e = [.dat (.lst (fr.map frD)), .dat (.dct (ch.map fxK)), .dat (I f), .dat (I (Ln.dn d b S)), .dat (.lst (b'.map I)), .dat (I c), .dat (.lst (S.map I)), d7, sl o8, sl o9]) ?_ ?_
      · refine s_if ?_
        refine eb_w ?_
        refine ew_and ?_
        refine eb_cmp ?_
        refine ee_var 4 rfl ?_
        refine ee_new ?_
        refine em_lst ?_
        refine ed_nil ?_
        refine ⟨Nat.le_of_ble_eq_true rfl, ?_⟩
        refine co_neD hu64 (eqkA_ints _) trivial (dep_ints _) (by decide) fun x hx => ?_
        have hx := lst_ne hx
        refine ⟨_, rfl, ?_⟩
        refine ⟨fun h => ?_, fun h => ?_⟩
        · have hne := hx.mp h
          obtain ⟨b0, y, rfl⟩ : ∃ b0 y, b = b0 ++ [y] := ⟨b.dropLast, b.getLast hne, (List.dropLast_concat_getLast hne).symm⟩
          have hdn : Ln.dn d (b0 ++ [y]) S = if y ∈ S then d else 0 := by
            unfold Ln.dn
            rw [List.getLast?_append, List.getLast?_singleton]
            rfl
          refine ew_and1 ?_
          refine eb_cmp ?_
          refine ee_ix ?_
          refine ee_var 4 rfl ?_
          refine ee_neg (i := 0) ?_
          refine ee_int ?_
          refine ⟨_, rfl, ?_⟩
          refine ⟨_, _, _, .inr rfl, rfl, by rw [List.map_append]; exact atI_last _ _, ?_⟩
          refine ee_var 6 rfl ?_
          refine co_niL ?_
          refine ⟨_, rfl, ?_⟩
          refine ⟨fun h2 => ?_, fun h2 => ?_⟩
          · have h2 : y ∉ S := by simpa using h2
            rw [hdn, if_neg h2]
            refine ss_one ?_
            first | refine s_par 3 4 ?_ nd | refine s_parC 3 4 ?_ nd
            refine eu_d ?_
            refine ee_int ?_
            refine eu_d ?_
            refine ee_new ?_
            refine em_lst ?_
            refine ed_nil ?_
            refine ⟨Nat.le_of_ble_eq_true rfl, ?_⟩
            refine eu_nil ?_
            exact ⟨[], rfl⟩
          · have h2 : y ∈ S := by simpa using h2
            rw [hdn, if_pos h2]
            refine ss_nil ?_
            exact ⟨_, rfl⟩
        · have hb : b = [] := Classical.byContradiction fun z => by
            rw [hx.mpr z] at h
            cases h
          subst hb
          refine ⟨fun h => (nomatch h), fun _ => ?_⟩
          refine ss_nil ?_
          exact ⟨[], rfl⟩
      rintro env' ⟨b', rfl⟩
      refine ss_cons ?_
      refine s_if ?_
      refine eb_cmp ?_
      refine ee_var 5 rfl ?_
      refine ee_var 1 rfl ?_
      refine co_inKI hu1 ?_
      refine ⟨_, rfl, ?_⟩
      have hd0 : 0 ≤ Ln.dn d b S := by
        unfold Ln.dn
        split
        · split
          · exact h0
          · exact Int.le_refl 0
        · exact h0
      generalize Ln.dn d b S = d0 at hg hd0 ⊢
      refine ⟨fun h => ?_, fun h => ?_⟩
      · obtain ⟨v, hv⟩ := Option.isSome_iff_exists.mp h
        rw [hch c] at hv
        obtain ⟨p, hp, rfl⟩ := Option.map_eq_some_iff.mp hv
        have hfac : Ln.fac fr ch d0 c S = if p ∈ S then 1 else 0 := by
          unfold Ln.fac
          rw [hp]
        have e : (if decide (p ∈ S) = true then (1 : Int) else 0) = if p ∈ S then 1 else 0 := by by_cases z : p ∈ S <;> simp [z]
        rw [hfac, ← e] at hg
        refine ss_one ?_
        refine s_set 2 ?_ nd
        refine ee_bin ?_
        refine ee_var 2 rfl ?_
        refine ee_intB T.z_int ?_
        refine ee_cmp ?_
        refine ee_dget hu1 ?_
        refine ee_var 1 rfl ?_
        refine ee_var 5 rfl ?_
        refine ⟨_, .inl c, _, rfl, rfl, (hch c).trans (by rw [hp]; rfl), ?_⟩
        refine ee_var 6 rfl ?_
        refine co_inL ?_
        refine ⟨_, rfl, ?_⟩
        refine bo_mul (by first | exact .inr ⟨by omega, by omega⟩ | exact .inl ⟨by omega, by omega⟩) ?_
        refine ss_one ?_
        first | refine s_par 3 4 ?_ nd | refine s_parC 3 4 ?_ nd
        refine eu_d ?_
        refine ee_bin ?_
        refine ee_var 3 rfl ?_
        refine ee_int ?_
        refine bo_add ?_
        refine eu_d ?_
        refine ee_var 6 rfl ?_
        refine eu_nil ?_
        exact ⟨_, _, S, _, _, _, _, _, hg, by omega, rfl⟩
      · have hp : Ln.chF ch c = none := by
          rw [hch c] at h
          cases e : Ln.chF ch c with
          | none => rfl
          | some p => rw [e] at h; cases h
        have hfac : Ln.fac fr ch d0 c S = if (S.length : Int) - d0 - Ln.laterN fr ch c S > 0 then (S.length : Int) - d0 - Ln.laterN fr ch c S else 0 := by
          unfold Ln.fac
          rw [hp]
        rw [hfac] at hg
        have hnl : Ln.laterN fr ch c S ≤ 30 := Nat.le_trans (List.length_filter_le ..) h1
        refine ss_cons ?_
        first | refine s_setLc 7 (own := [("other", 8), ("spots", 9)]) (blkOk_by (show blkC n_count_with (defScope s_count_with) _ _ = true by decide +kernel)) nd ?_ | (refine s_setM 7 ?_ nd; refine em_ofLc (own := [("other", 8), ("spots", 9)]) (blkOk_by (show blkC n_count_with (defScope s_count_with) _ _ = true by decide +kernel)) nd ?_)
        refine elcA ?_
        refine ei_list ?_
        refine ee_var 0 rfl ?_
        refine ⟨_, rfl, ?_⟩
        refine ⟨noMu_of (by cases o8 <;> cases o9 <;> rfl), trivial, _, fr, frD, Sy.pick (fun q : Int × List Int => decide (q.1 > c) && match Ln.chF ch q.1 with
          | some p => decide (p ∈ S)
          | none => false) (fun _ => I 1), rfl, by omega, fun q hqm => ?_, ?_⟩
        · refine egb_two 8 9 (by decide) (by decide) (by intro _ _ h; cases h) (by intro _ _ h; cases h) (by decide) ?_ (.inl rfl) fun _ _ _ _ _ => pg_tup rfl (pgs_cons (pg_name (i := 8) nd rfl (by first | exact .inl rfl | exact .inr rfl)) (pgs_cons (pg_name (i := 9) nd rfl (by first | exact .inl rfl | exact .inr rfl)) pgs_nil))
          refine ebb_one fun s0 H0 C cl fp => ?_
          refine eb_w ?_
          refine ew_and ?_
          refine eb_cmp ?_
          refine ee_var 8 rfl ?_
          refine ee_var 5 rfl ?_
          refine co_gt ?_
          refine ⟨_, rfl, ?_⟩
          refine ⟨fun h5 => ?_, fun h5 => ?_⟩
          · refine ew_and ?_
            refine eb_cmp ?_
            refine ee_var 8 rfl ?_
            refine ee_var 1 rfl ?_
            refine co_inKI hu1 ?_
            refine ⟨_, rfl, ?_⟩
            refine ⟨fun h6 => ?_, fun h6 => ?_⟩
            · obtain ⟨v, hv⟩ := Option.isSome_iff_exists.mp h6
              rw [hch q.1] at hv
              obtain ⟨p, hp2, rfl⟩ := Option.map_eq_some_iff.mp hv
              refine ew_and1 ?_
              refine eb_cmp ?_
              refine ee_dget hu1 ?_
              refine ee_var 1 rfl ?_
              refine ee_var 8 rfl ?_
              refine ⟨_, .inl q.1, _, rfl, rfl, (hch q.1).trans (by rw [hp2]; rfl), ?_⟩
              refine ee_var 6 rfl ?_
              refine co_inL ?_
              refine ⟨_, rfl, ?_⟩
              refine ⟨fun h7 => ?_, fun h7 => ?_⟩
              · refine eeb fun s0 H0 C cl fp => ?_
                refine ee_int ?_
                exact ⟨pick_t (by rw [h5, hp2]; exact h7), noMu_of rfl, rfl⟩
              · exact ⟨pick_f (by rw [h5, hp2]; exact h7), noMu_of rfl, rfl⟩
            · have hp2 : Ln.chF ch q.1 = none := by
                rw [hch q.1] at h6
                cases e : Ln.chF ch q.1 with
                | none => rfl
                | some p => rw [e] at h6; cases h6
              refine ⟨fun h2 => (nomatch h2), fun h2 => ⟨pick_f (by rw [h5, hp2]; rfl), noMu_of rfl, rfl⟩⟩
          · skip
            refine ⟨fun h2 => (nomatch h2), fun h2 => ⟨pick_f (by rw [h5]; rfl), noMu_of rfl, rfl⟩⟩
        rw [fm_pick]
        have hlen : ∀ k : Int × List Int → D, ((fr.filter fun q : Int × List Int => decide (q.1 > c) && match Ln.chF ch q.1 with
          | some p => decide (p ∈ S)
          | none => false).map k).length = Ln.laterN fr ch c S := fun k => List.length_map ..
        generalize hLL : (fr.filter fun q : Int × List Int => decide (q.1 > c) && match Ln.chF ch q.1 with
          | some p => decide (p ∈ S)
          | none => false).map (fun _ => I 1) = LL
        have hlen : LL.length = Ln.laterN fr ch c S := by rw [← hLL]; exact hlen _
        have hml : ((S.map I).length : Int) = (S.length : Int) := by rw [List.length_map]
        have hmx : -(2 ^ 64) < (if ((S.map I).length : Int) - d0 - (LL.length : Nat) > 0 then ((S.map I).length : Int) - d0 - (LL.length : Nat) else 0) ∧ (if ((S.map I).length : Int) - d0 - (LL.length : Nat) > 0 then ((S.map I).length : Int) - d0 - (LL.length : Nat) else 0) < 2 ^ 64 := by split <;> omega
        refine ⟨Nat.le_of_ble_eq_true rfl, fun p_later => ?_⟩
        refine ss_one ?_
        refine s_set 2 ?_ nd
        refine ee_bin ?_
        refine ee_var 2 rfl ?_
        refine ee_max2 T.z_max ?_
        refine ed_cons ?_
        refine ee_int ?_
        refine ed_cons ?_
        refine ee_bin ?_
        refine ee_bin ?_
        refine ee_lenL T.z_len ?_
        refine el_dat ?_
        refine ee_var 6 rfl ?_
        refine ⟨_, rfl, ?_⟩
        refine ee_var 3 rfl ?_
        refine bo_sub ?_
        refine ee_lenL T.z_len ?_
        refine el_slot 7 rfl ?_
        refine bo_sub ?_
        refine ed_nil ?_
        refine ⟨_, _, rfl, ?_⟩
        refine bo_mul (by first | exact .inr ⟨by omega, by omega⟩ | exact .inl ⟨by omega, by omega⟩) ?_
        refine ss_one ?_
        first | refine s_par 3 4 ?_ nd | refine s_parC 3 4 ?_ nd
        refine eu_d ?_
        refine ee_bin ?_
        refine ee_var 3 rfl ?_
        refine ee_int ?_
        refine bo_add ?_
        refine eu_d ?_
        refine ee_var 6 rfl ?_
        refine eu_nil ?_
        rw [hml, hlen]
        exact ⟨_, _, S, _, _, _, none, none, hg, by omega, rfl⟩
    · obtain ⟨f, d, b, d5, d6, d7, o8, o9, hg, h0, rfl⟩ := hI
      rw [List.length_map, List.drop_length] at hg
      refine ss_one ?_
      refine s_ret ?_
      refine ee_var 2 rfl ?_
      rw [hg] at hq
      exact hq

def fAllLanes : FSp := fun ds q => ∃ n : Nat, ds = [I (n : Nat)] ∧ n ≤ 6 ∧ q (.d (.lst ((Ln.lanesA n n).map outD)))
theorem pow_six {n k : Nat} (hn : n ≤ 6) (hk : k ≤ 6) : n ^ k ≤ 46656 := Nat.le_trans (Nat.pow_le_pow_left hn k) (Nat.pow_le_pow_right (by decide : 0 < 6) hk)
abbrev n__law_all_lanes : List Str := ["size", "found", "turn", "longer", "lane", "car"]
theorem sc__law_all_lanes : FnScope n__law_all_lanes ["size"] (defScope s__law_all_lanes) := ⟨rfl, rfl, rfl, by decide +kernel, rfl, by decide +kernel, by decide +kernel⟩
theorem ok__law_all_lanes (T : Top K mg) : FnOk P w K mg base CX0 (k + 1) T.f__law_all_lanes T.fd__law_all_lanes ["size"] (spF K fAllLanes) := by
  refine fn_F (N := n__law_all_lanes) T.F__law_all_lanes sc__law_all_lanes (fun ds q h => ?_) (fun cdv A outer s H E hr ds q h => ?_)
  · obtain ⟨n, rfl, _⟩ := h
    rfl
  · obtain ⟨n, rfl, hn, hq⟩ := h
    have nd := sc__law_all_lanes.nd
    have hu1 := hu_of hr
    have hu64 := hr.units
    refine ss_cons ?_
    refine s_setM 1 ?_ nd
    refine em_lst ?_
    refine ed_cons ?_
    refine ee_tup ?_
    refine ed_nil ?_
    refine ⟨Nat.le_of_ble_eq_true rfl, ?_⟩
    refine ed_nil ?_
    refine ⟨Nat.le_of_ble_eq_true rfl, ?_⟩
    refine ⟨Nat.le_of_ble_eq_true rfl, fun p_found => ?_⟩
    refine ss_frz 1 rfl ?_
    refine ss_cons ?_
    refine s_for ?_
    refine ei_rg1 T.z_range ?_
    refine ee_var 0 rfl ?_
    refine ⟨_, rfl, by first | omega | (simp only [List.length_map, List.length_append, List.length_cons, List.length_nil, List.length_reverse, List.length_dropLast, List.length_take, List.length_drop, List.length_range, List.length_replicate, Sy.rgS_len, Sy.rgD_len, Ln.downs_len, Ln.upto_len]; omega) | decide | assumption, by first | omega | (simp only [List.length_map, List.length_append, List.length_cons, List.length_nil, List.length_reverse, List.length_dropLast, List.length_take, List.length_drop, List.length_range, List.length_replicate, Sy.rgS_len, Sy.rgD_len, Ln.downs_len, Ln.upto_len]; omega) | decide | assumption, ?_⟩
    refine ⟨fun i e => ∃ (d2 d3 : Desc) (d4 : Desc) (o5 : Option D), i ≤ n ∧ e = [.dat (I (n : Nat)), .dat (.lst ((Ln.lanesA n i).map outD)), d2, d3, d4, sl o5], ⟨_, _, _, none, Nat.zero_le _, rfl⟩, fun _ _ _ => trivial, fun i d e hd hI => ?_, fun e hI => ?_⟩
    · obtain ⟨d2, d3, d4, o5, hin, rfl⟩ := hI
      obtain ⟨hi, rfl⟩ := rgD_at hd
      have hll := Nat.le_trans (Ln.lanesA_len n i) (pow_six hn (by omega))
      refine eg_name 2 ?_ nd
      refine ss_cons ?_
      refine s_setM 3 ?_ nd
      refine em_lst ?_
      refine ed_nil ?_
      refine ⟨Nat.le_of_ble_eq_true rfl, ?_⟩
      refine ⟨Nat.le_of_ble_eq_true rfl, fun p_longer => ?_⟩
      refine ss_cons ?_
      refine s_for ?_
      refine ei_list ?_
      refine ee_var 1 rfl ?_
      refine ⟨_, rfl, ?_⟩
      refine ⟨fun j e => ∃ (p : Addr) (d4 : Desc) (o5 : Option D), e = [.dat (I (n : Nat)), .dat (.lst ((Ln.lanesA n i).map outD)), .dat (I (0 + (i : Nat))), .mu p (.lst ((((Ln.lanesA n i).take j).flatMap (Ln.growA n)).map outD)), d4, sl o5], ⟨_, _, o5, rfl⟩, fun _ _ _ => trivial, fun j d e hd hJ => ?_, fun e hJ => ?_⟩
      · obtain ⟨p, d4, o5, rfl⟩ := hJ
        rw [List.getElem?_map] at hd
        cases hl : (Ln.lanesA n i)[j]? with
        | none => rw [hl] at hd; cases hd
        | some l =>
        rw [hl] at hd
        have hd := Option.some.inj hd
        subst hd
        have hjl := (List.getElem?_eq_some_iff.mp hl).1
        have hlen : l.length ≤ 100 := by
          have h1 : ∀ (k : Nat) (l : List Int), l ∈ Ln.lanesA n k → l.length = k := by
            intro k
            induction k with
            | zero => intro l hl; rw [List.mem_singleton.mp hl]; rfl
            | succ k ih =>
              intro l hl
              obtain ⟨l0, h0, h1⟩ := List.mem_flatMap.mp hl
              obtain ⟨c, _, rfl⟩ := List.mem_map.mp h1
              rw [List.length_append, ih l0 h0]
              rfl
          have := h1 i l (List.mem_of_getElem? hl)
          omega
        refine eg_name 4 ?_ nd
        refine ss_one ?_
        refine s_setM 3 ?_ nd
        refine em_catX 3 rfl ?_
        refine ee_new ?_
        refine em_lcA (own := [("car", 5)]) (blkOk_by (show blkC n__law_all_lanes (defScope s__law_all_lanes) _ _ = true by decide +kernel)) nd ?_
        refine ei_rg2 T.z_range ?_
        refine ee_int ?_
        refine ee_bin ?_
        refine ee_var 0 rfl ?_
        refine ee_int ?_
        refine bo_add ?_
        refine ⟨_, _, rfl, rfl, ⟨by first | omega | (simp only [List.length_map, List.length_append, List.length_cons, List.length_nil, List.length_reverse, List.length_dropLast, List.length_take, List.length_drop, List.length_range, List.length_replicate, Sy.rgS_len, Sy.rgD_len, Ln.downs_len, Ln.upto_len]; omega) | decide | assumption, by first | omega | (simp only [List.length_map, List.length_append, List.length_cons, List.length_nil, List.length_reverse, List.length_dropLast, List.length_take, List.length_drop, List.length_range, List.length_replicate, Sy.rgS_len, Sy.rgD_len, Ln.downs_len, Ln.upto_len]; omega) | decide | assumption, by first | omega | (simp only [List.length_map, List.length_append, List.length_cons, List.length_nil, List.length_reverse, List.length_dropLast, List.length_take, List.length_drop, List.length_range, List.length_replicate, Sy.rgS_len, Sy.rgD_len, Ln.downs_len, Ln.upto_len]; omega) | decide | assumption, by first | omega | (simp only [List.length_map, List.length_append, List.length_cons, List.length_nil, List.length_reverse, List.length_dropLast, List.length_take, List.length_drop, List.length_range, List.length_replicate, Sy.rgS_len, Sy.rgD_len, Ln.downs_len, Ln.upto_len]; omega) | decide | assumption⟩, ?_⟩
        refine ⟨noMu_of (by cases o5 <;> rfl), trivial, _, Ln.upto n, I, Sy.pick (fun c => !decide (c ∈ l)) (fun c => outD (l ++ [c])), rgD_upto n, by rw [Ln.upto_len]; omega, fun c hc => ?_, ?_⟩
        · refine egb_name 5 (by decide) (by intro _ _ h; cases h) ?_ fun _ _ _ _ _ => pg_name (i := 5) nd rfl (by first | exact .inl rfl | exact .inr rfl)
          refine ebb_one fun s0 H0 C cl fp => ?_
          refine eb_cmp ?_
          refine ee_var 5 rfl ?_
          refine ee_var 4 rfl ?_
          refine co_niT ?_
          refine ⟨_, rfl, ?_⟩
          refine ⟨fun h => ?_, fun h => ?_⟩
          · refine eeb fun s0 H0 C cl fp => ?_
            refine ee_bin ?_
            refine ee_var 4 rfl ?_
            refine ee_tup ?_
            refine ed_cons ?_
            refine ee_var 5 rfl ?_
            refine ed_nil ?_
            refine ⟨Nat.le_of_ble_eq_true rfl, ?_⟩
            refine bo_cat (by first | omega | (simp only [List.length_map, List.length_append, List.length_cons, List.length_nil, List.length_reverse, List.length_dropLast, List.length_take, List.length_drop, List.length_range, List.length_replicate, Sy.rgS_len, Sy.rgD_len, Ln.downs_len, Ln.upto_len]; omega) | decide | assumption) ?_
            refine ⟨?_, noMu_of rfl, rfl⟩
            refine (pick_t (p := fun c => !decide (c ∈ l)) (x := c) h).trans ?_
            unfold outD
            rw [List.map_append]
            rfl
          · exact ⟨pick_f (p := fun c => !decide (c ∈ l)) (x := c) h, noMu_of rfl, rfl⟩
        rw [fm_pick]
        have hfl := Nat.le_trans (Ln.flatA_len n ((Ln.lanesA n i).take j)) (Nat.mul_le_mul (show ((Ln.lanesA n i).take j).length ≤ 46656 by rw [List.length_take]; omega) hn)
        have hgl := Ln.growA_len n l
        have hg : ((Ln.upto n).filter fun c => !decide (c ∈ l)).map (fun c => outD (l ++ [c])) = (Ln.growA n l).map outD := by
          unfold Ln.growA
          rw [List.map_map]
          rfl
        rw [hg]
        refine ⟨_, _, rfl, rfl, by rw [List.length_map, List.length_map]; omega, ?_⟩
        refine ⟨Nat.le_of_ble_eq_true rfl, fun p_longer => ?_⟩
        have e : (((Ln.lanesA n i).take j).flatMap (Ln.growA n)).map outD ++ (Ln.growA n l).map outD = (((Ln.lanesA n i).take (j + 1)).flatMap (Ln.growA n)).map outD := by
          rw [List.take_add_one, hl, List.flatMap_append, List.map_append]
          simp
        rw [e]
        exact ⟨_, _, none, rfl⟩
      · obtain ⟨p, d4, o5, rfl⟩ := hJ
        rw [List.length_map, List.take_length]
        refine ss_frz 3 rfl ?_
        refine ss_one ?_
        refine s_set 1 ?_ nd
        refine ee_var 3 rfl ?_
        exact ⟨_, _, _, o5, by omega, rfl⟩
    · obtain ⟨d2, d3, d4, o5, hin, rfl⟩ := hI
      have e : (rgD 0 (n : Int)).length = n := by rw [rgD_len]; omega
      rw [e]
      refine ss_one ?_
      refine s_ret ?_
      refine ee_var 1 rfl ?_
      exact hq

theorem fixed_len {R : List Int} : (Ln.fixedR R).length ≤ R.length := by
  have := Ln.wk_len (n := R.length) (xs := R) (c := 1) (o := 0) (l := (R.length : Int) + 1) (P := [])
  unfold Ln.fixedR
  omega
theorem prs_ne {l : List (Int × Int)} {b : Bool} (h : b = true ↔ D.lst (l.map fun q => I q.1) ≠ D.lst []) : b = true ↔ l ≠ [] := by
  rw [h]
  constructor
  · intro h e
    exact h (by rw [e]; rfl)
  · intro h e
    exact h (List.map_eq_nil_iff.mp (D.lst.inj e))
theorem atI_zero (x : D) (xs : List D) : atI (x :: xs) 0 = some x := by
  unfold atI ixN
  simp
def fCand : FSp := fun ds q => ∃ (R : List Int) (ch : List (Int × Int)) (s : Int), ds = [I s, .dct ((Ln.fixedR R).map fxK), .lst ((Ln.freeR R).map frD), .dct (ch.map fxK)] ∧ 1 ≤ R.length ∧ R.length ≤ 30 ∧ Ln.good 0 R = true ∧ ch.length ≤ 30 ∧ q (.m (.lst ((Ln.candL R ch s).map prD)))
abbrev n_candidates : List Str := ["place", "fixed", "free", "chosen", "here", "found", "car", "places", "trial", "number"]
theorem sc_candidates : FnScope n_candidates ["place", "fixed", "free", "chosen"] (defScope s_candidates) := ⟨rfl, rfl, rfl, by decide +kernel, rfl, by decide +kernel, by decide +kernel⟩
theorem ok_candidates (T : Top K mg) : FnOk P w K mg base CX0 (k + 2) T.f_candidates T.fd_candidates ["place", "fixed", "free", "chosen"] (spF K fCand) := by
  refine fn_F (N := n_candidates) T.F_candidates sc_candidates (fun ds q h => ?_) (fun cdv A outer s H E hr ds q h => ?_)
  · obtain ⟨R, ch, s, rfl, _⟩ := h
    rfl
  · obtain ⟨R, ch, s, rfl, h1, h2, hg, hcl, hq⟩ := h
    have hfl := Ln.free_len (R := R)
    have hxl := fixed_len (R := R)
    have hch : ∀ c, valD (ch.map fxK) (.inl c) = (Ln.chF ch c).map I := fun c => by
      have := valD_map I (ps := ch) (c := c)
      unfold Ln.chF
      rw [Option.map_map]
      exact this
    have nd := sc_candidates.nd
    have hu1 := hu_of hr
    have hu64 := hr.units
    refine ss_cons ?_
    first | refine s_setLc 4 (own := [("car", 6)]) (blkOk_by (show blkC n_candidates (defScope s_candidates) _ _ = true by decide +kernel)) nd ?_ | (refine s_setM 4 ?_ nd; refine em_ofLc (own := [("car", 6)]) (blkOk_by (show blkC n_candidates (defScope s_candidates) _ _ = true by decide +kernel)) nd ?_)
    refine elcA ?_
    refine ei_dct ?_
    refine ee_var 1 rfl ?_
    refine ⟨_, rfl, ?_⟩
    have hkf : keysD ((Ln.fixedR R).map fxK) = (Ln.fixedR R).map fun q => I q.1 := by
      unfold keysD
      rw [List.map_map]
      rfl
    rw [hkf]
    refine ⟨noMu_of rfl, trivial, _, Ln.fixedR R, fun q => I q.1, Sy.pick (fun q => decide (q.2 = s)) fun q => I q.1, rfl, by omega, fun q hqm => ?_, ?_⟩
    · refine egb_name 6 (by decide) (by intro _ _ h; cases h) ?_ fun _ _ _ _ _ => pg_name (i := 6) nd rfl (by first | exact .inl rfl | exact .inr rfl)
      refine ebb_one fun s0 H0 C cl fp => ?_
      refine eb_cmp ?_
      refine ee_dget hu1 ?_
      refine ee_var 1 rfl ?_
      refine ee_var 6 rfl ?_
      have hv : valD ((Ln.fixedR R).map fxK) (.inl q.1) = some (I q.2) := by
        have e := valD_map I (ps := Ln.fixedR R) (c := q.1)
        rw [Ln.find_pw (show (Ln.fixedR R).Pairwise _ from Ln.wk_pw.1) (show (q.1, q.2) ∈ Ln.fixedR R from hqm)] at e
        exact e
      refine ⟨_, .inl q.1, _, rfl, rfl, hv, ?_⟩
      refine ee_var 0 rfl ?_
      refine co_eq ?_
      refine ⟨_, rfl, ?_⟩
      refine ⟨fun h => ?_, fun h => ?_⟩
      · refine eeb fun s0 H0 C cl fp => ?_
        refine ee_var 6 rfl ?_
        exact ⟨pick_t (p := fun q : Int × Int => decide (q.2 = s)) (x := q) h, noMu_of rfl, rfl⟩
      · exact ⟨pick_f (p := fun q : Int × Int => decide (q.2 = s)) (x := q) h, noMu_of rfl, rfl⟩
    refine ⟨Nat.le_of_ble_eq_true rfl, fun p_here => ?_⟩
    refine ss_cons ?_
    refine s_if ?_
    refine eb_neX 4 hu64 rfl ?_
    refine ee_new ?_
    refine em_lst ?_
    refine ed_nil ?_
    refine ⟨Nat.le_of_ble_eq_true rfl, ?_⟩
    rw [fm_pick]
    have he : ((Ln.fixedR R).filter fun q => decide (q.2 = s)).map (fun q => I q.1) = (((Ln.fixedR R).filter fun q => decide (q.2 = s)).map (·.1)).map I := by rw [List.map_map]; rfl
    refine ⟨_, rfl, by rw [he]; exact eqkA_ints _, eqkA_ints [], by rw [he]; exact dep_ints _, dep_ints [], fun b hb => ?_⟩
    have hb := prs_ne hb
    refine ⟨fun h => ?_, fun h => ?_⟩
    · have hne := hb.mp h
      obtain ⟨q, t, e⟩ := List.exists_cons_of_ne_nil hne
      rw [e]
      have hc : Ln.candL R ch s = [(q.1, Ln.countW (Ln.freeR R) ch)] := by unfold Ln.candL; rw [e]
      rw [hc] at hq
      refine ss_one ?_
      refine s_retM ?_
      refine em_lst ?_
      refine ed_cons ?_
      refine ee_tup ?_
      refine ed_cons ?_
      refine ee_ixX 4 rfl ?_
      refine ee_int ?_
      first | refine ⟨_, _, _, rfl, rfl, rfl, ?_⟩ | refine ⟨_, _, _, rfl, rfl, atI_zero _ _, ?_⟩
      refine ed_cons ?_
      refine ee_call (ok_count_with T) hr T.g_count_with T.F_count_with.kp T.b_count_with pass0 ?_
      refine ed_cons ?_
      refine ee_var 2 rfl ?_
      refine ed_cons ?_
      refine ee_var 3 rfl ?_
      refine ed_nil ?_
      refine ⟨Ln.freeR R, ch, rfl, by omega, fun p hp => by have := (Ln.free_spots hg hp).2; omega, ⟨_, rfl, ?_⟩⟩
      refine ed_nil ?_
      refine ⟨Nat.le_of_ble_eq_true rfl, ?_⟩
      refine ed_nil ?_
      refine ⟨Nat.le_of_ble_eq_true rfl, ?_⟩
      exact hq
    · have hnil : (Ln.fixedR R).filter (fun q => decide (q.2 = s)) = [] := Classical.byContradiction fun z => by rw [hb.mpr z] at h; cases h
      rw [hnil]
      have hc : Ln.candL R ch s = (Ln.freeR R).filterMap (Ln.candG R ch s) := by unfold Ln.candL; rw [hnil]
      rw [hc] at hq
      refine ss_nil ?_
      refine ss_cons ?_
      refine s_setM 5 ?_ nd
      refine em_lst ?_
      refine ed_nil ?_
      refine ⟨Nat.le_of_ble_eq_true rfl, ?_⟩
      refine ⟨Nat.le_of_ble_eq_true rfl, fun p_found => ?_⟩
      refine ss_cons ?_
      refine s_for ?_
      refine ei_list ?_
      refine ee_var 2 rfl ?_
      refine ⟨_, rfl, ?_⟩
      refine ⟨fun i e => ∃ (d6 d7 d8 d9 : Desc), e = [.dat (I s), .dat (.dct ((Ln.fixedR R).map fxK)), .dat (.lst ((Ln.freeR R).map frD)), .dat (.dct (ch.map fxK)), .mu p_here (.lst []), .mu p_found (.lst ((((Ln.freeR R).take i).filterMap (Ln.candG R ch s)).map prD)), d6, d7, d8, d9], ⟨_, _, _, _, rfl⟩, fun _ _ _ => trivial, fun i d e hd hI => ?_, fun e hI => ?_⟩
      · obtain ⟨d6, d7, d8, d9, rfl⟩ := hI
        rw [List.getElem?_map] at hd
        cases hp : (Ln.freeR R)[i]? with
        | none => rw [hp] at hd; cases hd
        | some p =>
        rw [hp] at hd
        have hd := Option.some.inj hd
        subst hd
        obtain ⟨c, S⟩ := p
        have hi := (List.getElem?_eq_some_iff.mp hp).1
        have htk : (Ln.freeR R).take (i + 1) = (Ln.freeR R).take i ++ [(c, S)] := by rw [List.take_add_one, hp]; rfl
        have hfm : ((Ln.freeR R).take (i + 1)).filterMap (Ln.candG R ch s) = ((Ln.freeR R).take i).filterMap (Ln.candG R ch s) ++ (match Ln.candG R ch s (c, S) with | some x => [x] | none => []) := by
          rw [htk, List.filterMap_append]
          congr 1
          cases hgc : Ln.candG R ch s (c, S) with
          | none => rw [List.filterMap_cons_none hgc]; rfl
          | some x => rw [List.filterMap_cons_some hgc]; rfl
        have hln : (((Ln.freeR R).take i).filterMap (Ln.candG R ch s)).length ≤ 30 := by
          have h3 := List.length_filterMap_le (Ln.candG R ch s) ((Ln.freeR R).take i)
          rw [List.length_take] at h3
          omega
        refine eg_tup ?_
        refine egs_cons ?_
        refine eg_name 6 ?_ nd
        refine egs_cons ?_
        refine eg_name 7 ?_ nd
        refine egs_nil ?_
        refine ss_one ?_
        refine s_if ?_
        refine eb_w ?_
        refine ew_and ?_
        refine eb_cmp ?_
        refine ee_var 6 rfl ?_
        refine ee_var 3 rfl ?_
        refine co_niKI hu1 ?_
        refine ⟨_, rfl, ?_⟩
        rw [hch]
        have step : ∀ {o : Option (Int × Int)}, Ln.candG R ch s (c, S) = o → (match o with | some x => [x] | none => ([] : List (Int × Int))) = (match Ln.candG R ch s (c, S) with | some x => [x] | none => []) := fun e => by rw [e]
        have no : Ln.candG R ch s (c, S) = none → (((Ln.freeR R).take (i + 1)).filterMap (Ln.candG R ch s)).map prD = (((Ln.freeR R).take i).filterMap (Ln.candG R ch s)).map prD := fun e => by rw [hfm, e, List.append_nil]
        refine ⟨fun h3 => ?_, fun h3 => ?_⟩
        · have hc0 : Ln.chF ch c = none := by
            cases e : Ln.chF ch c with
            | none => rfl
            | some v => rw [e] at h3; cases h3
          refine ew_and1 ?_
          refine eb_cmp ?_
          refine ee_var 0 rfl ?_
          refine ee_var 7 rfl ?_
          refine co_inL ?_
          refine ⟨_, rfl, ?_⟩
          refine ⟨fun h4 => ?_, fun h4 => ?_⟩
          · have hsS : s ∈ S := of_decide_eq_true h4
            refine ss_cons ?_
            refine s_setM 8 ?_ nd
            refine em_dictD T.z_dict ?_
            refine ee_var 3 rfl ?_
            refine ⟨_, rfl, ?_⟩
            refine ⟨Nat.le_of_ble_eq_true rfl, fun p_trial => ?_⟩
            refine ss_cons ?_
            refine s_dput 8 hu1 rfl ?_
            refine ee_var 0 rfl ?_
            refine ⟨_, rfl, ?_⟩
            refine ee_var 6 rfl ?_
            have hput : putD (ch.map fxK) (.inl c) (I s) = (ch ++ [(c, s)]).map fxK := by
              rw [putD_new, List.map_append]
              · rfl
              · intro p hp z
                obtain ⟨q, hq1, rfl⟩ := List.mem_map.mp hp
                have hqc : q.1 = c := Sum.inl.inj z
                have : (ch.find? fun q => decide (q.1 = c)).isSome = true := List.find?_isSome.mpr ⟨q, hq1, decide_eq_true hqc⟩
                unfold Ln.chF at hc0
                rw [Option.map_eq_none_iff] at hc0
                rw [hc0] at this
                cases this
            refine ⟨ch.map fxK, .inl c, rfl, rfl, by rw [List.length_map]; omega, ?_⟩
            rw [hput]
            refine ss_frz 8 rfl ?_
            refine ss_cons ?_
            refine s_set 9 ?_ nd
            refine ee_call (ok_count_with T) hr T.g_count_with T.F_count_with.kp T.b_count_with pass0 ?_
            refine ed_cons ?_
            refine ee_var 2 rfl ?_
            refine ed_cons ?_
            refine ee_var 8 rfl ?_
            refine ed_nil ?_
            refine ⟨Ln.freeR R, ch ++ [(c, s)], rfl, by omega, fun p hp => by have := (Ln.free_spots hg hp).2; omega, ⟨_, rfl, ?_⟩⟩
            refine ss_one ?_
            refine s_if ?_
            refine eb_cmp ?_
            refine ee_var 9 rfl ?_
            refine ee_int ?_
            refine co_gt ?_
            refine ⟨_, rfl, ?_⟩
            refine ⟨fun h5 => ?_, fun h5 => ?_⟩
            · have hg1 : Ln.candG R ch s (c, S) = some (c, Ln.countW (Ln.freeR R) (ch ++ [(c, s)])) := if_pos ⟨hc0, hsS, of_decide_eq_true h5⟩
              refine ss_one ?_
              refine s_expr ?_
              refine ee_append 5 rfl ?_
              refine ee_tup ?_
              refine ed_cons ?_
              refine ee_var 6 rfl ?_
              refine ed_cons ?_
              refine ee_var 9 rfl ?_
              refine ed_nil ?_
              refine ⟨Nat.le_of_ble_eq_true rfl, ?_⟩
              refine ⟨_, rfl, by first | omega | (simp only [List.length_map, List.length_append, List.length_cons, List.length_nil, List.length_reverse, List.length_dropLast, List.length_take, List.length_drop, List.length_range, List.length_replicate, Sy.rgS_len, Sy.rgD_len, Ln.downs_len, Ln.upto_len]; omega) | decide | assumption, ?_⟩
              have hA : (((Ln.freeR R).take (i + 1)).filterMap (Ln.candG R ch s)).map prD = (((Ln.freeR R).take i).filterMap (Ln.candG R ch s)).map prD ++ [prD (c, Ln.countW (Ln.freeR R) (ch ++ [(c, s)]))] := by
                rw [hfm, hg1, List.map_append]
                rfl
              exact ⟨_, _, _, _, by rw [hA]; rfl⟩
            · have hg0 : Ln.candG R ch s (c, S) = none := if_neg fun z => of_decide_eq_false h5 z.2.2
              refine ss_nil ?_
              exact ⟨_, _, _, _, by rw [no hg0]; rfl⟩
          · have hsS : s ∉ S := of_decide_eq_false h4
            refine ss_nil ?_
            have hg0 : Ln.candG R ch s (c, S) = none := if_neg fun z => hsS z.2.1
            exact ⟨_, _, _, _, by rw [no hg0]; rfl⟩
        · have hc0 : Ln.chF ch c ≠ none := fun e => by rw [e] at h3; cases h3
          refine ⟨fun h => (nomatch h), fun _ => ?_⟩
          refine ss_nil ?_
          have hg0 : Ln.candG R ch s (c, S) = none := if_neg fun z => hc0 z.1
          exact ⟨_, _, _, _, by rw [no hg0]; rfl⟩
      · obtain ⟨d6, d7, d8, d9, rfl⟩ := hI
        rw [List.length_map, List.take_length]
        refine ss_one ?_
        refine s_retX 5 rfl ?_
        exact hq

theorem flat_prs : ∀ l : List (Int × Int), flatA (l.map prD)
  | [] => trivial
  | _ :: l => ⟨⟨trivial, trivial, trivial⟩, flat_prs l⟩
theorem fx_val {R : List Int} {c : Int} : valD ((Ln.fixedR R).map fxK) (.inl c) = ((Ln.fixedR R).find? fun q => decide (q.1 = c)).map fun q => I q.2 := valD_map I
theorem fx_in {R : List Int} {c : Int} : (valD ((Ln.fixedR R).map fxK) (.inl c)).isSome = true ↔ ∃ p, (c, p) ∈ Ln.fixedR R := by
  rw [fx_val, Option.isSome_map, List.find?_isSome]
  constructor
  · rintro ⟨q, h1, h2⟩
    exact ⟨q.2, by rw [← of_decide_eq_true h2]; exact h1⟩
  · rintro ⟨p, h⟩
    exact ⟨(c, p), h, decide_eq_true rfl⟩
theorem ch_put {ch : List (Int × Int)} {c s : Int} (h : Ln.chF ch c = none) : putD (ch.map fxK) (.inl c) (I s) = (ch ++ [(c, s)]).map fxK := by
  rw [putD_new, List.map_append]
  · rfl
  · intro p hp z
    obtain ⟨q, hq1, rfl⟩ := List.mem_map.mp hp
    have hqc : q.1 = c := Sum.inl.inj z
    have : (ch.find? fun q => decide (q.1 = c)).isSome = true := List.find?_isSome.mpr ⟨q, hq1, decide_eq_true hqc⟩
    unfold Ln.chF at h
    rw [Option.map_eq_none_iff] at h
    rw [h] at this
    cases this
def fOrdN : FSp := fun ds q => ∃ R : List Int, ds = [.tup (R.map I), I 0] ∧ 1 ≤ R.length ∧ R.length ≤ 30 ∧ Ln.good 0 R = true ∧ ∀ L : List Int, Ln.Ord L → L.length = R.length → Ln.row .srt L = R → q (.d (.tup (L.map I)))
abbrev n_order_number : List Str := ["row", "number", "fixed", "free", "prefix", "chosen", "place", "car", "many"]
theorem sc_order_number : FnScope n_order_number ["row", "number"] (defScope s_order_number) := ⟨rfl, rfl, rfl, by decide +kernel, rfl, by decide +kernel, by decide +kernel⟩
theorem ok_order_number (T : Top K mg) : FnOk P w K mg base CX0 (k + 3) T.f_order_number T.fd_order_number ["row", "number"] (spF K fOrdN) := by
  refine fn_F (N := n_order_number) T.F_order_number sc_order_number (fun ds q h => ?_) (fun cdv A outer s H E hr ds q h => ?_)
  · obtain ⟨R, rfl, _⟩ := h
    rfl
  · obtain ⟨R, rfl, h1, h2, hg, hq⟩ := h
    have nd := sc_order_number.nd
    have hu1 := hu_of hr
    have hu64 := hr.units
    refine ss_cons ?_
    refine s_asg ?_
    refine ee_call (ok_places_of T) hr T.g_places_of T.F_places_of.kp T.b_places_of pass0 ?_
    refine ed_cons ?_
    refine ee_var 0 rfl ?_
    refine ed_nil ?_
    refine ⟨R, rfl, h1, h2, hg, ⟨_, rfl, ?_⟩⟩
    have hml : (R.map I).length = R.length := List.length_map ..
    refine eg_tup ?_
    refine egs_cons ?_
    refine eg_name 2 ?_ nd
    refine egs_cons ?_
    refine eg_name 3 ?_ nd
    refine egs_nil ?_
    refine ss_cons ?_
    first | refine s_par 4 5 ?_ nd | refine s_parC 4 5 ?_ nd
    refine eu_d ?_
    refine ee_tup ?_
    refine ed_nil ?_
    refine ⟨Nat.le_of_ble_eq_true rfl, ?_⟩
    refine eu_m ?_
    refine em_dnew ?_
    refine eu_nil ?_
    refine ⟨Nat.le_of_ble_eq_true rfl, fun p_chosen => ?_⟩
    refine ss_cons ?_
    refine s_for ?_
    refine ei_rg2 T.z_range ?_
    refine ee_int ?_
    refine ee_bin ?_
    refine ee_lenT T.z_len ?_
    refine ee_var 0 rfl ?_
    refine ⟨_, rfl, ?_⟩
    refine ee_int ?_
    refine bo_add ?_
    refine ⟨_, _, rfl, rfl, ⟨by first | omega | (simp only [List.length_map, List.length_append, List.length_cons, List.length_nil, List.length_reverse, List.length_dropLast, List.length_take, List.length_drop, List.length_range, List.length_replicate, Sy.rgS_len, Sy.rgD_len, Ln.downs_len, Ln.upto_len]; omega) | decide | assumption, by first | omega | (simp only [List.length_map, List.length_append, List.length_cons, List.length_nil, List.length_reverse, List.length_dropLast, List.length_take, List.length_drop, List.length_range, List.length_replicate, Sy.rgS_len, Sy.rgD_len, Ln.downs_len, Ln.upto_len]; omega) | decide | assumption, by first | omega | (simp only [List.length_map, List.length_append, List.length_cons, List.length_nil, List.length_reverse, List.length_dropLast, List.length_take, List.length_drop, List.length_range, List.length_replicate, Sy.rgS_len, Sy.rgD_len, Ln.downs_len, Ln.upto_len]; omega) | decide | assumption, by first | omega | (simp only [List.length_map, List.length_append, List.length_cons, List.length_nil, List.length_reverse, List.length_dropLast, List.length_take, List.length_drop, List.length_range, List.length_replicate, Sy.rgS_len, Sy.rgD_len, Ln.downs_len, Ln.upto_len]; omega) | decide | assumption⟩, ?_⟩
    rw [hml]
    refine ⟨fun i e => ∃ (pre : List Int) (ch : List (Int × Int)) (d6 d7 d8 : Desc), pre.length = i ∧ Ln.Part R pre ch ∧ ch.length ≤ i ∧ e = [.dat (.tup (R.map I)), .dat (I 0), .dat (.dct ((Ln.fixedR R).map fxK)), .dat (.lst ((Ln.freeR R).map frD)), .dat (.tup (pre.map I)), .mu p_chosen (.dK (ch.map fxK)), d6, d7, d8], ⟨[], [], _, _, _, rfl, Ln.Part.nil hg h1 h2, Nat.le_refl _, rfl⟩, fun _ _ _ => trivial, fun i d e hd hI => ?_, fun e hI => ?_⟩
    · obtain ⟨pre, ch, d6, d7, d8, hpl, P, hcl, rfl⟩ := hI
      obtain ⟨hi, rfl⟩ := rgD_at hd
      obtain ⟨c, m, r, hc, hm, hcase⟩ := P.first hg h1 h2 (by omega)
      have hs : (pre.length : Int) + 1 = 1 + (i : Nat) := by omega
      rw [hs] at hc hcase
      have hpm : (pre.map I).length = pre.length := List.length_map ..
      refine eg_name 6 ?_ nd
      refine ss_one ?_
      refine s_for ?_
      refine ei_list ?_
      refine ee_new ?_
      refine em_callL 5 rfl (ok_candidates T) hr T.g_candidates T.F_candidates.kp T.b_candidates pass0 ?_
      refine ee_var 6 rfl ?_
      refine ee_var 2 rfl ?_
      refine ee_var 3 rfl ?_
      refine ⟨_, rfl, R, ch, 1 + (i : Nat), rfl, h1, h2, hg, by omega, ⟨_, rfl, flat_prs _, ?_⟩⟩
      rw [hc]
      refine ⟨_, rfl, ?_⟩
      refine ⟨fun j e => j = 0 ∧ e = [.dat (.tup (R.map I)), .dat (I 0), .dat (.dct ((Ln.fixedR R).map fxK)), .dat (.lst ((Ln.freeR R).map frD)), .dat (.tup (pre.map I)), .mu p_chosen (.dK (ch.map fxK)), .dat (I (1 + (i : Nat))), d7, d8], ⟨rfl, rfl⟩, fun _ _ _ => trivial, fun j d e hd hJ => ?_, fun e hJ => ?_⟩
      · obtain ⟨rfl, rfl⟩ := hJ
        obtain rfl : prD (c, m) = d := Option.some.inj hd
        refine eg_tup ?_
        refine egs_cons ?_
        refine eg_name 7 ?_ nd
        refine egs_cons ?_
        refine eg_name 8 ?_ nd
        refine egs_nil ?_
        refine ss_cons ?_
        refine s_if ?_
        refine eb_cmp ?_
        refine ee_var 1 rfl ?_
        refine ee_var 8 rfl ?_
        refine co_lt ?_
        refine ⟨_, rfl, ?_⟩
        refine ⟨fun _ => ?_, fun h => absurd hm (of_decide_eq_false h)⟩
        refine ss_cons ?_
        refine s_set 4 ?_ nd
        refine ee_bin ?_
        refine ee_var 4 rfl ?_
        refine ee_tup ?_
        refine ed_cons ?_
        refine ee_var 7 rfl ?_
        refine ed_nil ?_
        refine ⟨Nat.le_of_ble_eq_true rfl, ?_⟩
        refine bo_cat (by first | omega | (simp only [List.length_map, List.length_append, List.length_cons, List.length_nil, List.length_reverse, List.length_dropLast, List.length_take, List.length_drop, List.length_range, List.length_replicate, Sy.rgS_len, Sy.rgD_len, Ln.downs_len, Ln.upto_len]; omega) | decide | assumption) ?_
        refine ss_cons ?_
        refine s_if ?_
        refine eb_cmp ?_
        refine ee_var 7 rfl ?_
        refine ee_var 2 rfl ?_
        refine co_niKI hu1 ?_
        refine ⟨_, rfl, ?_⟩
        have hsn : pre.map I ++ [I c] = (pre ++ [c]).map I := by rw [List.map_append]; rfl
        refine ⟨fun h => ?_, fun h => ?_⟩
        · refine ss_one ?_
          refine s_dput 5 hu1 rfl ?_
          refine ee_var 6 rfl ?_
          refine ⟨_, rfl, ?_⟩
          refine ee_var 7 rfl ?_
          rcases hcase with ⟨hx, _⟩ | ⟨hnf, hcn, P'⟩
          · rw [fx_in.mpr ⟨_, hx⟩] at h; cases h
          refine ⟨ch.map fxK, .inl c, rfl, rfl, by rw [List.length_map]; omega, ?_⟩
          rw [ch_put hcn]
          refine ss_one ?_
          refine s_brk ?_
          refine ⟨pre ++ [c], ch ++ [(c, 1 + ((i : Nat) : Int))], _, _, _, ?_, P', ?_, by rw [← hsn]; rfl⟩
          · rw [List.length_append, hpl]; rfl
          · rw [List.length_append]; exact Nat.succ_le_succ hcl
        · refine ss_nil ?_
          refine ss_one ?_
          refine s_brk ?_
          rcases hcase with ⟨_, P'⟩ | ⟨hnf, _, _⟩
          · refine ⟨pre ++ [c], ch, _, _, _, ?_, P', by omega, by rw [← hsn]; rfl⟩
            rw [List.length_append, hpl]; rfl
          · exfalso
            cases e : (valD ((Ln.fixedR R).map fxK) (.inl c)).isSome with
            | false => rw [e] at h; cases h
            | true =>
              obtain ⟨p, hp⟩ := fx_in.mp e
              exact hnf p hp
      · obtain ⟨hj, _⟩ := hJ
        cases hj
    · obtain ⟨pre, ch, d6, d7, d8, hpl, P, hcl, rfl⟩ := hI
      rw [rgD_len] at hpl
      have hpl2 : pre.length = R.length := by omega
      obtain ⟨hO, hr⟩ := P.all h1 h2 hpl2
      refine ss_one ?_
      refine s_ret ?_
      refine ee_var 4 rfl ?_
      exact hq pre hO hpl2 hr

def tI (x : (Nat × Nat) × Int) : List Int × D := ([((x.1.1 : Nat) : Int), ((x.1.2 : Nat) : Int)], I x.2)
theorem pair_inj {a b : Nat × Nat} : [((a.1 : Nat) : Int), ((a.2 : Nat) : Int)] = [((b.1 : Nat) : Int), ((b.2 : Nat) : Int)] ↔ a = b := by
  constructor
  · intro h
    have h1 := (List.cons.inj h).1
    have h2 := (List.cons.inj (List.cons.inj h).2).1
    exact Prod.ext (by omega) (by omega)
  · intro h
    rw [h]
theorem tI_key {x : (Nat × Nat) × Int} {k : Nat × Nat} : (tI x).1 = [((k.1 : Nat) : Int), ((k.2 : Nat) : Int)] ↔ x.1 = k := pair_inj
theorem tI_val {k : Nat × Nat} : ∀ ts : Ln.Tb, valTD (ts.map tI) [((k.1 : Nat) : Int), ((k.2 : Nat) : Int)] = (Ln.tbv ts k).map I
  | [] => rfl
  | x :: ts => by
    have ih := tI_val (k := k) ts
    unfold valTD at ih ⊢
    rw [List.map_cons, Ln.tbv_cons]
    by_cases h : x.1 = k
    · rw [List.find?_cons_of_pos (p := fun p : List Int × D => decide (p.1 = [((k.1 : Nat) : Int), ((k.2 : Nat) : Int)])) (decide_eq_true (tI_key.mpr h)), if_pos h]
      rfl
    · rw [List.find?_cons_of_neg (p := fun p : List Int × D => decide (p.1 = [((k.1 : Nat) : Int), ((k.2 : Nat) : Int)])) (by rw [decide_eq_true_iff]; exact fun z => h (tI_key.mp z)), if_neg h]
      exact ih
theorem tI_any {k : Nat × Nat} (ts : Ln.Tb) : ((ts.map tI).any fun p => decide (p.1 = [((k.1 : Nat) : Int), ((k.2 : Nat) : Int)])) = ts.any fun x => decide (x.1 = k) := by
  rw [List.any_map]
  congr 1
  funext x
  exact decide_eq_decide.mpr tI_key
theorem tI_put {k : Nat × Nat} {v : Int} (ts : Ln.Tb) : putTD (ts.map tI) [((k.1 : Nat) : Int), ((k.2 : Nat) : Int)] (I v) = (Ln.tput ts k v).map tI := by
  unfold putTD Ln.tput
  rw [tI_any]
  split
  · rw [List.map_map, List.map_map]
    refine List.map_congr_left fun x _ => ?_
    show (if (tI x).1 = _ then ((tI x).1, I v) else tI x) = tI (if x.1 = k then (x.1, v) else x)
    by_cases h : x.1 = k
    · rw [if_pos h, if_pos (tI_key.mpr h)]; rfl
    · rw [if_neg h, if_neg (fun z => h (tI_key.mp z))]
  · rw [List.map_append]; rfl
theorem tI_get {k : Nat × Nat} (ts : Ln.Tb) : (valTD (ts.map tI) [((k.1 : Nat) : Int), ((k.2 : Nat) : Int)]).getD (I 0) = I (Ln.wv ts k) := by
  rw [tI_val]
  unfold Ln.wv
  cases Ln.tbv ts k <;> rfl
theorem tI_keys (ts : Ln.Tb) : keysTD (ts.map tI) = ts.map fun x => D.tup [I ((x.1.1 : Nat) : Int), I ((x.1.2 : Nat) : Int)] := by
  unfold keysTD
  rw [List.map_map]
  rfl
theorem valD_cons {k : Key} {d : D} {r : List (Key × D)} {k' : Key} : valD ((k, d) :: r) k' = if k = k' then some d else valD r k' := by
  unfold valD
  rw [List.find?_cons]
  by_cases h : k = k'
  · rw [if_pos h, decide_eq_true h]; rfl
  · rw [if_neg h, decide_eq_false h]
def tZ (x : (Nat × Nat) × Int) : Key × D := (.inl ((x.1.2 : Nat) : Int), I x.2)
theorem tZ_val {a : Nat} : ∀ {ts : Ln.Tb}, (∀ x, x ∈ ts → x.1.1 = 0) → valD (ts.map tZ) (.inl ((a : Nat) : Int)) = (Ln.tbv ts (0, a)).map I
  | [], _ => rfl
  | x :: ts, h => by
    have ih := tZ_val (a := a) (ts := ts) fun y hy => h y (List.mem_cons_of_mem _ hy)
    have h0 := h x List.mem_cons_self
    rw [List.map_cons, show tZ x = (.inl ((x.1.2 : Nat) : Int), I x.2) from rfl, valD_cons, Ln.tbv_cons, ih]
    by_cases e : x.1 = (0, a)
    · rw [if_pos e, if_pos (by rw [e])]
      rfl
    · rw [if_neg e, if_neg (fun z => e (Prod.ext h0 (by have := Sum.inl.inj z; omega)))]
theorem tZ_merge {ts : Ln.Tb} (hn : (ts.map (·.1)).Nodup) (h : ∀ x, x ∈ ts → x.1.1 = 0) : mergeD [] (ts.map tZ) = ts.map tZ := by
  have e := mergeD_new (more := ts.map tZ) (kvs := []) (fun p hp => nomatch hp) (by
    rw [List.pairwise_map]
    refine List.Pairwise.imp_of_mem (fun {a b} ha hb hne z => hne (Prod.ext ?_ ?_)) (List.pairwise_map.mp hn)
    · rw [h a ha, h b hb]
    · have := Sum.inl.inj z
      omega)
  rwa [List.nil_append] at e
def fCounted : FSp := fun ds q => ∃ n : Nat, ds = [I (n : Nat)] ∧ 1 ≤ n ∧ n ≤ 20 ∧ ∀ kvs : List (Key × D), (∀ a : Nat, (valD kvs (.inl ((a : Nat) : Int))).getD (I 0) = I (Ln.cf (Ln.pl n n) 0 a : Nat)) → q (.m (.dK kvs))
abbrev n_counted : List Str := ["size", "states", "turn", "later", "outside", "points", "number", "behind", "ways", "key"]
theorem sc_counted : FnScope n_counted ["size"] (defScope s_counted) := ⟨rfl, rfl, rfl, by decide +kernel, rfl, by decide +kernel, by decide +kernel⟩
theorem ok_counted (T : Top K mg) : FnOk P w K mg base CX0 (k + 3) T.f_counted T.fd_counted ["size"] (spF K fCounted) := by
  refine fn_F (N := n_counted) T.F_counted sc_counted (fun ds q h => ?_) (fun cdv A outer s H E hr ds q h => ?_)
  · obtain ⟨n, rfl, _⟩ := h
    rfl
  · obtain ⟨n, rfl, h1, h20, hq⟩ := h
    have hnn : n * n ≤ 20 * 20 := Nat.mul_le_mul h20 h20
    have nd := sc_counted.nd
    have hu1 := hu_of hr
    have hu64 := hr.units
    refine ss_cons ?_
    refine s_setM 1 ?_ nd
    refine em_tdisp1 (Nat.lt_of_succ_lt hu1) ?_
    refine ee_tup ?_
    refine ed_cons ?_
    refine ee_int ?_
    refine ed_cons ?_
    refine ee_int ?_
    refine ed_nil ?_
    refine ⟨Nat.le_of_ble_eq_true rfl, ?_⟩
    refine ee_int ?_
    refine ⟨[0, 0], rfl, ?_⟩
    refine ⟨Nat.le_of_ble_eq_true rfl, fun p_states => ?_⟩
    refine ss_frz 1 rfl ?_
    refine ss_cons ?_
    refine s_for ?_
    refine ei_rg2 T.z_range ?_
    refine ee_int ?_
    refine ee_bin ?_
    refine ee_var 0 rfl ?_
    refine ee_int ?_
    refine bo_add ?_
    refine ⟨_, _, rfl, rfl, ⟨by first | omega | (simp only [List.length_map, List.length_append, List.length_cons, List.length_nil, List.length_reverse, List.length_dropLast, List.length_take, List.length_drop, List.length_range, List.length_replicate, Sy.rgS_len, Sy.rgD_len, Ln.downs_len, Ln.upto_len]; omega) | decide | assumption, by first | omega | (simp only [List.length_map, List.length_append, List.length_cons, List.length_nil, List.length_reverse, List.length_dropLast, List.length_take, List.length_drop, List.length_range, List.length_replicate, Sy.rgS_len, Sy.rgD_len, Ln.downs_len, Ln.upto_len]; omega) | decide | assumption, by first | omega | (simp only [List.length_map, List.length_append, List.length_cons, List.length_nil, List.length_reverse, List.length_dropLast, List.length_take, List.length_drop, List.length_range, List.length_replicate, Sy.rgS_len, Sy.rgD_len, Ln.downs_len, Ln.upto_len]; omega) | decide | assumption, by first | omega | (simp only [List.length_map, List.length_append, List.length_cons, List.length_nil, List.length_reverse, List.length_dropLast, List.length_take, List.length_drop, List.length_range, List.length_replicate, Sy.rgS_len, Sy.rgD_len, Ln.downs_len, Ln.upto_len]; omega) | decide | assumption⟩, ?_⟩
    refine ⟨fun i e => ∃ (ts : Ln.Tb) (d2 d3 : Desc) (o4 o5 : Option D) (d6 d7 d8 d9 : Desc), Ln.TbOk n i ts ∧ e = [.dat (I (n : Nat)), .dat (.dti (ts.map tI)), d2, d3, sl o4, sl o5, d6, d7, d8, d9], ⟨[((0, 0), 1)], _, _, none, none, _, _, _, _, Ln.TbOk.first n, rfl⟩, fun _ _ _ => trivial, fun i d e hd hI => ?_, fun e hI => ?_⟩
    · obtain ⟨ts, d2, d3, o4, o5, d6, d7, d8, d9, hT, rfl⟩ := hI
      obtain ⟨hi, rfl⟩ := rgD_at hd
      have hin : i + 1 ≤ n := by omega
      have hts := Ln.tb_len hT.nd hT.bd h20 (by omega)
      refine eg_name 2 ?_ nd
      refine ss_cons ?_
      refine s_setM 3 ?_ nd
      refine em_tnew ?_
      refine ⟨Nat.le_of_ble_eq_true rfl, fun p_later => ?_⟩
      refine ss_cons ?_
      refine s_for ?_
      refine ei_dti ?_
      refine ee_var 1 rfl ?_
      refine ⟨_, rfl, ?_⟩
      rw [tI_keys]
      refine ⟨fun a e => ∃ (ls : Ln.Tb) (o4 o5 : Option D) (d6 d7 d8 d9 : Desc), (ls.map (·.1)).Nodup ∧ (∀ k, k ∈ ls.map (·.1) → k.1 + (i + 1) ≤ n ∧ k.2 ≤ (i + 1) * n) ∧ (∀ k, Ln.wv ls k = ((ts.take a).map fun x => Ln.con (n - i) x k).sum) ∧ e = [.dat (I (n : Nat)), .dat (.dti (ts.map tI)), .dat (I (1 + (i : Nat))), .mu p_later (.dT (ls.map tI)), sl o4, sl o5, d6, d7, d8, d9], ⟨[], o4, o5, _, _, _, _, List.Pairwise.nil, fun k hk => (nomatch hk), fun k => (by rw [List.take_zero]; rfl), rfl⟩, fun _ _ _ => trivial, fun a d e hd hA => ?_, fun e hA => ?_⟩
      · obtain ⟨ls, o4, o5, d6, d7, d8, d9, hln, hlb, hlv, rfl⟩ := hA
        rw [List.getElem?_map] at hd
        cases hx : ts[a]? with
        | none => rw [hx] at hd; cases hd
        | some x =>
        rw [hx] at hd
        have hd := Option.some.inj hd
        subst hd
        obtain ⟨⟨o, p⟩, v⟩ := x
        have hxm := List.mem_of_getElem? hx
        obtain ⟨hob, hpb⟩ := hT.bd (o, p) (List.mem_map.mpr ⟨_, hxm, rfl⟩)
        have hob : o + i ≤ n := hob
        have hpb : p ≤ i * n := hpb
        have htv : valTD (ts.map tI) [((o : Nat) : Int), ((p : Nat) : Int)] = some (I v) := by
          have e1 := tI_val (k := (o, p)) ts
          rw [Ln.tbv_mem hT.nd hxm] at e1
          exact e1
        have htk : ∀ k, ((ts.take (a + 1)).map fun x => Ln.con (n - i) x k).sum = ((ts.take a).map fun x => Ln.con (n - i) x k).sum + Ln.con (n - i) ((o, p), v) k := fun k => by
          rw [List.take_add_one, hx, List.map_append, List.sum_append]
          show _ + (_ + (0 : Int)) = _
          rw [Int.add_zero]
        refine eg_tup ?_
        refine egs_cons ?_
        refine eg_name 4 ?_ nd
        refine egs_cons ?_
        refine eg_name 5 ?_ nd
        refine egs_nil ?_
        refine ss_one ?_
        refine s_for ?_
        refine ei_rg1 T.z_range ?_
        refine ee_bin ?_
        refine ee_bin ?_
        refine ee_var 0 rfl ?_
        refine ee_var 2 rfl ?_
        refine bo_sub ?_
        refine ee_int ?_
        refine bo_add ?_
        refine ⟨_, rfl, by first | omega | (simp only [List.length_map, List.length_append, List.length_cons, List.length_nil, List.length_reverse, List.length_dropLast, List.length_take, List.length_drop, List.length_range, List.length_replicate, Sy.rgS_len, Sy.rgD_len, Ln.downs_len, Ln.upto_len]; omega) | decide | assumption, by first | omega | (simp only [List.length_map, List.length_append, List.length_cons, List.length_nil, List.length_reverse, List.length_dropLast, List.length_take, List.length_drop, List.length_range, List.length_replicate, Sy.rgS_len, Sy.rgD_len, Ln.downs_len, Ln.upto_len]; omega) | decide | assumption, ?_⟩
        refine ⟨fun j e => ∃ (ls' : Ln.Tb) (e6 e7 e8 e9 : Desc), (ls'.map (·.1)).Nodup ∧ (∀ k, k ∈ ls'.map (·.1) → k.1 + (i + 1) ≤ n ∧ k.2 ≤ (i + 1) * n) ∧ (∀ k, Ln.wv ls' k = ((ts.take a).map fun x => Ln.con (n - i) x k).sum + Ln.con j ((o, p), v) k) ∧ e = [.dat (I (n : Nat)), .dat (.dti (ts.map tI)), .dat (I (1 + (i : Nat))), .mu p_later (.dT (ls'.map tI)), .dat (I (o : Nat)), .dat (I (p : Nat)), e6, e7, e8, e9], ⟨ls, _, _, _, _, hln, hlb, fun k => (by rw [hlv k, Ln.con_zero, Int.add_zero]), rfl⟩, fun _ _ _ => trivial, fun j d e hd hJ => ?_, fun e hJ => ?_⟩
        · obtain ⟨ls', e6, e7, e8, e9, hln', hlb', hlv', rfl⟩ := hJ
          obtain ⟨hj, rfl⟩ := rgD_at hd
          have hjn : j + i + 1 ≤ n := by omega
          have hll := Ln.tb_len hln' hlb' h20 hin
          have hmul : (i + 1) * n = i * n + n := Nat.succ_mul i n
          have hlm : (ls'.map tI).length = ls'.length := List.length_map ..
          refine eg_name 6 ?_ nd
          refine ss_cons ?_
          refine s_set 7 ?_ nd
          refine ee_call (ok_step T) hr T.g_step T.F_step.kp T.b_step pass0 ?_
          refine ed_cons ?_
          refine ee_var 0 rfl ?_
          refine ed_cons ?_
          refine ee_var 2 rfl ?_
          refine ed_cons ?_
          refine ee_var 4 rfl ?_
          refine ed_cons ?_
          refine ee_var 6 rfl ?_
          refine ed_nil ?_
          refine ⟨(n : Nat), 1 + (i : Nat), (o : Nat), I (0 + (j : Nat)), rfl, rfl, ⟨_, rfl, ?_⟩⟩
          have es : stepD ((n : Nat) - (1 + (i : Nat))) (o : Nat) (I (0 + (j : Nat))) = oD (Ln.stepZ ((n : Nat) - (1 + (i : Nat))) (o : Nat) (0 + (j : Nat))) := rfl
          rw [es]
          refine ss_one ?_
          refine s_if ?_
          refine eb_cmp ?_
          refine ee_var 7 rfl ?_
          refine ee_non ?_
          refine co_notD ?_
          refine ⟨_, rfl, ?_⟩
          have eb : ∀ n : Option Int, isNonD (oD n) = decide (n = none) := fun n => by cases n <;> rfl
          rw [eb]
          have hrg : (0 : Int) ≤ 0 + (j : Nat) ∧ (0 : Int) + (j : Nat) ≤ (n : Nat) - (1 + (i : Nat)) := by omega
          cases hz : Ln.stepZ ((n : Nat) - (1 + (i : Nat))) (o : Nat) (0 + (j : Nat)) with
          | none =>
            refine ⟨fun h => (by simp at h), fun _ => ?_⟩
            refine ss_nil ?_
            refine ⟨ls', _, _, _, _, hln', hlb', fun k => ?_, rfl⟩
            unfold Ln.stepZ at hz
            rw [if_pos hrg] at hz
            rw [hlv' k, Ln.con_no]
            · by_cases hc : (0 : Int) < (o : Nat) ∧ (0 : Int) + (j : Nat) = 0
              · rw [if_pos hc] at hz; cases hz
              · rw [if_neg hc] at hz
                by_cases hc2 : ((o : Nat) : Int) ≤ 0 + (j : Nat)
                · rw [if_pos hc2] at hz; cases hz
                · omega
            · by_cases hc : (0 : Int) < (o : Nat) ∧ (0 : Int) + (j : Nat) = 0
              · rw [if_pos hc] at hz; cases hz
              · rw [if_neg hc] at hz
                by_cases hc2 : ((o : Nat) : Int) ≤ 0 + (j : Nat)
                · rw [if_pos hc2] at hz; cases hz
                · omega
          | some y =>
            refine ⟨fun _ => ?_, fun h => (by simp at h)⟩
            refine ss_cons ?_
            refine s_set 8 ?_ nd
            refine ee_if ?_
            refine eb_cmp ?_
            refine ee_var 7 rfl ?_
            refine ee_var 4 rfl ?_
            refine co_lt ?_
            refine ⟨_, rfl, ?_⟩
            unfold Ln.stepZ at hz
            rw [if_pos hrg] at hz
            refine ⟨fun hlt => ?_, fun hlt => ?_⟩
            · have hlt := of_decide_eq_true hlt
              have hA : ∃ o1 : Nat, o = o1 + 1 ∧ j = 0 ∧ y = (o1 : Nat) := by
                by_cases hc : (0 : Int) < (o : Nat) ∧ (0 : Int) + (j : Nat) = 0
                · rw [if_pos hc] at hz
                  have hz := Option.some.inj hz
                  exact ⟨o - 1, by omega, by omega, by omega⟩
                · rw [if_neg hc] at hz
                  by_cases hc2 : ((o : Nat) : Int) ≤ 0 + (j : Nat)
                  · rw [if_pos hc2] at hz
                    have hz := Option.some.inj hz
                    omega
                  · rw [if_neg hc2] at hz; cases hz
              obtain ⟨o1, rfl, rfl, rfl⟩ := hA
              have ep : ((p : Nat) : Int) + (0 + ((0 : Nat) : Int)) = ((p : Nat) : Int) := by omega
              refine ee_var 4 rfl ?_
              refine ss_cons ?_
              refine s_set 9 ?_ nd
              refine ee_tup ?_
              refine ed_cons ?_
              refine ee_var 7 rfl ?_
              refine ed_cons ?_
              refine ee_bin ?_
              refine ee_var 5 rfl ?_
              refine ee_var 6 rfl ?_
              refine bo_add ?_
              refine ed_nil ?_
              refine ⟨Nat.le_of_ble_eq_true rfl, ?_⟩
              refine ss_one ?_
              refine s_tput 3 hu1 rfl ?_
              refine ee_bin ?_
              refine ee_tget2X 3 hu1 rfl ?_
              refine ee_var 9 rfl ?_
              refine ee_int ?_
              rw [ep]
              refine ⟨ls'.map tI, [((o1 : Nat) : Int), ((p : Nat) : Int)], rfl, rfl, ?_⟩
              rw [tI_get (k := (o1, p))]
              refine ee_bin ?_
              refine ee_tget hu1 ?_
              refine ee_var 1 rfl ?_
              refine ee_tup ?_
              refine ed_cons ?_
              refine ee_var 4 rfl ?_
              refine ed_cons ?_
              refine ee_var 5 rfl ?_
              refine ed_nil ?_
              refine ⟨Nat.le_of_ble_eq_true rfl, ?_⟩
              refine ⟨ts.map tI, [((o1 + 1 : Nat) : Int), ((p : Nat) : Int)], I v, rfl, rfl, htv, ?_⟩
              refine ee_var 8 rfl ?_
              refine bo_mul (by first | exact .inr ⟨by omega, by omega⟩ | exact .inl ⟨by omega, by omega⟩) ?_
              refine bo_add ?_
              refine ⟨_, rfl, ?_⟩
              refine ee_var 9 rfl ?_
              refine ⟨ls'.map tI, [((o1 : Nat) : Int), ((p : Nat) : Int)], rfl, rfl, by omega, ?_⟩
              rw [tI_put (k := (o1, p))]
              refine ⟨Ln.tput ls' (o1, p) _, _, _, _, _, Ln.put_nodup hln', fun k hk => ?_, fun k => ?_, rfl⟩
              · rcases Ln.put_mem hk with h | rfl
                · exact hlb' k h
                · exact ⟨by show o1 + (i + 1) ≤ n; omega, by show p ≤ (i + 1) * n; omega⟩
              · rw [Ln.wv_put]
                show _ = _ + Ln.con 1 ((o1 + 1, p), v) k
                rw [Ln.con_back]
                have h3 := hlv' k
                rw [Ln.con_zero, Int.add_zero] at h3
                by_cases e : k = (o1, p)
                · subst e
                  rw [if_pos rfl, if_pos rfl, h3]
                  rfl
                · rw [if_neg e, if_neg e, h3, Int.add_zero]
            · have hlt := of_decide_eq_false hlt
              have hB : o ≤ j ∧ (0 < j ∨ o = 0) ∧ y = (j : Nat) := by
                by_cases hc : (0 : Int) < (o : Nat) ∧ (0 : Int) + (j : Nat) = 0
                · rw [if_pos hc] at hz
                  have hz := Option.some.inj hz
                  omega
                · rw [if_neg hc] at hz
                  by_cases hc2 : ((o : Nat) : Int) ≤ 0 + (j : Nat)
                  · rw [if_pos hc2] at hz
                    have hz := Option.some.inj hz
                    omega
                  · rw [if_neg hc2] at hz; cases hz
              obtain ⟨hoj, hj0, rfl⟩ := hB
              have ep : ((p : Nat) : Int) + (0 + ((j : Nat) : Int)) = (((p + j : Nat)) : Int) := by omega
              refine ee_int ?_
              refine ss_cons ?_
              refine s_set 9 ?_ nd
              refine ee_tup ?_
              refine ed_cons ?_
              refine ee_var 7 rfl ?_
              refine ed_cons ?_
              refine ee_bin ?_
              refine ee_var 5 rfl ?_
              refine ee_var 6 rfl ?_
              refine bo_add ?_
              refine ed_nil ?_
              refine ⟨Nat.le_of_ble_eq_true rfl, ?_⟩
              refine ss_one ?_
              refine s_tput 3 hu1 rfl ?_
              refine ee_bin ?_
              refine ee_tget2X 3 hu1 rfl ?_
              refine ee_var 9 rfl ?_
              refine ee_int ?_
              rw [ep]
              refine ⟨ls'.map tI, [((j : Nat) : Int), (((p + j : Nat)) : Int)], rfl, rfl, ?_⟩
              rw [tI_get (k := (j, p + j))]
              refine ee_bin ?_
              refine ee_tget hu1 ?_
              refine ee_var 1 rfl ?_
              refine ee_tup ?_
              refine ed_cons ?_
              refine ee_var 4 rfl ?_
              refine ed_cons ?_
              refine ee_var 5 rfl ?_
              refine ed_nil ?_
              refine ⟨Nat.le_of_ble_eq_true rfl, ?_⟩
              refine ⟨ts.map tI, [((o : Nat) : Int), ((p : Nat) : Int)], I v, rfl, rfl, htv, ?_⟩
              refine ee_var 8 rfl ?_
              refine bo_mul (by first | exact .inr ⟨by omega, by omega⟩ | exact .inl ⟨by omega, by omega⟩) ?_
              refine bo_add ?_
              refine ⟨_, rfl, ?_⟩
              refine ee_var 9 rfl ?_
              refine ⟨ls'.map tI, [((j : Nat) : Int), (((p + j : Nat)) : Int)], rfl, rfl, by omega, ?_⟩
              rw [tI_put (k := (j, p + j))]
              refine ⟨Ln.tput ls' (j, p + j) _, _, _, _, _, Ln.put_nodup hln', fun k hk => ?_, fun k => ?_, rfl⟩
              · rcases Ln.put_mem hk with h | rfl
                · exact hlb' k h
                · exact ⟨by show j + (i + 1) ≤ n; omega, by show p + j ≤ (i + 1) * n; omega⟩
              · rw [Ln.wv_put]
                rw [Ln.con_on hoj hj0]
                have h3 := hlv' k
                by_cases e : k = (j, p + j)
                · subst e
                  rw [if_pos rfl, if_pos rfl, h3, Int.mul_one]
                  omega
                · rw [if_neg e, if_neg e, h3]
                  omega
        · obtain ⟨ls', e6, e7, e8, e9, hln', hlb', hlv', rfl⟩ := hJ
          rw [rgD_len] at hlv'
          have hM : (((n : Nat) : Int) - (1 + (i : Nat)) + 1 - 0).toNat = n - i := by omega
          rw [hM] at hlv'
          exact ⟨ls', some _, some _, _, _, _, _, hln', hlb', fun k => (by rw [hlv' k, htk k]), rfl⟩
      · obtain ⟨ls, o4, o5, d6, d7, d8, d9, hln, hlb, hlv, rfl⟩ := hA
        rw [List.length_map, List.take_length] at hlv
        refine ss_frz 3 rfl ?_
        refine ss_one ?_
        refine s_set 1 ?_ nd
        refine ee_var 3 rfl ?_
        exact ⟨ls, _, _, o4, o5, _, _, _, _, hT.next hin hln hlb hlv, rfl⟩
    · obtain ⟨ts, d2, d3, o4, o5, d6, d7, d8, d9, hT, rfl⟩ := hI
      have hM : (((n : Nat) : Int) + 1 - 1).toNat = n := by omega
      rw [rgD_len, hM] at hT
      have hts := Ln.tb_len hT.nd hT.bd h20 (Nat.le_refl _)
      have hz0 : ∀ x, x ∈ ts → x.1.1 = 0 := fun x hx => by
        have := (hT.bd x.1 (List.mem_map.mpr ⟨x, hx, rfl⟩)).1
        omega
      refine ss_one ?_
      refine s_retM ?_
      refine em_dictL T.z_dict ?_
      refine ee_new ?_
      refine em_lcA (own := [("outside", 4), ("points", 5)]) (blkOk_by (show blkC n_counted (defScope s_counted) _ _ = true by decide +kernel)) nd ?_
      refine ei_dti ?_
      refine ee_var 1 rfl ?_
      refine ⟨_, rfl, ?_⟩
      refine ⟨noMu_of (by cases o4 <;> cases o5 <;> rfl), trivial, _, ts, fun x => D.tup [I ((x.1.1 : Nat) : Int), I ((x.1.2 : Nat) : Int)], fun x => some (D.tup [I ((x.1.2 : Nat) : Int), I x.2]), tI_keys ts, by omega, fun x hx => ?_, ?_⟩
      · have htv : valTD (ts.map tI) [((x.1.1 : Nat) : Int), ((x.1.2 : Nat) : Int)] = some (I x.2) := by
          rw [tI_val (k := x.1), Ln.tbv_mem hT.nd hx]
          rfl
        refine egb_two 4 5 (by decide) (by decide) (by intro _ _ h; cases h) (by intro _ _ h; cases h) (by decide) ?_ (.inl rfl) fun _ _ _ _ _ => pg_tup rfl (pgs_cons (pg_name (i := 4) nd rfl (by first | exact .inl rfl | exact .inr rfl)) (pgs_cons (pg_name (i := 5) nd rfl (by first | exact .inl rfl | exact .inr rfl)) pgs_nil))
        refine ebb_nil ?_
        refine ⟨fun _ => ?_, fun h => nomatch h⟩
        refine eeb fun s0 H0 C cl fp => ?_
        refine ee_tup ?_
        refine ed_cons ?_
        refine ee_var 5 rfl ?_
        refine ed_cons ?_
        refine ee_tget hu1 ?_
        refine ee_var 1 rfl ?_
        refine ee_tup ?_
        refine ed_cons ?_
        refine ee_var 4 rfl ?_
        refine ed_cons ?_
        refine ee_var 5 rfl ?_
        refine ed_nil ?_
        refine ⟨Nat.le_of_ble_eq_true rfl, ?_⟩
        refine ⟨ts.map tI, [((x.1.1 : Nat) : Int), ((x.1.2 : Nat) : Int)], I x.2, rfl, rfl, htv, ?_⟩
        refine ed_nil ?_
        refine ⟨Nat.le_of_ble_eq_true rfl, ?_⟩
        exact ⟨rfl, noMu_of rfl, rfl⟩
      rw [fm_some]
      refine ⟨ts.map tZ, by rw [List.map_map]; rfl, ?_⟩
      rw [tZ_merge hT.nd hz0]
      refine hq _ fun a => ?_
      rw [tZ_val hz0]
      have e := hT.val (0, a)
      unfold Ln.wv at e
      cases h : Ln.tbv ts (0, a) with
      | none => rw [h] at e; exact congrArg I e
      | some y => rw [h] at e; exact congrArg I e

def fReqNum : FSp := fun ds q => ∃ (d : D) (lo hi : Int), ds = [d, I lo, I hi] ∧ okD d = true ∧ intIn d lo hi = true ∧ q (.d Nn)
abbrev n_require_number : List Str := ["value", "low", "high"]
theorem sc_require_number : FnScope n_require_number ["value", "low", "high"] (defScope s_require_number) := ⟨rfl, rfl, rfl, by decide +kernel, rfl, by decide +kernel, by decide +kernel⟩
theorem ok_require_number (T : Top K mg) : FnOk P w K mg base CX0 (k + 2) T.f_require_number T.fd_require_number ["value", "low", "high"] (spF K fReqNum) := by
  refine fn_F (N := n_require_number) T.F_require_number sc_require_number (fun ds q h => ?_) (fun cdv A outer s H E hr ds q h => ?_)
  · obtain ⟨d, lo, hi, rfl, _⟩ := h
    rfl
  · obtain ⟨d, lo, hi, rfl, hok, hin, hq⟩ := h
    have nd := sc_require_number.nd
    have hu1 := hu_of hr
    have hu64 := hr.units
    refine ss_one ?_
    refine s_if ?_
    refine eb_not ?_
    refine eb_val ?_
    refine ee_call (ok_is_integer T) hr T.g_is_integer T.F_is_integer.kp T.b_is_integer pass0 ?_
    refine ed_cons ?_
    refine ee_var 0 rfl ?_
    refine ed_cons ?_
    refine ee_var 1 rfl ?_
    refine ed_cons ?_
    refine ee_var 2 rfl ?_
    refine ed_nil ?_
    refine ⟨_, _, _, rfl, hok, ⟨_, rfl, ?_⟩⟩
    rw [hin]
    refine ⟨_, rfl, ?_⟩
    refine ⟨fun h => (nomatch h), fun _ => ?_⟩
    refine ss_nil ?_
    exact hq
def fXReqNum (C : Addr) : FSx := fun ds qx => ∃ (d : D) (lo hi : Int), ds = [d, I lo, I hi] ∧ okD d = true ∧ intIn d lo hi = false ∧ qx (.ref C)
theorem okx_require_number (T : Top K mg) : FnOk P w K mg base (L2N.CX P w) (k + 2) T.f_require_number T.fd_require_number ["value", "low", "high"] (spX K (fXReqNum T.C_InvalidNumber)) := by
  refine fn_X (N := n_require_number) T.F_require_number sc_require_number (fun ds q h => ?_) (fun cdv A outer s H E hr W tk ds q h => ?_)
  · obtain ⟨d, lo, hi, rfl, _⟩ := h
    rfl
  · obtain ⟨d, lo, hi, rfl, hok, hin, hq⟩ := h
    have nd := sc_require_number.nd
    have hu1 := hu_of hr
    have hu64 := hr.units
    refine sx_one ?_
    refine sx_if ?_
    refine eb_not ?_
    refine eb_val ?_
    refine ee_call (ok_is_integer T) hr T.g_is_integer T.F_is_integer.kp T.b_is_integer pass0 ?_
    refine ed_cons ?_
    refine ee_var 0 rfl ?_
    refine ed_cons ?_
    refine ee_var 1 rfl ?_
    refine ed_cons ?_
    refine ee_var 2 rfl ?_
    refine ed_nil ?_
    refine ⟨_, _, _, rfl, hok, ⟨_, rfl, ?_⟩⟩
    rw [hin]
    refine ⟨_, rfl, ?_⟩
    refine ⟨fun _ => ?_, fun h => nomatch h⟩
    refine sx_one ?_
    refine sx_raise T.e_InvalidNumber.t T.g_InvalidNumber tk ?_
    exact hq
def fGreatest : FSp := fun ds q => ∃ n : Nat, ds = [I (n : Nat)] ∧ 1 ≤ n ∧ n ≤ 20 ∧ q (.d (I ((n * n / 4 : Nat) : Int)))
abbrev n_greatest_total : List Str := ["size"]
theorem sc_greatest_total : FnScope n_greatest_total ["size"] (defScope s_greatest_total) := ⟨rfl, rfl, rfl, by decide +kernel, rfl, by decide +kernel, by decide +kernel⟩
theorem ok_greatest_total (T : Top K mg) : FnOk P w K mg base CX0 (k + 3) T.f_greatest_total T.fd_greatest_total ["size"] (spF K fGreatest) := by
  refine fn_F (N := n_greatest_total) T.F_greatest_total sc_greatest_total (fun ds q h => ?_) (fun cdv A outer s H E hr ds q h => ?_)
  · obtain ⟨n, rfl, _⟩ := h
    rfl
  · obtain ⟨n, rfl, h1, h20, hq⟩ := h
    have nd := sc_greatest_total.nd
    have hu1 := hu_of hr
    have hu64 := hr.units
    refine ss_cons ?_
    refine s_expr ?_
    refine ee_call (ok_require_number T) hr T.g_require_number T.F_require_number.kp T.b_require_number pass0 ?_
    refine ed_cons ?_
    refine ee_var 0 rfl ?_
    refine ed_cons ?_
    refine ee_int ?_
    refine ed_cons ?_
    refine ee_glob (v := .int 20) T.c_MAX_SIZE ⟨_, rfl⟩ ?_
    refine ed_nil ?_
    refine ⟨_, _, _, rfl, rfl, intIn_I (by omega) (by omega), ⟨_, rfl, ?_⟩⟩
    refine ss_one ?_
    refine s_ret ?_
    refine ee_bin ?_
    refine ee_bin ?_
    refine ee_var 0 rfl ?_
    refine ee_var 0 rfl ?_
    refine bo_mul (by first | exact .inr ⟨by omega, by omega⟩ | exact .inl ⟨by omega, by omega⟩) ?_
    refine ee_int ?_
    refine bo_fdiv ⟨by first | omega | (simp only [List.length_map, List.length_append, List.length_cons, List.length_nil, List.length_reverse, List.length_dropLast, List.length_take, List.length_drop, List.length_range, List.length_replicate, Sy.rgS_len, Sy.rgD_len, Ln.downs_len, Ln.upto_len]; omega) | decide | assumption, by first | omega | (simp only [List.length_map, List.length_append, List.length_cons, List.length_nil, List.length_reverse, List.length_dropLast, List.length_take, List.length_drop, List.length_range, List.length_replicate, Sy.rgS_len, Sy.rgD_len, Ln.downs_len, Ln.upto_len]; omega) | decide | assumption⟩ ?_
    exact hq
def fXGreatest (C : Addr) : FSx := fun ds qx => ∃ d : D, ds = [d] ∧ okD d = true ∧ intIn d 1 20 = false ∧ qx (.ref C)
theorem okx_greatest_total (T : Top K mg) : FnOk P w K mg base (L2N.CX P w) (k + 3) T.f_greatest_total T.fd_greatest_total ["size"] (spX K (fXGreatest T.C_InvalidNumber)) := by
  refine fn_X (N := n_greatest_total) T.F_greatest_total sc_greatest_total (fun ds q h => ?_) (fun cdv A outer s H E hr W tk ds q h => ?_)
  · obtain ⟨d, rfl, _⟩ := h
    rfl
  · obtain ⟨d, rfl, hok, hin, hq⟩ := h
    have nd := sc_greatest_total.nd
    have hu1 := hu_of hr
    have hu64 := hr.units
    refine sx_one ?_
    refine sx_call (okx_require_number T) hr T.g_require_number T.F_require_number.kp T.b_require_number tk ?_
    refine ed_cons ?_
    refine ee_var 0 rfl ?_
    refine ed_cons ?_
    refine ee_int ?_
    refine ed_cons ?_
    refine ee_glob (v := .int 20) T.c_MAX_SIZE ⟨_, rfl⟩ ?_
    refine ed_nil ?_
    exact ⟨_, _, _, rfl, hok, hin, hq⟩
def fCountT : FSp := fun ds q => ∃ n a : Nat, ds = [I (n : Nat), I (a : Nat)] ∧ 1 ≤ n ∧ n ≤ 20 ∧ a ≤ 1000 ∧ q (.d (I (Ln.cf (Ln.pl n n) 0 a : Nat)))
abbrev n_count_by_total : List Str := ["size", "number"]
theorem sc_count_by_total : FnScope n_count_by_total ["size", "number"] (defScope s_count_by_total) := ⟨rfl, rfl, rfl, by decide +kernel, rfl, by decide +kernel, by decide +kernel⟩
theorem ok_count_by_total (T : Top K mg) : FnOk P w K mg base CX0 (k + 4) T.f_count_by_total T.fd_count_by_total ["size", "number"] (spF K fCountT) := by
  refine fn_F (N := n_count_by_total) T.F_count_by_total sc_count_by_total (fun ds q h => ?_) (fun cdv A outer s H E hr ds q h => ?_)
  · obtain ⟨n, a, rfl, _⟩ := h
    rfl
  · obtain ⟨n, a, rfl, h1, h20, ha, hq⟩ := h
    have nd := sc_count_by_total.nd
    have hu1 := hu_of hr
    have hu64 := hr.units
    refine ss_cons ?_
    refine s_expr ?_
    refine ee_call (ok_require_number T) hr T.g_require_number T.F_require_number.kp T.b_require_number pass0 ?_
    refine ed_cons ?_
    refine ee_var 0 rfl ?_
    refine ed_cons ?_
    refine ee_int ?_
    refine ed_cons ?_
    refine ee_glob (v := .int 20) T.c_MAX_SIZE ⟨_, rfl⟩ ?_
    refine ed_nil ?_
    refine ⟨_, _, _, rfl, rfl, intIn_I (by omega) (by omega), ⟨_, rfl, ?_⟩⟩
    refine ss_cons ?_
    refine s_expr ?_
    refine ee_call (ok_require_number T) hr T.g_require_number T.F_require_number.kp T.b_require_number pass0 ?_
    refine ed_cons ?_
    refine ee_var 1 rfl ?_
    refine ed_cons ?_
    refine ee_int ?_
    refine ed_cons ?_
    refine ee_glob (v := .int 10000000000000000000000000000000000000000) T.c_MOST ⟨_, rfl⟩ ?_
    refine ed_nil ?_
    refine ⟨_, _, _, rfl, rfl, intIn_I (by omega) (by omega), ⟨_, rfl, ?_⟩⟩
    refine ss_one ?_
    refine s_ret ?_
    refine ee_dget2 hu1 ?_
    refine ee_new ?_
    refine em_call (ok_counted T) hr T.g_counted T.F_counted.kp T.b_counted pass0 ?_
    refine ed_cons ?_
    refine ee_var 0 rfl ?_
    refine ed_nil ?_
    refine ⟨n, rfl, h1, h20, fun kvs hk => ⟨_, rfl, ?_⟩⟩
    refine ⟨_, rfl, ?_⟩
    refine ee_var 1 rfl ?_
    refine ee_int ?_
    refine ⟨.inl (a : Nat), rfl, ?_⟩
    rw [hk]
    exact hq
def fXCountT (C : Addr) : FSx := fun ds qx => ∃ d d2 : D, ds = [d, d2] ∧ okD d = true ∧ okD d2 = true ∧ (intIn d 1 20 = false ∨ (intIn d 1 20 = true ∧ intIn d2 0 10000000000000000000000000000000000000000 = false)) ∧ qx (.ref C)
theorem okx_count_by_total (T : Top K mg) : FnOk P w K mg base (L2N.CX P w) (k + 4) T.f_count_by_total T.fd_count_by_total ["size", "number"] (spX K (fXCountT T.C_InvalidNumber)) := by
  refine fn_X (N := n_count_by_total) T.F_count_by_total sc_count_by_total (fun ds q h => ?_) (fun cdv A outer s H E hr W tk ds q h => ?_)
  · obtain ⟨d, d2, rfl, _⟩ := h
    rfl
  · obtain ⟨d, d2, rfl, hok, hok2, h, hq⟩ := h
    have nd := sc_count_by_total.nd
    have hu1 := hu_of hr
    have hu64 := hr.units
    rcases h with hin | ⟨hin, hin2⟩
    · refine sx_one ?_
      refine sx_call (okx_require_number T) hr T.g_require_number T.F_require_number.kp T.b_require_number tk ?_
      refine ed_cons ?_
      refine ee_var 0 rfl ?_
      refine ed_cons ?_
      refine ee_int ?_
      refine ed_cons ?_
      refine ee_glob (v := .int 20) T.c_MAX_SIZE ⟨_, rfl⟩ ?_
      refine ed_nil ?_
      exact ⟨_, _, _, rfl, hok, hin, hq⟩
    · refine sx_cons ?_
      refine s_expr ?_
      refine ee_call (ok_require_number T) hr T.g_require_number T.F_require_number.kp T.b_require_number pass0 ?_
      refine ed_cons ?_
      refine ee_var 0 rfl ?_
      refine ed_cons ?_
      refine ee_int ?_
      refine ed_cons ?_
      refine ee_glob (v := .int 20) T.c_MAX_SIZE ⟨_, rfl⟩ ?_
      refine ed_nil ?_
      refine ⟨_, _, _, rfl, hok, hin, ⟨_, rfl, ?_⟩⟩
      refine sx_one ?_
      refine sx_call (okx_require_number T) hr T.g_require_number T.F_require_number.kp T.b_require_number tk ?_
      refine ed_cons ?_
      refine ee_var 1 rfl ?_
      refine ed_cons ?_
      refine ee_int ?_
      refine ed_cons ?_
      refine ee_glob (v := .int 10000000000000000000000000000000000000000) T.c_MOST ⟨_, rfl⟩ ?_
      refine ed_nil ?_
      exact ⟨_, _, _, rfl, hok2, hin2, hq⟩

theorem rep_map (m : Nat) (x : Int) : (List.replicate m (I x)) = (List.replicate m x).map I := List.map_replicate.symm
def fOrderW : FSp := fun ds q => ∃ n a : Nat, ds = [I (n : Nat), I (a : Nat)] ∧ 1 ≤ n ∧ n ≤ 14 ∧ a ≤ n * n / 4 ∧ ∀ L : List Int, Ln.Ord L → L.length = n → (Ln.row .srt L).sum = (a : Nat) → q (.d (.tup (L.map I)))
abbrev n_order_with : List Str := ["size", "number", "many", "rest", "row"]
theorem sc_order_with : FnScope n_order_with ["size", "number"] (defScope s_order_with) := ⟨rfl, rfl, rfl, by decide +kernel, rfl, by decide +kernel, by decide +kernel⟩
theorem ok_order_with (T : Top K mg) : FnOk P w K mg base CX0 (k + 4) T.f_order_with T.fd_order_with ["size", "number"] (spF K fOrderW) := by
  refine fn_F (N := n_order_with) T.F_order_with sc_order_with (fun ds q h => ?_) (fun cdv A outer s H E hr ds q h => ?_)
  · obtain ⟨n, a, rfl, _⟩ := h
    rfl
  · obtain ⟨n, a, rfl, h1, h14, ha, hq⟩ := h
    obtain ⟨f1, f2, f3⟩ := Ln.F4 n (by omega) (by omega) a (by omega)
    have nd := sc_order_with.nd
    have hu1 := hu_of hr
    have hu64 := hr.units
    refine ss_cons ?_
    refine s_expr ?_
    refine ee_call (ok_require_number T) hr T.g_require_number T.F_require_number.kp T.b_require_number pass0 ?_
    refine ed_cons ?_
    refine ee_var 0 rfl ?_
    refine ed_cons ?_
    refine ee_int ?_
    refine ed_cons ?_
    refine ee_glob (v := .int 20) T.c_MAX_SIZE ⟨_, rfl⟩ ?_
    refine ed_nil ?_
    refine ⟨_, _, _, rfl, rfl, intIn_I (by omega) (by omega), ⟨_, rfl, ?_⟩⟩
    refine ss_cons ?_
    refine s_expr ?_
    refine ee_call (ok_require_number T) hr T.g_require_number T.F_require_number.kp T.b_require_number pass0 ?_
    refine ed_cons ?_
    refine ee_var 1 rfl ?_
    refine ed_cons ?_
    refine ee_int ?_
    refine ed_cons ?_
    refine ee_bin ?_
    refine ee_bin ?_
    refine ee_var 0 rfl ?_
    refine ee_var 0 rfl ?_
    refine bo_mul (by first | exact .inr ⟨by omega, by omega⟩ | exact .inl ⟨by omega, by omega⟩) ?_
    refine ee_int ?_
    refine bo_fdiv ⟨by first | omega | (simp only [List.length_map, List.length_append, List.length_cons, List.length_nil, List.length_reverse, List.length_dropLast, List.length_take, List.length_drop, List.length_range, List.length_replicate, Sy.rgS_len, Sy.rgD_len, Ln.downs_len, Ln.upto_len]; omega) | decide | assumption, by first | omega | (simp only [List.length_map, List.length_append, List.length_cons, List.length_nil, List.length_reverse, List.length_dropLast, List.length_take, List.length_drop, List.length_range, List.length_replicate, Sy.rgS_len, Sy.rgD_len, Ln.downs_len, Ln.upto_len]; omega) | decide | assumption⟩ ?_
    refine ed_nil ?_
    refine ⟨_, _, _, rfl, rfl, intIn_I (by omega) (by omega), ⟨_, rfl, ?_⟩⟩
    refine ss_cons ?_
    refine s_set 2 ?_ nd
    refine ee_max2 T.z_max ?_
    refine ed_cons ?_
    refine ee_int ?_
    refine ed_cons ?_
    refine ee_bin ?_
    refine ee_var 0 rfl ?_
    refine ee_int ?_
    refine bo_fdiv ⟨by first | omega | (simp only [List.length_map, List.length_append, List.length_cons, List.length_nil, List.length_reverse, List.length_dropLast, List.length_take, List.length_drop, List.length_range, List.length_replicate, Sy.rgS_len, Sy.rgD_len, Ln.downs_len, Ln.upto_len]; omega) | decide | assumption, by first | omega | (simp only [List.length_map, List.length_append, List.length_cons, List.length_nil, List.length_reverse, List.length_dropLast, List.length_take, List.length_drop, List.length_range, List.length_replicate, Sy.rgS_len, Sy.rgD_len, Ln.downs_len, Ln.upto_len]; omega) | decide | assumption⟩ ?_
    refine ed_nil ?_
    refine ⟨_, _, rfl, ?_⟩
    refine ss_cons ?_
    refine s_set 3 ?_ nd
    refine ee_bin ?_
    refine ee_var 1 rfl ?_
    refine ee_var 2 rfl ?_
    refine bo_mod (by first | omega | (simp only [List.length_map, List.length_append, List.length_cons, List.length_nil, List.length_reverse, List.length_dropLast, List.length_take, List.length_drop, List.length_range, List.length_replicate, Sy.rgS_len, Sy.rgD_len, Ln.downs_len, Ln.upto_len]; omega) | decide | assumption) ?_
    refine ss_cons ?_
    refine s_set 4 ?_ nd
    refine ee_bin ?_
    refine ee_bin ?_
    refine ee_bin ?_
    refine ee_tup ?_
    refine ed_cons ?_
    refine ee_bin ?_
    refine ee_var 1 rfl ?_
    refine ee_var 2 rfl ?_
    refine bo_fdiv ⟨by first | omega | (simp only [List.length_map, List.length_append, List.length_cons, List.length_nil, List.length_reverse, List.length_dropLast, List.length_take, List.length_drop, List.length_range, List.length_replicate, Sy.rgS_len, Sy.rgD_len, Ln.downs_len, Ln.upto_len]; omega) | decide | assumption, by first | omega | (simp only [List.length_map, List.length_append, List.length_cons, List.length_nil, List.length_reverse, List.length_dropLast, List.length_take, List.length_drop, List.length_range, List.length_replicate, Sy.rgS_len, Sy.rgD_len, Ln.downs_len, Ln.upto_len]; omega) | decide | assumption⟩ ?_
    refine ed_nil ?_
    refine ⟨Nat.le_of_ble_eq_true rfl, ?_⟩
    refine ee_bin ?_
    refine ee_var 2 rfl ?_
    refine ee_var 3 rfl ?_
    refine bo_sub ?_
    obtain ⟨M, eM⟩ : ∃ M : Nat, M = max 1 (n / 2) := ⟨_, rfl⟩
    have hM : (if (((n : Nat) : Int) / 2) > 1 then (((n : Nat) : Int) / 2) else 1) = ((M : Nat) : Int) := by split <;> omega
    have hM1 : 1 ≤ M ∧ M ≤ n := by omega
    have hdv : ((a : Nat) : Int) / ((M : Nat) : Int) = ((a / M : Nat) : Int) := (Int.natCast_ediv a M).symm
    have hmd : ((a : Nat) : Int) % ((M : Nat) : Int) = ((a % M : Nat) : Int) := (Int.natCast_emod a M).symm
    have hlt : a % M < M := Nat.mod_lt _ (by omega)
    rw [hM, hdv, hmd]
    refine bo_repA (List.cons_ne_nil _ _) (by omega) (by omega) (Nat.le_of_ble_eq_true rfl) ?_
    rw [List.flatten_replicate_singleton]
    refine ee_bin ?_
    refine ee_tup ?_
    refine ed_cons ?_
    refine ee_bin ?_
    refine ee_bin ?_
    refine ee_var 1 rfl ?_
    refine ee_var 2 rfl ?_
    refine bo_fdiv ⟨by first | omega | (simp only [List.length_map, List.length_append, List.length_cons, List.length_nil, List.length_reverse, List.length_dropLast, List.length_take, List.length_drop, List.length_range, List.length_replicate, Sy.rgS_len, Sy.rgD_len, Ln.downs_len, Ln.upto_len]; omega) | decide | assumption, by first | omega | (simp only [List.length_map, List.length_append, List.length_cons, List.length_nil, List.length_reverse, List.length_dropLast, List.length_take, List.length_drop, List.length_range, List.length_replicate, Sy.rgS_len, Sy.rgD_len, Ln.downs_len, Ln.upto_len]; omega) | decide | assumption⟩ ?_
    refine ee_int ?_
    refine bo_add ?_
    refine ed_nil ?_
    refine ⟨Nat.le_of_ble_eq_true rfl, ?_⟩
    refine ee_var 3 rfl ?_
    rw [hdv]
    refine bo_repA (List.cons_ne_nil _ _) (by omega) (by omega) (Nat.le_of_ble_eq_true rfl) ?_
    rw [List.flatten_replicate_singleton]
    refine bo_cat (by first | omega | (simp only [List.length_map, List.length_append, List.length_cons, List.length_nil, List.length_reverse, List.length_dropLast, List.length_take, List.length_drop, List.length_range, List.length_replicate, Sy.rgS_len, Sy.rgD_len, Ln.downs_len, Ln.upto_len]; omega) | decide | assumption) ?_
    refine ee_bin ?_
    refine ee_tup ?_
    refine ed_cons ?_
    refine ee_int ?_
    refine ed_nil ?_
    refine ⟨Nat.le_of_ble_eq_true rfl, ?_⟩
    refine ee_bin ?_
    refine ee_var 0 rfl ?_
    refine ee_var 2 rfl ?_
    refine bo_sub ?_
    refine bo_repA (List.cons_ne_nil _ _) (by omega) (by omega) (Nat.le_of_ble_eq_true rfl) ?_
    rw [List.flatten_replicate_singleton]
    refine bo_cat (by first | omega | (simp only [List.length_map, List.length_append, List.length_cons, List.length_nil, List.length_reverse, List.length_dropLast, List.length_take, List.length_drop, List.length_range, List.length_replicate, Sy.rgS_len, Sy.rgD_len, Ln.downs_len, Ln.upto_len]; omega) | decide | assumption) ?_
    refine ss_one ?_
    refine s_ret ?_
    refine ee_call (ok_order_number T) hr T.g_order_number T.F_order_number.kp T.b_order_number pass0 ?_
    refine ed_cons ?_
    refine ee_var 4 rfl ?_
    refine ed_cons ?_
    refine ee_int ?_
    refine ed_nil ?_
    have hrow : List.replicate (((M : Nat) : Int) - ((a % M : Nat) : Int)).toNat (I ((a / M : Nat) : Int)) ++ List.replicate ((a % M : Nat) : Int).toNat (I (((a / M : Nat) : Int) + 1)) ++ List.replicate (((n : Nat) : Int) - ((M : Nat) : Int)).toNat (I 0) = (Ln.rowW n a).map I := by
      unfold Ln.rowW
      rw [← eM, List.map_append, List.map_append, List.map_replicate, List.map_replicate, List.map_replicate, show (((M : Nat) : Int) - ((a % M : Nat) : Int)).toNat = M - a % M from by omega, show (((a % M : Nat) : Int)).toNat = a % M from by omega, show (((n : Nat) : Int) - ((M : Nat) : Int)).toNat = n - M from by omega]
    rw [hrow]
    refine ⟨Ln.rowW n a, rfl, by omega, by omega, f2, fun L hO hl hr => ⟨_, rfl, ?_⟩⟩
    exact hq L hO (by omega) (by rw [hr]; exact f3)
def fXOrderW (C : Addr) : FSx := fun ds qx => ∃ d d2 : D, ds = [d, d2] ∧ okD d = true ∧ okD d2 = true ∧ (intIn d 1 20 = false ∨ ∃ n : Nat, d = I (n : Nat) ∧ 1 ≤ n ∧ n ≤ 20 ∧ intIn d2 0 ((n * n / 4 : Nat) : Int) = false) ∧ qx (.ref C)
theorem okx_order_with (T : Top K mg) : FnOk P w K mg base (L2N.CX P w) (k + 4) T.f_order_with T.fd_order_with ["size", "number"] (spX K (fXOrderW T.C_InvalidNumber)) := by
  refine fn_X (N := n_order_with) T.F_order_with sc_order_with (fun ds q h => ?_) (fun cdv A outer s H E hr W tk ds q h => ?_)
  · obtain ⟨d, d2, rfl, _⟩ := h
    rfl
  · obtain ⟨d, d2, rfl, hok, hok2, h, hq⟩ := h
    have nd := sc_order_with.nd
    have hu1 := hu_of hr
    have hu64 := hr.units
    rcases h with hin | ⟨n, rfl, h1, h20, hin2⟩
    · refine sx_one ?_
      refine sx_call (okx_require_number T) hr T.g_require_number T.F_require_number.kp T.b_require_number tk ?_
      refine ed_cons ?_
      refine ee_var 0 rfl ?_
      refine ed_cons ?_
      refine ee_int ?_
      refine ed_cons ?_
      refine ee_glob (v := .int 20) T.c_MAX_SIZE ⟨_, rfl⟩ ?_
      refine ed_nil ?_
      exact ⟨_, _, _, rfl, hok, hin, hq⟩
    · have hmn : ((n : Nat) : Int) * ((n : Nat) : Int) / 4 = ((n * n / 4 : Nat) : Int) := by rw [← Int.natCast_mul]; omega
      refine sx_cons ?_
      refine s_expr ?_
      refine ee_call (ok_require_number T) hr T.g_require_number T.F_require_number.kp T.b_require_number pass0 ?_
      refine ed_cons ?_
      refine ee_var 0 rfl ?_
      refine ed_cons ?_
      refine ee_int ?_
      refine ed_cons ?_
      refine ee_glob (v := .int 20) T.c_MAX_SIZE ⟨_, rfl⟩ ?_
      refine ed_nil ?_
      refine ⟨_, _, _, rfl, rfl, intIn_I (by omega) (by omega), ⟨_, rfl, ?_⟩⟩
      refine sx_one ?_
      refine sx_call (okx_require_number T) hr T.g_require_number T.F_require_number.kp T.b_require_number tk ?_
      refine ed_cons ?_
      refine ee_var 1 rfl ?_
      refine ed_cons ?_
      refine ee_int ?_
      refine ed_cons ?_
      refine ee_bin ?_
      refine ee_bin ?_
      refine ee_var 0 rfl ?_
      refine ee_var 0 rfl ?_
      refine bo_mul (by first | exact .inr ⟨by omega, by omega⟩ | exact .inl ⟨by omega, by omega⟩) ?_
      refine ee_int ?_
      refine bo_fdiv ⟨by first | omega | (simp only [List.length_map, List.length_append, List.length_cons, List.length_nil, List.length_reverse, List.length_dropLast, List.length_take, List.length_drop, List.length_range, List.length_replicate, Sy.rgS_len, Sy.rgD_len, Ln.downs_len, Ln.upto_len]; omega) | decide | assumption, by first | omega | (simp only [List.length_map, List.length_append, List.length_cons, List.length_nil, List.length_reverse, List.length_dropLast, List.length_take, List.length_drop, List.length_range, List.length_replicate, Sy.rgS_len, Sy.rgD_len, Ln.downs_len, Ln.upto_len]; omega) | decide | assumption⟩ ?_
      refine ed_nil ?_
      rw [hmn]
      exact ⟨_, _, _, rfl, hok2, hin2, hq⟩

def fOutcome : FSp := fun ds q => ∃ (c : Int) (d d2 : D), ds = [I c, d, d2] ∧ okD d = true ∧ okD d2 = true ∧ 0 ≤ c ∧ c ≤ 2 ∧ (intIn d 1 20 = false ∨ (c = 1 ∧ intIn d 1 20 = true ∧ intIn d2 0 10000000000000000000000000000000000000000 = false) ∨ (c = 2 ∧ ∃ n : Nat, d = I (n : Nat) ∧ 1 ≤ n ∧ n ≤ 20 ∧ intIn d2 0 ((n * n / 4 : Nat) : Int) = false)) ∧ q (.d (S_ "number"))
abbrev n__law_outcome : List Str := ["call", "size", "amount", "e"]
theorem sc__law_outcome : FnScope n__law_outcome ["call", "size", "amount"] (defScope s__law_outcome) := ⟨rfl, rfl, rfl, by decide +kernel, rfl, by decide +kernel, by decide +kernel⟩
theorem ok__law_outcome (T : Top K mg) : FnOk P w K mg base CX0 (k + 5) T.f__law_outcome T.fd__law_outcome ["call", "size", "amount"] (spF K fOutcome) := by
  refine fn_F (N := n__law_outcome) T.F__law_outcome sc__law_outcome (fun ds q h => ?_) (fun cdv A outer s H E hr ds q h => ?_)
  · obtain ⟨c, d, d2, rfl, _⟩ := h
    rfl
  · obtain ⟨c, d, d2, rfl, hok, hok2, hc0, hc2, h, hq⟩ := h
    have nd := sc__law_outcome.nd
    have hu1 := hu_of hr
    have hu64 := hr.units
    refine ss_cons ?_
    refine s_outcome 3 (err_InvalidNumber T) hr T.g__law_error_name T.F__law_error_name.kp T.b__law_error_name nd ⟨rfl, by decide, .inl T.g_LaneError⟩ T.e_InvalidNumber.ex fun pn xe W tk => ?_
    refine sx_one ?_
    refine sx_if ?_
    refine eb_cmp ?_
    refine ee_var 0 rfl ?_
    refine ee_int ?_
    refine co_eq ?_
    refine ⟨_, rfl, ?_⟩
    refine ⟨fun hc => ?_, fun hc => ?_⟩
    · have hc := of_decide_eq_true hc
      have hin : intIn d 1 20 = false := by
        rcases h with h | ⟨h, _⟩ | ⟨h, _⟩
        · exact h
        · omega
        · omega
      refine sx_one ?_
      refine sx_call (okx_greatest_total T) hr T.g_greatest_total T.F_greatest_total.kp T.b_greatest_total tk ?_
      refine ed_cons ?_
      refine ee_var 1 rfl ?_
      refine ed_nil ?_
      exact ⟨d, rfl, hok, hin, rfl, Nat.le_of_ble_eq_true rfl, fun a => hq⟩
    · have hc := of_decide_eq_false hc
      refine sx_one ?_
      refine sx_callV tk ?_
      refine ev_ix (vs := [.ref T.f_count_by_total, .ref T.f_order_with]) (pv_cons T.g_count_by_total (pv_cons T.g_order_with pv_nil)) (Nat.le_of_ble_eq_true rfl) ?_
      refine ee_bin ?_
      refine ee_var 0 rfl ?_
      refine ee_int ?_
      refine bo_sub ?_
      by_cases h1 : c = 1
      · subst h1
        refine ⟨_, _, rfl, rfl, _, _, rfl, ⟨_, _, _, okx_count_by_total T, hr, T.F_count_by_total.kp, T.b_count_by_total⟩, ?_⟩
        refine ed_cons ?_
        refine ee_var 1 rfl ?_
        refine ed_cons ?_
        refine ee_var 2 rfl ?_
        refine ed_nil ?_
        refine ⟨d, d2, rfl, hok, hok2, ?_, rfl, Nat.le_of_ble_eq_true rfl, fun a => hq⟩
        rcases h with h | ⟨_, h⟩ | ⟨h, _⟩
        · exact .inl h
        · exact .inr h
        · omega
      · obtain rfl : c = 2 := by omega
        refine ⟨_, _, rfl, rfl, _, _, rfl, ⟨_, _, _, okx_order_with T, hr, T.F_order_with.kp, T.b_order_with⟩, ?_⟩
        refine ed_cons ?_
        refine ee_var 1 rfl ?_
        refine ed_cons ?_
        refine ee_var 2 rfl ?_
        refine ed_nil ?_
        refine ⟨d, d2, rfl, hok, hok2, ?_, rfl, Nat.le_of_ble_eq_true rfl, fun a => hq⟩
        rcases h with h | ⟨h, _⟩ | ⟨_, h⟩
        · exact .inl h
        · omega
        · exact .inr h

def fIsLane : FSp := fun ds q => ∃ L : List Int, ds = [.tup (L.map I), I (L.length : Nat)] ∧ Ln.Ord L ∧ q (.d (Bl true))
abbrev n__law_is_lane : List Str := ["value", "size"]
theorem sc__law_is_lane : FnScope n__law_is_lane ["value", "size"] (defScope s__law_is_lane) := ⟨rfl, rfl, rfl, by decide +kernel, rfl, by decide +kernel, by decide +kernel⟩
theorem ok__law_is_lane (T : Top K mg) : FnOk P w K mg base CX0 (k + 1) T.f__law_is_lane T.fd__law_is_lane ["value", "size"] (spF K fIsLane) := by
  refine fn_F (N := n__law_is_lane) T.F__law_is_lane sc__law_is_lane (fun ds q h => ?_) (fun cdv A outer s H E hr ds q h => ?_)
  · obtain ⟨L, rfl, _⟩ := h
    rfl
  · obtain ⟨L, rfl, ho, hq⟩ := h
    have h30 := ho.2.1
    have nd := sc__law_is_lane.nd
    have hu1 := hu_of hr
    have hu64 := hr.units
    refine ss_one ?_
    refine s_ret ?_
    refine ee_and ?_
    refine ee_isiTup T.z_isinstance T.z_tuple ?_
    refine ee_var 0 rfl ?_
    refine ⟨rfl, ?_⟩
    refine ⟨_, rfl, ?_⟩
    refine ⟨fun _ => ?_, fun h => nomatch h⟩
    refine ee_bool1 ?_
    refine ee_cmp ?_
    refine ee_new ?_
    refine em_sortedT T.z_sorted ?_
    refine ee_var 0 rfl ?_
    refine ⟨L, rfl, by omega, fun ns' hp hs => ?_⟩
    refine ee_new ?_
    refine em_listRg2 T.z_list T.z_range ?_
    refine ee_int ?_
    refine ee_bin ?_
    refine ee_var 1 rfl ?_
    refine ee_int ?_
    refine bo_add ?_
    refine ⟨_, _, rfl, rfl, by first | exact ⟨by omega, by omega, by omega, by omega, by omega⟩ | (simp only [List.length_map, List.length_append, List.length_cons, List.length_nil, List.length_reverse, List.length_dropLast, List.length_take, List.length_drop, List.length_range, List.length_replicate, Sy.rgS_len, Sy.rgD_len, Ln.downs_len, Ln.upto_len]; exact ⟨by omega, by omega, by omega, by omega, by omega⟩) | assumption, ?_⟩
    rw [rgD_upto]
    refine co_eqD hu64 (eqkA_ints _) (eqkA_ints _) (dep_ints _) (dep_ints _) fun b hb => ?_
    obtain rfl : b = true := hb.mpr (by rw [Ln.pw_unique (hp.trans ho.2.2) hs (Ln.upto_pw _)])
    exact hq

theorem num_eqk : (S_ "number").eqk := show PyData.strOk "number" = true by decide +kernel
theorem tZ_put {ts : Ln.Tb} {a : Nat} {v : Int} (h : ∀ x, x ∈ ts → x.1.1 = 0) : putD (ts.map tZ) (.inl ((a : Nat) : Int)) (I v) = (Ln.tput ts (0, a) v).map tZ := by
  have key : ∀ x, x ∈ ts → ((tZ x).1 = (.inl ((a : Nat) : Int)) ↔ x.1 = (0, a)) := fun x hx => by
    constructor
    · intro e
      have := Sum.inl.inj e
      exact Prod.ext (h x hx) (by omega)
    · intro e
      show (Sum.inl _ : Key) = _
      rw [e]
  have ea : ((ts.map tZ).any fun p => decide (p.1 = (.inl ((a : Nat) : Int)))) = ts.any fun x => decide (x.1 = (0, a)) := by
    rw [List.any_map, Bool.eq_iff_iff, List.any_eq_true, List.any_eq_true]
    constructor
    · rintro ⟨x, hx, e⟩
      exact ⟨x, hx, decide_eq_true ((key x hx).mp (of_decide_eq_true e))⟩
    · rintro ⟨x, hx, e⟩
      exact ⟨x, hx, decide_eq_true ((key x hx).mpr (of_decide_eq_true e))⟩
  unfold putD Ln.tput
  rw [ea]
  split
  · rw [List.map_map, List.map_map]
    refine List.map_congr_left fun x hx => ?_
    show (if (tZ x).1 = _ then ((tZ x).1, I v) else tZ x) = tZ (if x.1 = (0, a) then (x.1, v) else x)
    by_cases e : x.1 = (0, a)
    · rw [if_pos e, if_pos ((key x hx).mpr e)]; rfl
    · rw [if_neg e, if_neg (fun z => e ((key x hx).mp z))]
  · rw [List.map_append]; rfl
theorem tZ_get {ts : Ln.Tb} {a : Nat} (h : ∀ x, x ∈ ts → x.1.1 = 0) : (valD (ts.map tZ) (.inl ((a : Nat) : Int))).getD (I 0) = I (Ln.wv ts (0, a)) := by
  rw [tZ_val h]
  unfold Ln.wv
  cases Ln.tbv ts (0, a) <;> rfl
theorem tot_nat {L : List Int} {r : Ln.Rl} : ∃ a : Nat, (Ln.row r L).sum = (a : Nat) := by
  unfold Ln.row
  induction Ln.rows r L with
  | nil => exact ⟨0, rfl⟩
  | cons o l ih =>
    obtain ⟨a, ha⟩ := ih
    refine ⟨o.length + a, ?_⟩
    rw [List.map_cons, List.sum_cons, ha]
    omega
abbrev cntT (Ls : List (List Int)) (a : Nat) : Nat := ((Ls.map fun L => (Ln.row .srt L).sum).filter fun x => decide (x = (a : Int))).length
theorem cntT_snoc {Ls : List (List Int)} {M : List Int} {a : Nat} : cntT (Ls ++ [M]) a = cntT Ls a + if (Ln.row .srt M).sum = (a : Nat) then 1 else 0 := by
  unfold cntT
  rw [List.map_append, List.filter_append, List.length_append]
  congr 1
  rw [List.map_singleton, List.filter_cons]
  by_cases h : (Ln.row .srt M).sum = (a : Nat)
  · rw [if_pos h, if_pos (decide_eq_true h)]; rfl
  · rw [if_neg h, if_neg (by rw [decide_eq_false h]; decide)]; rfl
theorem F3r {n a : Nat} (h0 : 1 ≤ n) (h6 : n ≤ 6) (ha : a < n * n / 4 + 3) : Ln.cf (Ln.pl n n) 0 a = cntT (Ln.lanesA n n) a := by
  rw [Ln.F3 n (by omega) (by omega) a ha]
  unfold cntT
  rw [List.map_congr_left fun L hL => (Ln.tot_mem h0 h6 hL).1]
theorem tot_le {n : Nat} (h0 : 1 ≤ n) (h6 : n ≤ 6) {L : List Int} (hL : L ∈ Ln.lanesA n n) : (Ln.row .srt L).sum ≤ ((n * n / 4 : Nat) : Int) := by
  obtain ⟨e, hO, hl⟩ := Ln.tot_mem h0 h6 hL
  have h := Ln.T1s hO
  rw [e]
  rw [hl] at h
  have e2 : ((n : Nat) : Int) * ((n : Nat) : Int) / 4 = ((n * n / 4 : Nat) : Int) := by rw [← Int.natCast_mul]; omega
  omega
theorem tot_ex {n : Nat} (h0 : 1 ≤ n) (h6 : n ≤ 6) : ∃ L, L ∈ Ln.lanesA n n ∧ (Ln.row .srt L).sum = ((n * n / 4 : Nat) : Int) := by
  have h1 := (Ln.F1 n (by omega) (by omega)).2.2 (n * n / 4) (by omega)
  rw [F3r h0 h6 (by omega)] at h1
  unfold cntT at h1
  obtain ⟨x, hx⟩ := List.exists_mem_of_length_pos (show 0 < _ from h1)
  obtain ⟨h2, h3⟩ := List.mem_filter.mp hx
  obtain ⟨L, hL, rfl⟩ := List.mem_map.mp h2
  exact ⟨L, hL, of_decide_eq_true h3⟩
theorem l720 : ∀ n : Nat, n < 7 → (Ln.lanesA n n).length ≤ 720 := by decide +kernel
theorem rg_nat (N : Nat) : rgD 0 ((N : Nat) : Int) = (List.range N).map fun a : Nat => I ((a : Nat) : Int) := by
  unfold rgD
  rw [show (((N : Nat) : Int) - 0).toNat = N from by omega]
  refine List.map_congr_left fun m _ => ?_
  rw [Int.zero_add]
theorem put_sub {ts : Ln.Tb} {k k' : Nat × Nat} {v : Int} (h : k' ∈ ts.map (·.1)) : k' ∈ (Ln.tput ts k v).map (·.1) := by
  rw [Ln.put_keys]
  split
  · exact h
  · exact List.mem_append_left _ h
theorem put_self {ts : Ln.Tb} {k : Nat × Nat} {v : Int} : k ∈ (Ln.tput ts k v).map (·.1) := by
  rw [Ln.put_keys]
  split
  · rename_i h
    obtain ⟨x, hx, e⟩ := List.any_eq_true.mp h
    exact List.mem_map.mpr ⟨x, hx, of_decide_eq_true e⟩
  · exact List.mem_append_right _ (List.mem_singleton.mpr rfl)
theorem tZ_keys {ts : Ln.Tb} : keysD (ts.map tZ) = ((ts.map (·.1)).map fun k => ((k.2 : Nat) : Int)).map I := by
  unfold keysD
  rw [List.map_map, List.map_map, List.map_map]
  rfl
abbrev n_law : List Str := ["script", "k", "source", "size", "table", "lane", "points", "amount", "top", "made", "odd", "call"]
theorem sc_law : FnScope n_law ["script"] (defScope s_law) := ⟨rfl, rfl, rfl, by decide +kernel, rfl, by decide +kernel, by decide +kernel⟩
theorem ok_law (T : Top K mg) : FnOk P w K mg base CX0 (k + 6) T.f_law T.fd_law ["script"] (spF K fLawT) := by
  refine fn_F (N := n_law) T.F_law sc_law (fun ds q h => ?_) (fun cdv A outer s H E hr ds q h => ?_)
  · obtain ⟨ns, rfl, _⟩ := h
    rfl
  · obtain ⟨ns, rfl, hlen, hq⟩ := h
    have nd := sc_law.nd
    have hu1 := hu_of hr
    have hu64 := hr.units
    refine ss_cons ?_
    refine s_for ?_
    refine ei_rg1 T.z_range ?_
    refine ee_max2 T.z_max ?_
    refine ed_cons ?_
    refine ee_int ?_
    refine ed_cons ?_
    refine ee_min2 T.z_min ?_
    refine ed_cons ?_
    refine ee_int ?_
    refine ed_cons ?_
    refine ee_lenL T.z_len ?_
    refine el_dat ?_
    refine ee_var 0 rfl ?_
    refine ⟨_, rfl, ?_⟩
    refine ed_nil ?_
    refine ⟨_, _, rfl, ?_⟩
    refine ed_nil ?_
    refine ⟨_, _, rfl, ?_⟩
    rw [List.length_map]
    obtain ⟨t, ht, et⟩ := turns_of (n := ns.length) (a := 10) (b := 3) (by decide) (by decide)
    rw [et]
    refine ⟨_, rfl, by omega, by omega, ?_⟩
    refine ⟨fun i e => ∃ (d1 d2 d3 d4 d5 d6 : Desc) (o7 : Option D) (d8 d9 : Desc) (o10 o11 : Option D), e = [.dat (.lst (ns.map I)), d1, d2, d3, d4, d5, d6, sl o7, d8, d9, sl o10, sl o11], ⟨_, _, _, _, _, _, none, _, _, none, none, rfl⟩, fun _ _ _ => trivial, fun i d e hd hI => ?_, fun e hI => ?_⟩
    · obtain ⟨d1, d2, d3, d4, d5, d6, o7, d8, d9, o10, o11, rfl⟩ := hI
      obtain ⟨hi, rfl⟩ := rgD_at hd
      refine eg_name 1 ?_ nd
      refine ss_cons ?_
      refine s_setM 2 ?_ nd
      refine em_call (ok__law_source T) hr T.g__law_source T.F__law_source.kp T.b__law_source pass0 ?_
      refine ed_cons ?_
      refine ee_var 0 rfl ?_
      refine ed_cons ?_
      refine ee_var 1 rfl ?_
      refine ed_nil ?_
      refine use_source hlen (by omega) (by omega) fun a b c hc0 hc1 => ⟨_, rfl, ?_⟩
      refine ⟨Nat.le_of_ble_eq_true rfl, fun p_source => ?_⟩
      refine ss_cons ?_
      first | refine s_par 3 4 ?_ nd | refine s_parC 3 4 ?_ nd
      refine eu_d ?_
      refine ee_bin ?_
      refine ee_int ?_
      refine ee_callS 2 (ok__law_pick T) hr T.g__law_pick T.F__law_pick.kp T.b__law_pick pass0 rfl ?_
      refine ed_cons ?_
      refine ee_bin ?_
      refine ee_int ?_
      refine ee_intB T.z_int ?_
      refine ee_cmp ?_
      refine ee_var 1 rfl ?_
      refine ee_int ?_
      refine co_eq ?_
      refine ⟨_, rfl, ?_⟩
      refine bo_add ?_
      refine ed_nil ?_
      refine ⟨_, rfl, ?_⟩
      have hm : (0 : Int) < 5 + (if decide ((0 : Int) + (i : Nat) = 0) = true then 1 else 0) ∧ 5 + (if decide ((0 : Int) + (i : Nat) = 0) = true then 1 else 0) ≤ (6 : Int) := by split <;> omega
      refine use_pick ⟨hc0, hc1⟩ hm.1 (by omega) fun r1 a b hr0 hr1 => ⟨_, rfl, ?_⟩
      obtain ⟨n, en⟩ : ∃ n : Nat, 1 + r1 = (n : Int) := ⟨(1 + r1).toNat, by omega⟩
      have hn : 1 ≤ n ∧ n ≤ 6 := by omega
      clear hm hr1 hr0
      refine bo_add ?_
      refine eu_m ?_
      refine em_dnew ?_
      refine eu_nil ?_
      refine ⟨Nat.le_of_ble_eq_true rfl, fun p_table => ?_⟩
      refine ss_cons ?_
      refine s_for ?_
      refine ei_list ?_
      refine ee_call (ok__law_all_lanes T) hr T.g__law_all_lanes T.F__law_all_lanes.kp T.b__law_all_lanes pass0 ?_
      refine ed_cons ?_
      refine ee_var 3 rfl ?_
      refine ed_nil ?_
      rw [en]
      refine ⟨n, rfl, by omega, ⟨_, rfl, ?_⟩⟩
      have h720 := l720 n (by omega)
      refine ⟨_, rfl, ?_⟩
      refine ⟨fun j e => ∃ (tb : Ln.Tb) (d5 d6 : Desc), (∀ x, x ∈ tb → x.1.1 = 0) ∧ (∀ a : Nat, Ln.wv tb (0, a) = (cntT ((Ln.lanesA n n).take j) a : Nat)) ∧ (∀ k, k ∈ tb.map (·.1) → ∃ L, L ∈ Ln.lanesA n n ∧ (Ln.row .srt L).sum = (k.2 : Nat)) ∧ (∀ L, L ∈ (Ln.lanesA n n).take j → ∃ a : Nat, (Ln.row .srt L).sum = (a : Nat) ∧ (0, a) ∈ tb.map (·.1)) ∧ tb.length ≤ j ∧ e = [.dat (.lst (ns.map I)), .dat (I (0 + (i : Nat))), .mu p_source (.lst [I a, I b, I c]), .dat (I (n : Nat)), .mu p_table (.dK (tb.map tZ)), d5, d6, sl o7, d8, d9, sl o10, sl o11], ⟨[], _, _, fun x hx => (nomatch hx), fun a => (by rw [List.take_zero]; rfl), fun k hk => (nomatch hk), fun L hL => (by rw [List.take_zero] at hL; cases hL), Nat.le_refl _, rfl⟩, fun _ _ _ => trivial, fun j d e hd hJ => ?_, fun e hJ => ?_⟩
      · obtain ⟨tb, d5, d6, h0, hw, hk1, hk2, htl, rfl⟩ := hJ
        rw [List.getElem?_map] at hd
        cases hM : (Ln.lanesA n n)[j]? with
        | none => rw [hM] at hd; cases hd
        | some M =>
        rw [hM] at hd
        have hd := Option.some.inj hd
        subst hd
        have hMm := List.mem_of_getElem? hM
        have hjl := (List.getElem?_eq_some_iff.mp hM).1
        obtain ⟨_, hMo, hMl⟩ := Ln.tot_mem hn.1 hn.2 hMm
        have htk : (Ln.lanesA n n).take (j + 1) = (Ln.lanesA n n).take j ++ [M] := by rw [List.take_add_one, hM]; rfl
        obtain ⟨a0, ha0⟩ := tot_nat (L := M) (r := .srt)
        refine eg_name 5 ?_ nd
        refine ss_cons ?_
        refine s_set 6 ?_ nd
        refine ee_sumT T.z_sum ?_
        refine ee_call (ok__law_row T) hr T.g__law_row T.F__law_row.kp T.b__law_row pass0 ?_
        refine ed_cons ?_
        refine ee_var 5 rfl ?_
        refine ed_cons ?_
        refine ee_str ?_
        refine ed_nil ?_
        refine ⟨M, .srt, rfl, by omega, Ln.ord_nodup hMo, ⟨_, rfl, ?_⟩⟩
        refine ⟨_, rfl, ?_⟩
        rw [ha0]
        refine ss_one ?_
        refine s_dput 4 hu1 rfl ?_
        refine ee_bin ?_
        refine ee_dget2X 4 hu1 rfl ?_
        refine ee_var 6 rfl ?_
        refine ee_int ?_
        refine ⟨tb.map tZ, .inl ((a0 : Nat) : Int), rfl, rfl, ?_⟩
        rw [tZ_get h0, hw]
        refine ee_int ?_
        refine bo_add ?_
        refine ⟨_, rfl, ?_⟩
        refine ee_var 6 rfl ?_
        refine ⟨tb.map tZ, .inl ((a0 : Nat) : Int), rfl, rfl, by rw [List.length_map]; omega, ?_⟩
        rw [tZ_put h0]
        refine ⟨Ln.tput tb (0, a0) _, _, _, fun x hx => ?_, fun a' => ?_, fun k hk => ?_, fun L hL => ?_, Nat.le_trans Ln.put_len (by omega), rfl⟩
        · rcases Ln.put_mem (List.mem_map.mpr ⟨x, hx, rfl⟩) with h | h
          · obtain ⟨y, hy, e⟩ := List.mem_map.mp h
            rw [← e]
            exact h0 y hy
          · rw [h]
        · rw [Ln.wv_put, htk, cntT_snoc]
          by_cases e : a' = a0
          · rw [e, if_pos rfl, if_pos ha0]
            omega
          · rw [if_neg (fun z => e (Prod.mk.inj z).2), if_neg (fun z => e (by omega)), hw]
            omega
        · rcases Ln.put_mem hk with h | h
          · exact hk1 k h
          · exact ⟨M, hMm, by rw [h]; exact ha0⟩
        · rw [htk] at hL
          rcases List.mem_append.mp hL with h | h
          · obtain ⟨a1, h1, h2⟩ := hk2 L h
            exact ⟨a1, h1, put_sub h2⟩
          · rw [List.mem_singleton.mp h]
            exact ⟨a0, ha0, put_self⟩
      · obtain ⟨tb, d5, d6, h0, hw, hk1, hk2, htl, rfl⟩ := hJ
        rw [List.length_map] at hw hk2
        rw [List.take_length] at hw hk2
        have hnn : n * n ≤ 6 * 6 := Nat.mul_le_mul hn.2 hn.2
        have hdv : ((n : Nat) : Int) * ((n : Nat) : Int) / 4 = ((n * n / 4 : Nat) : Int) := by rw [← Int.natCast_mul]; omega
        refine ss_cons ?_
        refine s_for ?_
        refine ei_rg1 T.z_range ?_
        refine ee_bin ?_
        refine ee_bin ?_
        refine ee_bin ?_
        refine ee_var 3 rfl ?_
        refine ee_var 3 rfl ?_
        refine bo_mul (by first | exact .inr ⟨by omega, by omega⟩ | exact .inl ⟨by omega, by omega⟩) ?_
        refine ee_int ?_
        refine bo_fdiv ⟨by first | omega | (simp only [List.length_map, List.length_append, List.length_cons, List.length_nil, List.length_reverse, List.length_dropLast, List.length_take, List.length_drop, List.length_range, List.length_replicate, Sy.rgS_len, Sy.rgD_len, Ln.downs_len, Ln.upto_len]; omega) | decide | assumption, by first | omega | (simp only [List.length_map, List.length_append, List.length_cons, List.length_nil, List.length_reverse, List.length_dropLast, List.length_take, List.length_drop, List.length_range, List.length_replicate, Sy.rgS_len, Sy.rgD_len, Ln.downs_len, Ln.upto_len]; omega) | decide | assumption⟩ ?_
        refine ee_int ?_
        refine bo_add ?_
        refine ⟨_, rfl, by first | omega | (simp only [List.length_map, List.length_append, List.length_cons, List.length_nil, List.length_reverse, List.length_dropLast, List.length_take, List.length_drop, List.length_range, List.length_replicate, Sy.rgS_len, Sy.rgD_len, Ln.downs_len, Ln.upto_len]; omega) | decide | assumption, by first | omega | (simp only [List.length_map, List.length_append, List.length_cons, List.length_nil, List.length_reverse, List.length_dropLast, List.length_take, List.length_drop, List.length_range, List.length_replicate, Sy.rgS_len, Sy.rgD_len, Ln.downs_len, Ln.upto_len]; omega) | decide | assumption, ?_⟩
        rw [hdv]
        refine ⟨fun j e => ∃ (o7 : Option D), e = [.dat (.lst (ns.map I)), .dat (I (0 + (i : Nat))), .mu p_source (.lst [I a, I b, I c]), .dat (I (n : Nat)), .mu p_table (.dK (tb.map tZ)), d5, d6, sl o7, d8, d9, sl o10, sl o11], ⟨o7, rfl⟩, fun _ _ _ => trivial, fun j d e hd hJ => ?_, fun e hJ => ?_⟩
        · obtain ⟨o7, rfl⟩ := hJ
          obtain ⟨hj, rfl⟩ := rgD_at hd
          rw [Int.zero_add]
          refine eg_name 7 ?_ nd
          refine ss_one ?_
          refine s_if ?_
          refine eb_cmp ?_
          refine ee_call (ok_count_by_total T) hr T.g_count_by_total T.F_count_by_total.kp T.b_count_by_total pass0 ?_
          refine ed_cons ?_
          refine ee_var 3 rfl ?_
          refine ed_cons ?_
          refine ee_var 7 rfl ?_
          refine ed_nil ?_
          refine ⟨n, j, rfl, by omega, by omega, by omega, ⟨_, rfl, ?_⟩⟩
          refine ee_dget2X 4 hu1 rfl ?_
          refine ee_var 7 rfl ?_
          refine ee_int ?_
          refine ⟨tb.map tZ, .inl ((j : Nat) : Int), rfl, rfl, ?_⟩
          rw [tZ_get h0, hw, F3r hn.1 hn.2 (by omega)]
          refine co_ne ?_
          refine ⟨_, rfl, ?_⟩
          refine ⟨fun h => (by simp at h), fun _ => ?_⟩
          refine ss_nil ?_
          exact ⟨some _, rfl⟩
        · obtain ⟨o7, rfl⟩ := hJ
          refine ss_cons ?_
          refine s_if ?_
          refine eb_cmp ?_
          refine ee_call (ok_greatest_total T) hr T.g_greatest_total T.F_greatest_total.kp T.b_greatest_total pass0 ?_
          refine ed_cons ?_
          refine ee_var 3 rfl ?_
          refine ed_nil ?_
          refine ⟨n, rfl, by omega, by omega, ⟨_, rfl, ?_⟩⟩
          refine ee_maxL T.z_max ?_
          refine el_new ?_
          refine em_listKX 4 T.z_list rfl ?_
          refine ⟨_, rfl, ?_⟩
          rw [tZ_keys]
          obtain ⟨L0, hL0, hs0⟩ := tot_ex hn.1 hn.2
          obtain ⟨a0, ha0, hm0⟩ := hk2 L0 hL0
          have hin : ((n * n / 4 : Nat) : Int) ∈ (tb.map (·.1)).map fun k => ((k.2 : Nat) : Int) := List.mem_map.mpr ⟨_, hm0, by rw [← hs0, ha0]⟩
          refine ⟨_, rfl, List.length_pos_of_mem hin, fun mx hx1 hx2 => ?_⟩
          have hmx : mx = ((n * n / 4 : Nat) : Int) := by
            obtain ⟨k0, hk0, e⟩ := List.mem_map.mp hx1
            obtain ⟨L1, hL1, hs1⟩ := hk1 k0 hk0
            have h1 := tot_le hn.1 hn.2 hL1
            have h2 := hx2 _ hin
            omega
          rw [hmx]
          refine co_ne ?_
          refine ⟨_, rfl, ?_⟩
          refine ⟨fun h => (by simp at h), fun _ => ?_⟩
          refine ss_nil ?_
          refine ss_cons ?_
          refine s_set 3 ?_ nd
          refine ee_bin ?_
          refine ee_int ?_
          refine ee_callS 2 (ok__law_pick T) hr T.g__law_pick T.F__law_pick.kp T.b__law_pick pass0 rfl ?_
          refine ed_cons ?_
          refine ee_ix ?_
          refine ee_new ?_
          refine em_lst ?_
          refine ed_cons ?_
          refine ee_int ?_
          refine ed_cons ?_
          refine ee_int ?_
          refine ed_nil ?_
          refine ⟨Nat.le_of_ble_eq_true rfl, ?_⟩
          refine ee_intB T.z_int ?_
          refine ee_cmp ?_
          refine ee_var 1 rfl ?_
          refine ee_int ?_
          refine co_eq ?_
          refine ⟨_, rfl, ?_⟩
          obtain ⟨Bd, hB, hB8, hB14⟩ : ∃ Bd : Int, atI [I 8, I 14] (if decide ((0 : Int) + (i : Nat) = 0) = true then 1 else 0) = some (I Bd) ∧ 8 ≤ Bd ∧ Bd ≤ 14 := by
            split
            · exact ⟨14, rfl, by decide, by decide⟩
            · exact ⟨8, rfl, by decide, by decide⟩
          refine ⟨_, _, _, .inr rfl, rfl, hB, ?_⟩
          refine ed_nil ?_
          refine ⟨_, rfl, ?_⟩
          refine use_pick ⟨hc0, hc1⟩ (by omega) (by omega) fun r2 a2 b2 hs0 hs1 => ⟨_, rfl, ?_⟩
          obtain ⟨m, em⟩ : ∃ m : Nat, 1 + r2 = (m : Int) := ⟨(1 + r2).toNat, by omega⟩
          have hm : 1 ≤ m ∧ m ≤ 14 := by omega
          clear hs1 hs0 hB14 hB8 hB h720
          obtain ⟨f1, f2, f3⟩ := Ln.F1 m (by omega) (by omega)
          have hmm : m * m ≤ 14 * 14 := Nat.mul_le_mul hm.2 hm.2
          have hdm : ((m : Nat) : Int) * ((m : Nat) : Int) / 4 = ((m * m / 4 : Nat) : Int) := by rw [← Int.natCast_mul]; omega
          refine bo_add ?_
          refine ss_cons ?_
          first | refine s_par 8 7 ?_ nd | refine s_parC 8 7 ?_ nd
          refine eu_d ?_
          refine ee_call (ok_greatest_total T) hr T.g_greatest_total T.F_greatest_total.kp T.b_greatest_total pass0 ?_
          refine ed_cons ?_
          refine ee_var 3 rfl ?_
          refine ed_nil ?_
          rw [em]
          refine ⟨m, rfl, hm.1, by omega, ⟨_, rfl, ?_⟩⟩
          refine eu_d ?_
          refine ee_callS 2 (ok__law_pick T) hr T.g__law_pick T.F__law_pick.kp T.b__law_pick pass0 rfl ?_
          refine ed_cons ?_
          refine ee_bin ?_
          refine ee_bin ?_
          refine ee_bin ?_
          refine ee_var 3 rfl ?_
          refine ee_var 3 rfl ?_
          refine bo_mul (by first | exact .inr ⟨by omega, by omega⟩ | exact .inl ⟨by omega, by omega⟩) ?_
          refine ee_int ?_
          refine bo_fdiv ⟨by first | omega | (simp only [List.length_map, List.length_append, List.length_cons, List.length_nil, List.length_reverse, List.length_dropLast, List.length_take, List.length_drop, List.length_range, List.length_replicate, Sy.rgS_len, Sy.rgD_len, Ln.downs_len, Ln.upto_len]; omega) | decide | assumption, by first | omega | (simp only [List.length_map, List.length_append, List.length_cons, List.length_nil, List.length_reverse, List.length_dropLast, List.length_take, List.length_drop, List.length_range, List.length_replicate, Sy.rgS_len, Sy.rgD_len, Ln.downs_len, Ln.upto_len]; omega) | decide | assumption⟩ ?_
          refine ee_int ?_
          refine bo_add ?_
          refine ed_nil ?_
          refine ⟨_, rfl, ?_⟩
          rw [hdm]
          refine use_pick ⟨hc0, hc1⟩ (by omega) (by omega) fun r3 a3 b3 ht0 ht1 => ⟨_, rfl, ?_⟩
          obtain ⟨w, rfl⟩ : ∃ w : Nat, r3 = (w : Int) := ⟨r3.toNat, by omega⟩
          have hw4 : w ≤ m * m / 4 := by omega
          refine eu_nil ?_
          refine ss_cons ?_
          refine s_if ?_
          refine eb_w ?_
          refine ew_or ?_
          refine eb_cmp ?_
          refine ee_var 8 rfl ?_
          refine ee_bin ?_
          refine ee_bin ?_
          refine ee_var 3 rfl ?_
          refine ee_var 3 rfl ?_
          refine bo_mul (by first | exact .inr ⟨by omega, by omega⟩ | exact .inl ⟨by omega, by omega⟩) ?_
          refine ee_int ?_
          refine bo_fdiv ⟨by first | omega | (simp only [List.length_map, List.length_append, List.length_cons, List.length_nil, List.length_reverse, List.length_dropLast, List.length_take, List.length_drop, List.length_range, List.length_replicate, Sy.rgS_len, Sy.rgD_len, Ln.downs_len, Ln.upto_len]; omega) | decide | assumption, by first | omega | (simp only [List.length_map, List.length_append, List.length_cons, List.length_nil, List.length_reverse, List.length_dropLast, List.length_take, List.length_drop, List.length_range, List.length_replicate, Sy.rgS_len, Sy.rgD_len, Ln.downs_len, Ln.upto_len]; omega) | decide | assumption⟩ ?_
          refine co_ne ?_
          refine ⟨_, rfl, ?_⟩
          rw [hdm]
          refine ⟨fun h => (by simp at h), fun _ => ?_⟩
          refine ew_or ?_
          refine eb_cmp ?_
          refine ee_call (ok_count_by_total T) hr T.g_count_by_total T.F_count_by_total.kp T.b_count_by_total pass0 ?_
          refine ed_cons ?_
          refine ee_var 3 rfl ?_
          refine ed_cons ?_
          refine ee_int ?_
          refine ed_nil ?_
          refine ⟨m, 0, rfl, hm.1, by omega, by omega, ⟨_, rfl, ?_⟩⟩
          rw [f1]
          refine ee_int ?_
          refine co_ne ?_
          refine ⟨_, rfl, ?_⟩
          refine ⟨fun h => (by simp at h), fun _ => ?_⟩
          refine ew_or1 ?_
          refine eb_cmp ?_
          refine ee_call (ok_count_by_total T) hr T.g_count_by_total T.F_count_by_total.kp T.b_count_by_total pass0 ?_
          refine ed_cons ?_
          refine ee_var 3 rfl ?_
          refine ed_cons ?_
          refine ee_bin ?_
          refine ee_var 8 rfl ?_
          refine ee_int ?_
          refine bo_add ?_
          refine ed_nil ?_
          refine ⟨m, m * m / 4 + 1, rfl, hm.1, by omega, by omega, ⟨_, rfl, ?_⟩⟩
          rw [f2]
          refine ee_int ?_
          refine co_ne ?_
          refine ⟨_, rfl, ?_⟩
          refine ⟨fun h => (by simp at h), fun _ => ?_⟩
          refine ss_nil ?_
          refine ss_cons ?_
          refine s_set 9 ?_ nd
          refine ee_call (ok_order_with T) hr T.g_order_with T.F_order_with.kp T.b_order_with pass0 ?_
          refine ed_cons ?_
          refine ee_var 3 rfl ?_
          refine ed_cons ?_
          refine ee_var 7 rfl ?_
          refine ed_nil ?_
          refine ⟨m, w, rfl, hm.1, hm.2, hw4, fun L hO hLl hLs => ⟨_, rfl, ?_⟩⟩
          refine ss_cons ?_
          refine s_if ?_
          refine eb_w ?_
          refine ew_or ?_
          refine eb_not ?_
          refine eb_val ?_
          refine ee_call (ok__law_is_lane T) hr T.g__law_is_lane T.F__law_is_lane.kp T.b__law_is_lane pass0 ?_
          refine ed_cons ?_
          refine ee_var 9 rfl ?_
          refine ed_cons ?_
          refine ee_var 3 rfl ?_
          refine ed_nil ?_
          refine ⟨L, by rw [hLl], hO, ⟨_, rfl, ?_⟩⟩
          refine ⟨_, rfl, ?_⟩
          refine ⟨fun h => (nomatch h), fun _ => ?_⟩
          refine ew_or ?_
          refine eb_cmp ?_
          refine ee_sumT T.z_sum ?_
          refine ee_call (ok__law_row T) hr T.g__law_row T.F__law_row.kp T.b__law_row pass0 ?_
          refine ed_cons ?_
          refine ee_var 9 rfl ?_
          refine ed_cons ?_
          refine ee_str ?_
          refine ed_nil ?_
          refine ⟨L, .srt, rfl, by have := hO.2.1; omega, Ln.ord_nodup hO, ⟨_, rfl, ?_⟩⟩
          refine ⟨_, rfl, ?_⟩
          rw [hLs]
          refine ee_var 7 rfl ?_
          refine co_ne ?_
          refine ⟨_, rfl, ?_⟩
          refine ⟨fun h => (by simp at h), fun _ => ?_⟩
          refine ew_or1 ?_
          refine eb_cmp ?_
          refine ee_call (ok_count_by_total T) hr T.g_count_by_total T.F_count_by_total.kp T.b_count_by_total pass0 ?_
          refine ed_cons ?_
          refine ee_var 3 rfl ?_
          refine ed_cons ?_
          refine ee_var 7 rfl ?_
          refine ed_nil ?_
          refine ⟨m, w, rfl, hm.1, by omega, by omega, ⟨_, rfl, ?_⟩⟩
          have f3w := f3 w (by omega)
          refine ee_int ?_
          refine co_lt ?_
          refine ⟨_, rfl, ?_⟩
          refine ⟨fun h => absurd (of_decide_eq_true h) (by omega), fun _ => ?_⟩
          refine ss_nil ?_
          refine ss_cons ?_
          refine s_if ?_
          refine eb_cmp ?_
          refine ee_sumT T.z_sum ?_
          refine ee_call (ok__law_row T) hr T.g__law_row T.F__law_row.kp T.b__law_row pass0 ?_
          refine ed_cons ?_
          refine ee_call (ok_order_with T) hr T.g_order_with T.F_order_with.kp T.b_order_with pass0 ?_
          refine ed_cons ?_
          refine ee_var 3 rfl ?_
          refine ed_cons ?_
          refine ee_var 8 rfl ?_
          refine ed_nil ?_
          refine ⟨m, m * m / 4, rfl, hm.1, hm.2, Nat.le_refl _, fun L2 hO2 hLl2 hLs2 => ⟨_, rfl, ?_⟩⟩
          refine ed_cons ?_
          refine ee_str ?_
          refine ed_nil ?_
          refine ⟨L2, .srt, rfl, by have := hO2.2.1; omega, Ln.ord_nodup hO2, ⟨_, rfl, ?_⟩⟩
          refine ⟨_, rfl, ?_⟩
          rw [hLs2]
          refine ee_var 8 rfl ?_
          refine co_ne ?_
          refine ⟨_, rfl, ?_⟩
          refine ⟨fun h => (by simp at h), fun _ => ?_⟩
          refine ss_nil ?_
          refine ss_cons ?_
          refine s_if ?_
          refine eb_cmp ?_
          refine ee_new ?_
          refine em_lcA (own := [("odd", 10)]) (blkOk_by (show blkC n_law (defScope s_law) _ _ = true by decide +kernel)) nd ?_
          refine ei_list ?_
          refine ee_new ?_
          refine em_lst ?_
          refine ed_cons ?_
          refine ee_neg (i := 0) ?_
          refine ee_int ?_
          refine ⟨_, rfl, ?_⟩
          refine ed_cons ?_
          refine ee_bin ?_
          refine ee_var 8 rfl ?_
          refine ee_int ?_
          refine bo_add ?_
          refine ed_cons ?_
          refine ee_non ?_
          refine ed_cons ?_
          refine ee_bl ?_
          refine ed_nil ?_
          refine ⟨Nat.le_of_ble_eq_true rfl, ?_⟩
          refine ⟨_, rfl, ?_⟩
          refine ⟨noMu_of (by cases o10 <;> cases o11 <;> rfl), trivial, _, [I (-1), I (((m * m / 4 : Nat) : Int) + 1), Nn, Bl true], id, fun _ => some (S_ "number"), (List.map_id _).symm, Nat.le_of_ble_eq_true rfl, fun x hx => ?_, ?_⟩
          · have hodd : okD x = true ∧ intIn x 0 ((m * m / 4 : Nat) : Int) = false := by
              simp only [List.mem_cons, List.not_mem_nil, or_false] at hx
              rcases hx with rfl | rfl | rfl | rfl
              · exact ⟨rfl, rfl⟩
              · have hlt : ¬ (((m * m / 4 : Nat) : Int) + 1 ≤ ((m * m / 4 : Nat) : Int)) := by omega
                refine ⟨rfl, ?_⟩
                show (decide (0 ≤ ((m * m / 4 : Nat) : Int) + 1) && decide (((m * m / 4 : Nat) : Int) + 1 ≤ ((m * m / 4 : Nat) : Int))) = false
                rw [decide_eq_false hlt, Bool.and_false]
              · exact ⟨rfl, rfl⟩
              · exact ⟨rfl, rfl⟩
            refine egb_name 10 (by decide) (by intro _ _ h; cases h) ?_ fun _ _ _ _ _ => pg_name (i := 10) nd rfl (by first | exact .inl rfl | exact .inr rfl)
            refine ebb_nil ?_
            refine ⟨fun _ => ?_, fun h => nomatch h⟩
            refine eeb fun s0 H0 C cl fp => ?_
            refine ee_call (ok__law_outcome T) hr T.g__law_outcome T.F__law_outcome.kp T.b__law_outcome pass0 ?_
            refine ed_cons ?_
            refine ee_int ?_
            refine ed_cons ?_
            refine ee_var 3 rfl ?_
            refine ed_cons ?_
            refine ee_var 10 rfl ?_
            refine ed_nil ?_
            refine ⟨2, I (m : Nat), x, rfl, rfl, hodd.1, by decide, by decide, .inr (.inr ⟨rfl, m, rfl, hm.1, by omega, hodd.2⟩), ⟨_, rfl, ?_⟩⟩
            exact ⟨rfl, noMu_of rfl, rfl⟩
          refine ee_new ?_
          refine em_rep ?_
          refine em_lst ?_
          refine ed_cons ?_
          refine ee_str ?_
          refine ed_nil ?_
          refine ⟨Nat.le_of_ble_eq_true rfl, ?_⟩
          refine ⟨_, rfl, ?_⟩
          refine ee_int ?_
          refine ⟨_, rfl, by first | omega | (simp only [List.length_map, List.length_append, List.length_cons, List.length_nil, List.length_reverse, List.length_dropLast, List.length_take, List.length_drop, List.length_range, List.length_replicate, Sy.rgS_len, Sy.rgD_len, Ln.downs_len, Ln.upto_len]; omega) | decide | assumption, by first | omega | (simp only [List.length_map, List.length_append, List.length_cons, List.length_nil, List.length_reverse, List.length_dropLast, List.length_take, List.length_drop, List.length_range, List.length_replicate, Sy.rgS_len, Sy.rgD_len, Ln.downs_len, Ln.upto_len]; omega) | decide | assumption, by first | omega | (simp only [List.length_map, List.length_append, List.length_cons, List.length_nil, List.length_reverse, List.length_dropLast, List.length_take, List.length_drop, List.length_range, List.length_replicate, Sy.rgS_len, Sy.rgD_len, Ln.downs_len, Ln.upto_len]; omega) | decide | assumption, ?_⟩
          rw [fm_some]
          refine co_neD hu64 ⟨num_eqk, num_eqk, num_eqk, num_eqk, trivial⟩ ⟨num_eqk, num_eqk, num_eqk, num_eqk, trivial⟩ (Nat.le_of_ble_eq_true rfl) (Nat.le_of_ble_eq_true rfl) fun b hb => ?_
          have hb := b_false hb rfl
          subst hb
          refine ⟨_, rfl, ?_⟩
          refine ⟨fun h => (nomatch h), fun _ => ?_⟩
          refine ss_nil ?_
          refine ss_cons ?_
          refine s_for ?_
          refine ei_list ?_
          refine ee_new ?_
          refine em_lst ?_
          refine ed_cons ?_
          refine ee_int ?_
          refine ed_cons ?_
          refine ee_int ?_
          refine ed_cons ?_
          refine ee_non ?_
          refine ed_cons ?_
          refine ee_bl ?_
          refine ed_cons ?_
          refine ee_str ?_
          refine ed_nil ?_
          refine ⟨Nat.le_of_ble_eq_true rfl, ?_⟩
          refine ⟨_, rfl, ?_⟩
          refine ⟨fun j e => ∃ (o10 o11 : Option D), e = [.dat (.lst (ns.map I)), .dat (I (0 + (i : Nat))), .mu p_source (.lst [I a3, I b3, I c]), .dat (I (m : Nat)), .mu p_table (.dK (tb.map tZ)), d5, d6, .dat (I (w : Nat)), .dat (I ((m * m / 4 : Nat) : Int)), .dat (.tup (L.map I)), sl o10, sl o11], ⟨none, o11, rfl⟩, fun _ _ _ => trivial, fun j d e hd hJ => ?_, fun e hJ => ?_⟩
          · obtain ⟨o10, o11, rfl⟩ := hJ
            have hodd : okD d = true ∧ intIn d 1 20 = false := by
              have hm := List.mem_of_getElem? hd
              simp only [List.mem_cons, List.not_mem_nil, or_false] at hm
              rcases hm with rfl | rfl | rfl | rfl | rfl
              · exact ⟨rfl, rfl⟩
              · exact ⟨rfl, rfl⟩
              · exact ⟨rfl, rfl⟩
              · exact ⟨rfl, rfl⟩
              · exact ⟨rfl, rfl⟩
            refine eg_name 10 ?_ nd
            refine ss_one ?_
            refine s_if ?_
            refine eb_cmp ?_
            refine ee_new ?_
            refine em_lcA (own := [("call", 11)]) (blkOk_by (by rfl)) nd ?_
            refine ei_list ?_
            refine ee_new ?_
            refine em_lst ?_
            refine ed_cons ?_
            refine ee_int ?_
            refine ed_cons ?_
            refine ee_int ?_
            refine ed_cons ?_
            refine ee_int ?_
            refine ed_nil ?_
            refine ⟨Nat.le_of_ble_eq_true rfl, ?_⟩
            refine ⟨_, rfl, ?_⟩
            refine ⟨noMu_of (by cases o11 <;> rfl), trivial, _, [0, 1, 2], I, fun _ => some (S_ "number"), rfl, Nat.le_of_ble_eq_true rfl, fun x hx => ?_, ?_⟩
            · have hx2 : 0 ≤ x ∧ x ≤ 2 := by
                simp only [List.mem_cons, List.not_mem_nil, or_false] at hx
                omega
              refine egb_name 11 (by decide) (by intro _ _ h; cases h) ?_ fun _ _ _ _ _ => pg_name (i := 11) nd rfl (by first | exact .inl rfl | exact .inr rfl)
              refine ebb_nil ?_
              refine ⟨fun _ => ?_, fun h => nomatch h⟩
              refine eeb fun s0 H0 C cl fp => ?_
              refine ee_call (ok__law_outcome T) hr T.g__law_outcome T.F__law_outcome.kp T.b__law_outcome pass0 ?_
              refine ed_cons ?_
              refine ee_var 11 rfl ?_
              refine ed_cons ?_
              refine ee_var 10 rfl ?_
              refine ed_cons ?_
              refine ee_int ?_
              refine ed_nil ?_
              refine ⟨x, d, I 0, rfl, hodd.1, rfl, hx2.1, hx2.2, .inl hodd.2, ⟨_, rfl, ?_⟩⟩
              exact ⟨rfl, noMu_of rfl, rfl⟩
            refine ee_new ?_
            refine em_rep ?_
            refine em_lst ?_
            refine ed_cons ?_
            refine ee_str ?_
            refine ed_nil ?_
            refine ⟨Nat.le_of_ble_eq_true rfl, ?_⟩
            refine ⟨_, rfl, ?_⟩
            refine ee_int ?_
            refine ⟨_, rfl, by first | omega | (simp only [List.length_map, List.length_append, List.length_cons, List.length_nil, List.length_reverse, List.length_dropLast, List.length_take, List.length_drop, List.length_range, List.length_replicate, Sy.rgS_len, Sy.rgD_len, Ln.downs_len, Ln.upto_len]; omega) | decide | assumption, by first | omega | (simp only [List.length_map, List.length_append, List.length_cons, List.length_nil, List.length_reverse, List.length_dropLast, List.length_take, List.length_drop, List.length_range, List.length_replicate, Sy.rgS_len, Sy.rgD_len, Ln.downs_len, Ln.upto_len]; omega) | decide | assumption, by first | omega | (simp only [List.length_map, List.length_append, List.length_cons, List.length_nil, List.length_reverse, List.length_dropLast, List.length_take, List.length_drop, List.length_range, List.length_replicate, Sy.rgS_len, Sy.rgD_len, Ln.downs_len, Ln.upto_len]; omega) | decide | assumption, ?_⟩
            rw [fm_some]
            refine co_neD hu64 ⟨num_eqk, num_eqk, num_eqk, trivial⟩ ⟨num_eqk, num_eqk, num_eqk, trivial⟩ (Nat.le_of_ble_eq_true rfl) (Nat.le_of_ble_eq_true rfl) fun b hb => ?_
            have hb := b_false hb rfl
            subst hb
            refine ⟨_, rfl, ?_⟩
            refine ⟨fun h => (nomatch h), fun _ => ?_⟩
            refine ss_nil ?_
            exact ⟨some _, none, rfl⟩
          · obtain ⟨o10, o11, rfl⟩ := hJ
            refine ss_one ?_
            refine s_if ?_
            refine eb_cmp ?_
            refine ee_new ?_
            refine em_lcA (own := [("odd", 10)]) (blkOk_by (by rfl)) nd ?_
            refine ei_list ?_
            refine ee_new ?_
            refine em_lst ?_
            refine ed_cons ?_
            refine ee_neg (i := 0) ?_
            refine ee_int ?_
            refine ⟨_, rfl, ?_⟩
            refine ed_cons ?_
            refine ee_non ?_
            refine ed_cons ?_
            refine ee_bl ?_
            refine ed_nil ?_
            refine ⟨Nat.le_of_ble_eq_true rfl, ?_⟩
            refine ⟨_, rfl, ?_⟩
            refine ⟨noMu_of (by cases o10 <;> cases o11 <;> rfl), trivial, _, [I (-1), Nn, Bl false], id, fun _ => some (S_ "number"), (List.map_id _).symm, Nat.le_of_ble_eq_true rfl, fun x hx => ?_, ?_⟩
            · have hodd : okD x = true ∧ intIn x 0 10000000000000000000000000000000000000000 = false := by
                simp only [List.mem_cons, List.not_mem_nil, or_false] at hx
                rcases hx with rfl | rfl | rfl
                · exact ⟨rfl, rfl⟩
                · exact ⟨rfl, rfl⟩
                · exact ⟨rfl, rfl⟩
              refine egb_name 10 (by decide) (by intro _ _ h; cases h) ?_ fun _ _ _ _ _ => pg_name (i := 10) nd rfl (by first | exact .inl rfl | exact .inr rfl)
              refine ebb_nil ?_
              refine ⟨fun _ => ?_, fun h => nomatch h⟩
              refine eeb fun s0 H0 C cl fp => ?_
              refine ee_call (ok__law_outcome T) hr T.g__law_outcome T.F__law_outcome.kp T.b__law_outcome pass0 ?_
              refine ed_cons ?_
              refine ee_int ?_
              refine ed_cons ?_
              refine ee_int ?_
              refine ed_cons ?_
              refine ee_var 10 rfl ?_
              refine ed_nil ?_
              refine ⟨1, I 5, x, rfl, rfl, hodd.1, by decide, by decide, .inr (.inl ⟨rfl, rfl, hodd.2⟩), ⟨_, rfl, ?_⟩⟩
              exact ⟨rfl, noMu_of rfl, rfl⟩
            refine ee_new ?_
            refine em_rep ?_
            refine em_lst ?_
            refine ed_cons ?_
            refine ee_str ?_
            refine ed_nil ?_
            refine ⟨Nat.le_of_ble_eq_true rfl, ?_⟩
            refine ⟨_, rfl, ?_⟩
            refine ee_int ?_
            refine ⟨_, rfl, by first | omega | (simp only [List.length_map, List.length_append, List.length_cons, List.length_nil, List.length_reverse, List.length_dropLast, List.length_take, List.length_drop, List.length_range, List.length_replicate, Sy.rgS_len, Sy.rgD_len, Ln.downs_len, Ln.upto_len]; omega) | decide | assumption, by first | omega | (simp only [List.length_map, List.length_append, List.length_cons, List.length_nil, List.length_reverse, List.length_dropLast, List.length_take, List.length_drop, List.length_range, List.length_replicate, Sy.rgS_len, Sy.rgD_len, Ln.downs_len, Ln.upto_len]; omega) | decide | assumption, by first | omega | (simp only [List.length_map, List.length_append, List.length_cons, List.length_nil, List.length_reverse, List.length_dropLast, List.length_take, List.length_drop, List.length_range, List.length_replicate, Sy.rgS_len, Sy.rgD_len, Ln.downs_len, Ln.upto_len]; omega) | decide | assumption, ?_⟩
            rw [fm_some]
            refine co_neD hu64 ⟨num_eqk, num_eqk, num_eqk, trivial⟩ ⟨num_eqk, num_eqk, num_eqk, trivial⟩ (Nat.le_of_ble_eq_true rfl) (Nat.le_of_ble_eq_true rfl) fun b hb => ?_
            have hb := b_false hb rfl
            subst hb
            refine ⟨_, rfl, ?_⟩
            refine ⟨fun h => (nomatch h), fun _ => ?_⟩
            refine ss_nil ?_
            exact ⟨_, _, _, _, _, _, some _, _, _, none, o11, rfl⟩
    · obtain ⟨d1, d2, d3, d4, d5, d6, o7, d8, d9, o10, o11, rfl⟩ := hI
      refine ss_cons ?_
      refine s_if ?_
      refine eb_cmp ?_
      refine ee_sumL T.z_sum ?_
      refine el_new ?_
      refine em_lcA (own := [("amount", 7)]) (blkOk_by (by rfl)) nd ?_
      refine ei_rg1 T.z_range ?_
      refine ee_int ?_
      refine ⟨_, rfl, by first | omega | (simp only [List.length_map, List.length_append, List.length_cons, List.length_nil, List.length_reverse, List.length_dropLast, List.length_take, List.length_drop, List.length_range, List.length_replicate, Sy.rgS_len, Sy.rgD_len, Ln.downs_len, Ln.upto_len]; omega) | decide | assumption, by first | omega | (simp only [List.length_map, List.length_append, List.length_cons, List.length_nil, List.length_reverse, List.length_dropLast, List.length_take, List.length_drop, List.length_range, List.length_replicate, Sy.rgS_len, Sy.rgD_len, Ln.downs_len, Ln.upto_len]; omega) | decide | assumption, ?_⟩
      refine ⟨noMu_of (by cases o7 <;> cases o10 <;> cases o11 <;> rfl), trivial, _, List.range 17, fun a : Nat => I ((a : Nat) : Int), fun a : Nat => some (I ((Ln.cf (Ln.pl 8 8) 0 a : Nat) : Int)), rg_nat 17, by decide, fun a ha => ?_, ?_⟩
      · have ha := List.mem_range.mp ha
        refine egb_name 7 (by decide) (by intro _ _ h; cases h) ?_ fun _ _ _ _ _ => pg_name (i := 7) nd rfl (by first | exact .inl rfl | exact .inr rfl)
        refine ebb_nil ?_
        refine ⟨fun _ => ?_, fun h => nomatch h⟩
        refine eeb fun s0 H0 C cl fp => ?_
        refine ee_call (ok_count_by_total T) hr T.g_count_by_total T.F_count_by_total.kp T.b_count_by_total pass0 ?_
        refine ed_cons ?_
        refine ee_int ?_
        refine ed_cons ?_
        refine ee_var 7 rfl ?_
        refine ed_nil ?_
        refine ⟨8, a, rfl, by decide, by decide, by omega, ⟨_, rfl, ?_⟩⟩
        exact ⟨rfl, noMu_of rfl, rfl⟩
      refine ⟨_, rfl, ?_⟩
      rw [fm_some]
      refine ⟨(List.range 17).map fun a => ((Ln.cf (Ln.pl 8 8) 0 a : Nat) : Int), by rw [List.map_map]; rfl, ?_⟩
      rw [← Ln.cast_sum, Ln.F2.1]
      refine ee_int ?_
      refine co_ne ?_
      refine ⟨_, rfl, ?_⟩
      refine ⟨fun h => (by simp at h), fun _ => ?_⟩
      refine ss_nil ?_
      refine ss_one ?_
      refine s_ret ?_
      refine ee_cmp ?_
      refine ee_new ?_
      refine em_lcA (own := [("amount", 7)]) (blkOk_by (by rfl)) nd ?_
      refine ei_rg1 T.z_range ?_
      refine ee_int ?_
      refine ⟨_, rfl, by first | omega | (simp only [List.length_map, List.length_append, List.length_cons, List.length_nil, List.length_reverse, List.length_dropLast, List.length_take, List.length_drop, List.length_range, List.length_replicate, Sy.rgS_len, Sy.rgD_len, Ln.downs_len, Ln.upto_len]; omega) | decide | assumption, by first | omega | (simp only [List.length_map, List.length_append, List.length_cons, List.length_nil, List.length_reverse, List.length_dropLast, List.length_take, List.length_drop, List.length_range, List.length_replicate, Sy.rgS_len, Sy.rgD_len, Ln.downs_len, Ln.upto_len]; omega) | decide | assumption, ?_⟩
      refine ⟨noMu_of (by cases o10 <;> cases o11 <;> rfl), trivial, _, List.range 4, fun a : Nat => I ((a : Nat) : Int), fun a : Nat => some (I ((Ln.cf (Ln.pl 3 3) 0 a : Nat) : Int)), rg_nat 4, by decide, fun a ha => ?_, ?_⟩
      · have ha := List.mem_range.mp ha
        refine egb_name 7 (by decide) (by intro _ _ h; cases h) ?_ fun _ _ _ _ _ => pg_name (i := 7) nd rfl (by first | exact .inl rfl | exact .inr rfl)
        refine ebb_nil ?_
        refine ⟨fun _ => ?_, fun h => nomatch h⟩
        refine eeb fun s0 H0 C cl fp => ?_
        refine ee_call (ok_count_by_total T) hr T.g_count_by_total T.F_count_by_total.kp T.b_count_by_total pass0 ?_
        refine ed_cons ?_
        refine ee_int ?_
        refine ed_cons ?_
        refine ee_var 7 rfl ?_
        refine ed_nil ?_
        refine ⟨3, a, rfl, by decide, by decide, by omega, ⟨_, rfl, ?_⟩⟩
        exact ⟨rfl, noMu_of rfl, rfl⟩
      refine ee_new ?_
      refine em_lst ?_
      refine ed_cons ?_
      refine ee_int ?_
      refine ed_cons ?_
      refine ee_int ?_
      refine ed_cons ?_
      refine ee_int ?_
      refine ed_cons ?_
      refine ee_int ?_
      refine ed_nil ?_
      refine ⟨Nat.le_of_ble_eq_true rfl, ?_⟩
      rw [fm_some]
      have e4 : (List.range 4).map (fun a => I ((Ln.cf (Ln.pl 3 3) 0 a : Nat) : Int)) = [1, 2, 3, 0].map I := by
        have e := congrArg (List.map fun x : Nat => I ((x : Nat) : Int)) Ln.F2.2
        rw [List.map_map] at e
        exact e
      rw [e4]
      refine co_eqD hu64 (eqkA_ints [1, 2, 3, 0]) (eqkA_ints [1, 2, 3, 0]) (dep_ints [1, 2, 3, 0]) (dep_ints [1, 2, 3, 0]) fun b hb => ?_
      obtain rfl : b = true := hb.mpr rfl
      exact hq

end
theorem all_mk {l : PySem.W.OpenLaw} {w : World} {K : PySem.W.Frag} {h : Heap} {mg : Str → Option Value} {fa : Addr} (X : K.In h) (G : h.Ns mainGlobals mg) (hfa : mg "law" = some (.ref fa))
    {od0 an0 : Option Addr} {sl0 : Array (Option Value)} {oc0 kV0 dc0 pm0 cd0 ct0 : Value} {f0 : Addr}
    {od1 an1 : Option Addr} {sl1 : Array (Option Value)} {oc1 kV1 dc1 pm1 cd1 ct1 : Value} {f1 : Addr}
    {od2 an2 : Option Addr} {sl2 : Array (Option Value)} {oc2 kV2 dc2 pm2 cd2 ct2 : Value} {f2 : Addr}
    {od3 an3 : Option Addr} {sl3 : Array (Option Value)} {oc3 kV3 dc3 pm3 cd3 ct3 : Value} {f3 : Addr}
    {od4 an4 : Option Addr} {sl4 : Array (Option Value)} {oc4 kV4 dc4 pm4 cd4 ct4 : Value} {f4 : Addr}
    {od5 an5 : Option Addr} {sl5 : Array (Option Value)} {oc5 kV5 dc5 pm5 cd5 ct5 : Value} {f5 : Addr}
    {od6 an6 : Option Addr} {sl6 : Array (Option Value)} {oc6 kV6 dc6 pm6 cd6 ct6 : Value} {f6 : Addr}
    {od7 an7 : Option Addr} {sl7 : Array (Option Value)} {oc7 kV7 dc7 pm7 cd7 ct7 : Value} {f7 : Addr}
    {od8 an8 : Option Addr} {sl8 : Array (Option Value)} {oc8 kV8 dc8 pm8 cd8 ct8 : Value} {f8 : Addr}
    {od9 an9 : Option Addr} {sl9 : Array (Option Value)} {oc9 kV9 dc9 pm9 cd9 ct9 : Value} {f9 : Addr}
    {od10 an10 : Option Addr} {sl10 : Array (Option Value)} {oc10 kV10 dc10 pm10 cd10 ct10 : Value} {f10 : Addr}
    {od11 an11 : Option Addr} {sl11 : Array (Option Value)} {oc11 kV11 dc11 pm11 cd11 ct11 : Value} {f11 : Addr}
    {od12 an12 : Option Addr} {sl12 : Array (Option Value)} {oc12 kV12 dc12 pm12 cd12 ct12 : Value} {f12 : Addr}
    {od13 an13 : Option Addr} {sl13 : Array (Option Value)} {oc13 kV13 dc13 pm13 cd13 ct13 : Value} {f13 : Addr}
    {od14 an14 : Option Addr} {sl14 : Array (Option Value)} {oc14 kV14 dc14 pm14 cd14 ct14 : Value} {f14 : Addr}
    {od15 an15 : Option Addr} {sl15 : Array (Option Value)} {oc15 kV15 dc15 pm15 cd15 ct15 : Value} {f15 : Addr}
    {od16 an16 : Option Addr} {sl16 : Array (Option Value)} {oc16 kV16 dc16 pm16 cd16 ct16 : Value} {f16 : Addr}
    {od17 an17 : Option Addr} {sl17 : Array (Option Value)} {oc17 kV17 dc17 pm17 cd17 ct17 : Value} {f17 : Addr}
    {od18 an18 : Option Addr} {sl18 : Array (Option Value)} {oc18 kV18 dc18 pm18 cd18 ct18 : Value} {f18 : Addr}
    {od19 an19 : Option Addr} {sl19 : Array (Option Value)} {oc19 kV19 dc19 pm19 cd19 ct19 : Value} {f19 : Addr}
    {C_InvalidOrder C_InvalidRule C_InvalidNumber C_InvalidRow C_InvalidCar C_TooMany C_LaneEmpty C_NothingToUndo C_LaneError : Addr}
    {k_MAX_SIZE : Tok}
    {k_MOST : Tok}
    (a0 : PySem.W.nsIn K mainGlobals "is_integer" = some (some (.ref f0))) (l0 : K.lookup f0 = some ⟨oc0, od0, .func (PySem.W.fnOf "is_integer" "is_integer" (defArgs s_is_integer) (defBody s_is_integer) (defScope s_is_integer) .none kV0 dc0 pm0 an0 cd0 ct0), sl0⟩) (c0 : PySem.W.codeIn K cd0 "is_integer" = true) (k0 : PySem.W.keepIn K (.ref f0) = true)
    (a1 : PySem.W.nsIn K mainGlobals "step" = some (some (.ref f1))) (l1 : K.lookup f1 = some ⟨oc1, od1, .func (PySem.W.fnOf "step" "step" (defArgs s_step) (defBody s_step) (defScope s_step) .none kV1 dc1 pm1 an1 cd1 ct1), sl1⟩) (c1 : PySem.W.codeIn K cd1 "step" = true) (k1 : PySem.W.keepIn K (.ref f1) = true)
    (a2 : PySem.W.nsIn K mainGlobals "places_of" = some (some (.ref f2))) (l2 : K.lookup f2 = some ⟨oc2, od2, .func (PySem.W.fnOf "places_of" "places_of" (defArgs s_places_of) (defBody s_places_of) (defScope s_places_of) .none kV2 dc2 pm2 an2 cd2 ct2), sl2⟩) (c2 : PySem.W.codeIn K cd2 "places_of" = true) (k2 : PySem.W.keepIn K (.ref f2) = true)
    (a3 : PySem.W.nsIn K mainGlobals "count_with" = some (some (.ref f3))) (l3 : K.lookup f3 = some ⟨oc3, od3, .func (PySem.W.fnOf "count_with" "count_with" (defArgs s_count_with) (defBody s_count_with) (defScope s_count_with) .none kV3 dc3 pm3 an3 cd3 ct3), sl3⟩) (c3 : PySem.W.codeIn K cd3 "count_with" = true) (k3 : PySem.W.keepIn K (.ref f3) = true)
    (a4 : PySem.W.nsIn K mainGlobals "candidates" = some (some (.ref f4))) (l4 : K.lookup f4 = some ⟨oc4, od4, .func (PySem.W.fnOf "candidates" "candidates" (defArgs s_candidates) (defBody s_candidates) (defScope s_candidates) .none kV4 dc4 pm4 an4 cd4 ct4), sl4⟩) (c4 : PySem.W.codeIn K cd4 "candidates" = true) (k4 : PySem.W.keepIn K (.ref f4) = true)
    (a5 : PySem.W.nsIn K mainGlobals "order_number" = some (some (.ref f5))) (l5 : K.lookup f5 = some ⟨oc5, od5, .func (PySem.W.fnOf "order_number" "order_number" (defArgs s_order_number) (defBody s_order_number) (defScope s_order_number) .none kV5 dc5 pm5 an5 cd5 ct5), sl5⟩) (c5 : PySem.W.codeIn K cd5 "order_number" = true) (k5 : PySem.W.keepIn K (.ref f5) = true)
    (a6 : PySem.W.nsIn K mainGlobals "require_number" = some (some (.ref f6))) (l6 : K.lookup f6 = some ⟨oc6, od6, .func (PySem.W.fnOf "require_number" "require_number" (defArgs s_require_number) (defBody s_require_number) (defScope s_require_number) .none kV6 dc6 pm6 an6 cd6 ct6), sl6⟩) (c6 : PySem.W.codeIn K cd6 "require_number" = true) (k6 : PySem.W.keepIn K (.ref f6) = true)
    (a7 : PySem.W.nsIn K mainGlobals "counted" = some (some (.ref f7))) (l7 : K.lookup f7 = some ⟨oc7, od7, .func (PySem.W.fnOf "counted" "counted" (defArgs s_counted) (defBody s_counted) (defScope s_counted) .none kV7 dc7 pm7 an7 cd7 ct7), sl7⟩) (c7 : PySem.W.codeIn K cd7 "counted" = true) (k7 : PySem.W.keepIn K (.ref f7) = true)
    (a8 : PySem.W.nsIn K mainGlobals "greatest_total" = some (some (.ref f8))) (l8 : K.lookup f8 = some ⟨oc8, od8, .func (PySem.W.fnOf "greatest_total" "greatest_total" (defArgs s_greatest_total) (defBody s_greatest_total) (defScope s_greatest_total) .none kV8 dc8 pm8 an8 cd8 ct8), sl8⟩) (c8 : PySem.W.codeIn K cd8 "greatest_total" = true) (k8 : PySem.W.keepIn K (.ref f8) = true)
    (a9 : PySem.W.nsIn K mainGlobals "count_by_total" = some (some (.ref f9))) (l9 : K.lookup f9 = some ⟨oc9, od9, .func (PySem.W.fnOf "count_by_total" "count_by_total" (defArgs s_count_by_total) (defBody s_count_by_total) (defScope s_count_by_total) .none kV9 dc9 pm9 an9 cd9 ct9), sl9⟩) (c9 : PySem.W.codeIn K cd9 "count_by_total" = true) (k9 : PySem.W.keepIn K (.ref f9) = true)
    (a10 : PySem.W.nsIn K mainGlobals "order_with" = some (some (.ref f10))) (l10 : K.lookup f10 = some ⟨oc10, od10, .func (PySem.W.fnOf "order_with" "order_with" (defArgs s_order_with) (defBody s_order_with) (defScope s_order_with) .none kV10 dc10 pm10 an10 cd10 ct10), sl10⟩) (c10 : PySem.W.codeIn K cd10 "order_with" = true) (k10 : PySem.W.keepIn K (.ref f10) = true)
    (a11 : PySem.W.nsIn K mainGlobals "_law_source" = some (some (.ref f11))) (l11 : K.lookup f11 = some ⟨oc11, od11, .func (PySem.W.fnOf "_law_source" "_law_source" (defArgs s__law_source) (defBody s__law_source) (defScope s__law_source) .none kV11 dc11 pm11 an11 cd11 ct11), sl11⟩) (c11 : PySem.W.codeIn K cd11 "_law_source" = true) (k11 : PySem.W.keepIn K (.ref f11) = true)
    (a12 : PySem.W.nsIn K mainGlobals "_law_pick" = some (some (.ref f12))) (l12 : K.lookup f12 = some ⟨oc12, od12, .func (PySem.W.fnOf "_law_pick" "_law_pick" (defArgs s__law_pick) (defBody s__law_pick) (defScope s__law_pick) .none kV12 dc12 pm12 an12 cd12 ct12), sl12⟩) (c12 : PySem.W.codeIn K cd12 "_law_pick" = true) (k12 : PySem.W.keepIn K (.ref f12) = true)
    (a13 : PySem.W.nsIn K mainGlobals "_law_error_name" = some (some (.ref f13))) (l13 : K.lookup f13 = some ⟨oc13, od13, .func (PySem.W.fnOf "_law_error_name" "_law_error_name" (defArgs s__law_error_name) (defBody s__law_error_name) (defScope s__law_error_name) .none kV13 dc13 pm13 an13 cd13 ct13), sl13⟩) (c13 : PySem.W.codeIn K cd13 "_law_error_name" = true) (k13 : PySem.W.keepIn K (.ref f13) = true)
    (a14 : PySem.W.nsIn K mainGlobals "_law_left" = some (some (.ref f14))) (l14 : K.lookup f14 = some ⟨oc14, od14, .func (PySem.W.fnOf "_law_left" "_law_left" (defArgs s__law_left) (defBody s__law_left) (defScope s__law_left) .none kV14 dc14 pm14 an14 cd14 ct14), sl14⟩) (c14 : PySem.W.codeIn K cd14 "_law_left" = true) (k14 : PySem.W.keepIn K (.ref f14) = true)
    (a15 : PySem.W.nsIn K mainGlobals "_law_row" = some (some (.ref f15))) (l15 : K.lookup f15 = some ⟨oc15, od15, .func (PySem.W.fnOf "_law_row" "_law_row" (defArgs s__law_row) (defBody s__law_row) (defScope s__law_row) .none kV15 dc15 pm15 an15 cd15 ct15), sl15⟩) (c15 : PySem.W.codeIn K cd15 "_law_row" = true) (k15 : PySem.W.keepIn K (.ref f15) = true)
    (a16 : PySem.W.nsIn K mainGlobals "_law_all_lanes" = some (some (.ref f16))) (l16 : K.lookup f16 = some ⟨oc16, od16, .func (PySem.W.fnOf "_law_all_lanes" "_law_all_lanes" (defArgs s__law_all_lanes) (defBody s__law_all_lanes) (defScope s__law_all_lanes) .none kV16 dc16 pm16 an16 cd16 ct16), sl16⟩) (c16 : PySem.W.codeIn K cd16 "_law_all_lanes" = true) (k16 : PySem.W.keepIn K (.ref f16) = true)
    (a17 : PySem.W.nsIn K mainGlobals "_law_outcome" = some (some (.ref f17))) (l17 : K.lookup f17 = some ⟨oc17, od17, .func (PySem.W.fnOf "_law_outcome" "_law_outcome" (defArgs s__law_outcome) (defBody s__law_outcome) (defScope s__law_outcome) .none kV17 dc17 pm17 an17 cd17 ct17), sl17⟩) (c17 : PySem.W.codeIn K cd17 "_law_outcome" = true) (k17 : PySem.W.keepIn K (.ref f17) = true)
    (a18 : PySem.W.nsIn K mainGlobals "_law_is_lane" = some (some (.ref f18))) (l18 : K.lookup f18 = some ⟨oc18, od18, .func (PySem.W.fnOf "_law_is_lane" "_law_is_lane" (defArgs s__law_is_lane) (defBody s__law_is_lane) (defScope s__law_is_lane) .none kV18 dc18 pm18 an18 cd18 ct18), sl18⟩) (c18 : PySem.W.codeIn K cd18 "_law_is_lane" = true) (k18 : PySem.W.keepIn K (.ref f18) = true)
    (a19 : PySem.W.nsIn K mainGlobals "law" = some (some (.ref f19))) (l19 : K.lookup f19 = some ⟨oc19, od19, .func (PySem.W.fnOf "law" "law" (defArgs s_law) (defBody s_law) (defScope s_law) .none kV19 dc19 pm19 an19 cd19 ct19), sl19⟩) (c19 : PySem.W.codeIn K cd19 "law" = true) (k19 : PySem.W.keepIn K (.ref f19) = true)
    (z_len : PySem.W.nsIn K mainGlobals "len" = some none)
    (z_sum : PySem.W.nsIn K mainGlobals "sum" = some none)
    (z_min : PySem.W.nsIn K mainGlobals "min" = some none)
    (z_max : PySem.W.nsIn K mainGlobals "max" = some none)
    (z_sorted : PySem.W.nsIn K mainGlobals "sorted" = some none)
    (z_tuple : PySem.W.nsIn K mainGlobals "tuple" = some none)
    (z_list : PySem.W.nsIn K mainGlobals "list" = some none)
    (z_range : PySem.W.nsIn K mainGlobals "range" = some none)
    (z_enumerate : PySem.W.nsIn K mainGlobals "enumerate" = some none)
    (z_zip : PySem.W.nsIn K mainGlobals "zip" = some none)
    (z_int : PySem.W.nsIn K mainGlobals "int" = some none)
    (z_isinstance : PySem.W.nsIn K mainGlobals "isinstance" = some none)
    (z_dict : PySem.W.nsIn K mainGlobals "dict" = some none)
    (z_bool : PySem.W.nsIn K mainGlobals "bool" = some none)
    (z_ValueError : PySem.W.nsIn K mainGlobals "ValueError" = some none)
    (sp0 : PySem.W.specialIn K (.builtin "object.__class__") "__get__" = some (some (.builtin "getset_descriptor.__get__"))) (tk0 : PySem.W.takesIn K (.builtin "object.__class__") = some true)
    (v_InvalidOrder : PySem.W.nsIn K mainGlobals "InvalidOrder" = some (some (.ref C_InvalidOrder))) (hd_InvalidOrder : PySem.W.hasDictIn K C_InvalidOrder = true) (ty_InvalidOrder : PySem.W.typeIn K (.ref C_InvalidOrder) = some (.type "type"))
    (v_InvalidRule : PySem.W.nsIn K mainGlobals "InvalidRule" = some (some (.ref C_InvalidRule))) (hd_InvalidRule : PySem.W.hasDictIn K C_InvalidRule = true) (ty_InvalidRule : PySem.W.typeIn K (.ref C_InvalidRule) = some (.type "type"))
    (v_InvalidNumber : PySem.W.nsIn K mainGlobals "InvalidNumber" = some (some (.ref C_InvalidNumber))) (hd_InvalidNumber : PySem.W.hasDictIn K C_InvalidNumber = true) (ty_InvalidNumber : PySem.W.typeIn K (.ref C_InvalidNumber) = some (.type "type"))
    (v_InvalidRow : PySem.W.nsIn K mainGlobals "InvalidRow" = some (some (.ref C_InvalidRow))) (hd_InvalidRow : PySem.W.hasDictIn K C_InvalidRow = true) (ty_InvalidRow : PySem.W.typeIn K (.ref C_InvalidRow) = some (.type "type"))
    (v_InvalidCar : PySem.W.nsIn K mainGlobals "InvalidCar" = some (some (.ref C_InvalidCar))) (hd_InvalidCar : PySem.W.hasDictIn K C_InvalidCar = true) (ty_InvalidCar : PySem.W.typeIn K (.ref C_InvalidCar) = some (.type "type"))
    (v_TooMany : PySem.W.nsIn K mainGlobals "TooMany" = some (some (.ref C_TooMany))) (hd_TooMany : PySem.W.hasDictIn K C_TooMany = true) (ty_TooMany : PySem.W.typeIn K (.ref C_TooMany) = some (.type "type"))
    (v_LaneEmpty : PySem.W.nsIn K mainGlobals "LaneEmpty" = some (some (.ref C_LaneEmpty))) (hd_LaneEmpty : PySem.W.hasDictIn K C_LaneEmpty = true) (ty_LaneEmpty : PySem.W.typeIn K (.ref C_LaneEmpty) = some (.type "type"))
    (v_NothingToUndo : PySem.W.nsIn K mainGlobals "NothingToUndo" = some (some (.ref C_NothingToUndo))) (hd_NothingToUndo : PySem.W.hasDictIn K C_NothingToUndo = true) (ty_NothingToUndo : PySem.W.typeIn K (.ref C_NothingToUndo) = some (.type "type"))
    (v_LaneError : PySem.W.nsIn K mainGlobals "LaneError" = some (some (.ref C_LaneError))) (hd_LaneError : PySem.W.hasDictIn K C_LaneError = true) (ty_LaneError : PySem.W.typeIn K (.ref C_LaneError) = some (.type "type"))
    (sb_LaneError : PySem.W.subIn K (.ref C_LaneError) (.type "BaseException") = some true)
    (x_InvalidNumber : PySem.W.excIn K C_InvalidNumber [.type "ValueError", .type "Exception", .type "BaseException", .type "object"] "ValueError.__new__" = true) (kp_InvalidNumber : PySem.W.keepIn K (.ref C_InvalidNumber) = true) (sb_InvalidNumber : PySem.W.subIn K (.ref C_InvalidNumber) (.type "BaseException") = some true) (sv_InvalidNumber : PySem.W.subIn K (.ref C_InvalidNumber) (.type "ValueError") = some true)
    (ga_InvalidNumber : PySem.W.findIn K (.ref C_InvalidNumber) "__getattribute__" = some (some (.builtin "BaseException.__getattribute__"))) (gt_InvalidNumber : PySem.W.findIn K (.ref C_InvalidNumber) "__getattr__" = some none) (cl_InvalidNumber : PySem.W.findIn K (.ref C_InvalidNumber) "__class__" = some (some (.builtin "object.__class__"))) (mo_InvalidNumber : PySem.W.mroIn K C_InvalidNumber (.type "object") = some true)
    (s_InvalidNumber_InvalidOrder : PySem.W.subIn K (.ref C_InvalidNumber) (.ref C_InvalidOrder) = some false)
    (s_InvalidNumber_InvalidRule : PySem.W.subIn K (.ref C_InvalidNumber) (.ref C_InvalidRule) = some false)
    (s_InvalidNumber_InvalidNumber : PySem.W.subIn K (.ref C_InvalidNumber) (.ref C_InvalidNumber) = some true)
    (s_InvalidNumber_InvalidRow : PySem.W.subIn K (.ref C_InvalidNumber) (.ref C_InvalidRow) = some false)
    (s_InvalidNumber_InvalidCar : PySem.W.subIn K (.ref C_InvalidNumber) (.ref C_InvalidCar) = some false)
    (s_InvalidNumber_TooMany : PySem.W.subIn K (.ref C_InvalidNumber) (.ref C_TooMany) = some false)
    (s_InvalidNumber_LaneEmpty : PySem.W.subIn K (.ref C_InvalidNumber) (.ref C_LaneEmpty) = some false)
    (s_InvalidNumber_NothingToUndo : PySem.W.subIn K (.ref C_InvalidNumber) (.ref C_NothingToUndo) = some false)
    (s_InvalidNumber_LaneError : PySem.W.subIn K (.ref C_InvalidNumber) (.ref C_LaneError) = some true)
    (v_MAX_SIZE : PySem.W.nsIn K mainGlobals "MAX_SIZE" = some (some (.int 20 k_MAX_SIZE)))
    (v_MOST : PySem.W.nsIn K mainGlobals "MOST" = some (some (.int 10000000000000000000000000000000000000000 k_MOST)))
    : ∃ fd : FuncData, (∀ (s : Shared) (v : Value), BindsTo s fd ⟨[v], []⟩ [("script", v)]) ∧ ∀ base : Heap, K.In base → base.Ns mainGlobals mg → FnOk l.prog w K mg base CX0 6 fa fd ["script"] (spF K fLawT) := by
  have e := hfa.symm.trans (PySem.W.mg_of X G a19)
  cases e
  have F0 := fun_mk (st := s_is_integer) l0 c0 k0
  have B0 := F0.binds (ps := ["value", "low", "high"]) fun _ _ _ _ _ _ us hl => match us, hl with | [_, _, _], _ => rfl
  have F1 := fun_mk (st := s_step) l1 c1 k1
  have B1 := F1.binds (ps := ["size", "turn", "outside", "number"]) fun _ _ _ _ _ _ us hl => match us, hl with | [_, _, _, _], _ => rfl
  have F2 := fun_mk (st := s_places_of) l2 c2 k2
  have B2 := F2.binds (ps := ["row"]) fun _ _ _ _ _ _ us hl => match us, hl with | [_], _ => rfl
  have F3 := fun_mk (st := s_count_with) l3 c3 k3
  have B3 := F3.binds (ps := ["free", "chosen"]) fun _ _ _ _ _ _ us hl => match us, hl with | [_, _], _ => rfl
  have F4 := fun_mk (st := s_candidates) l4 c4 k4
  have B4 := F4.binds (ps := ["place", "fixed", "free", "chosen"]) fun _ _ _ _ _ _ us hl => match us, hl with | [_, _, _, _], _ => rfl
  have F5 := fun_mk (st := s_order_number) l5 c5 k5
  have B5 := F5.binds (ps := ["row", "number"]) fun _ _ _ _ _ _ us hl => match us, hl with | [_, _], _ => rfl
  have F6 := fun_mk (st := s_require_number) l6 c6 k6
  have B6 := F6.binds (ps := ["value", "low", "high"]) fun _ _ _ _ _ _ us hl => match us, hl with | [_, _, _], _ => rfl
  have F7 := fun_mk (st := s_counted) l7 c7 k7
  have B7 := F7.binds (ps := ["size"]) fun _ _ _ _ _ _ us hl => match us, hl with | [_], _ => rfl
  have F8 := fun_mk (st := s_greatest_total) l8 c8 k8
  have B8 := F8.binds (ps := ["size"]) fun _ _ _ _ _ _ us hl => match us, hl with | [_], _ => rfl
  have F9 := fun_mk (st := s_count_by_total) l9 c9 k9
  have B9 := F9.binds (ps := ["size", "number"]) fun _ _ _ _ _ _ us hl => match us, hl with | [_, _], _ => rfl
  have F10 := fun_mk (st := s_order_with) l10 c10 k10
  have B10 := F10.binds (ps := ["size", "number"]) fun _ _ _ _ _ _ us hl => match us, hl with | [_, _], _ => rfl
  have F11 := fun_mk (st := s__law_source) l11 c11 k11
  have B11 := F11.binds (ps := ["script", "k"]) fun _ _ _ _ _ _ us hl => match us, hl with | [_, _], _ => rfl
  have F12 := fun_mk (st := s__law_pick) l12 c12 k12
  have B12 := F12.binds (ps := ["source", "size"]) fun _ _ _ _ _ _ us hl => match us, hl with | [_, _], _ => rfl
  have F13 := fun_mk (st := s__law_error_name) l13 c13 k13
  have B13 := F13.binds (ps := ["e"]) fun _ _ _ _ _ _ us hl => match us, hl with | [_], _ => rfl
  have F14 := fun_mk (st := s__law_left) l14 c14 k14
  have B14 := F14.binds (ps := ["lane", "by"]) fun _ _ _ _ _ _ us hl => match us, hl with | [_, _], _ => rfl
  have F15 := fun_mk (st := s__law_row) l15 c15 k15
  have B15 := F15.binds (ps := ["lane", "by"]) fun _ _ _ _ _ _ us hl => match us, hl with | [_, _], _ => rfl
  have F16 := fun_mk (st := s__law_all_lanes) l16 c16 k16
  have B16 := F16.binds (ps := ["size"]) fun _ _ _ _ _ _ us hl => match us, hl with | [_], _ => rfl
  have F17 := fun_mk (st := s__law_outcome) l17 c17 k17
  have B17 := F17.binds (ps := ["call", "size", "amount"]) fun _ _ _ _ _ _ us hl => match us, hl with | [_, _, _], _ => rfl
  have F18 := fun_mk (st := s__law_is_lane) l18 c18 k18
  have B18 := F18.binds (ps := ["value", "size"]) fun _ _ _ _ _ _ us hl => match us, hl with | [_, _], _ => rfl
  have F19 := fun_mk (st := s_law) l19 c19 k19
  have B19 := F19.binds (ps := ["script"]) fun _ _ _ _ _ _ us hl => match us, hl with | [_], _ => rfl
  let T : Top K mg := {
    f_is_integer := f0, fd_is_integer := _, F_is_integer := F0, g_is_integer := PySem.W.mg_of X G a0, b_is_integer := B0,
    f_step := f1, fd_step := _, F_step := F1, g_step := PySem.W.mg_of X G a1, b_step := B1,
    f_places_of := f2, fd_places_of := _, F_places_of := F2, g_places_of := PySem.W.mg_of X G a2, b_places_of := B2,
    f_count_with := f3, fd_count_with := _, F_count_with := F3, g_count_with := PySem.W.mg_of X G a3, b_count_with := B3,
    f_candidates := f4, fd_candidates := _, F_candidates := F4, g_candidates := PySem.W.mg_of X G a4, b_candidates := B4,
    f_order_number := f5, fd_order_number := _, F_order_number := F5, g_order_number := PySem.W.mg_of X G a5, b_order_number := B5,
    f_require_number := f6, fd_require_number := _, F_require_number := F6, g_require_number := PySem.W.mg_of X G a6, b_require_number := B6,
    f_counted := f7, fd_counted := _, F_counted := F7, g_counted := PySem.W.mg_of X G a7, b_counted := B7,
    f_greatest_total := f8, fd_greatest_total := _, F_greatest_total := F8, g_greatest_total := PySem.W.mg_of X G a8, b_greatest_total := B8,
    f_count_by_total := f9, fd_count_by_total := _, F_count_by_total := F9, g_count_by_total := PySem.W.mg_of X G a9, b_count_by_total := B9,
    f_order_with := f10, fd_order_with := _, F_order_with := F10, g_order_with := PySem.W.mg_of X G a10, b_order_with := B10,
    f__law_source := f11, fd__law_source := _, F__law_source := F11, g__law_source := PySem.W.mg_of X G a11, b__law_source := B11,
    f__law_pick := f12, fd__law_pick := _, F__law_pick := F12, g__law_pick := PySem.W.mg_of X G a12, b__law_pick := B12,
    f__law_error_name := f13, fd__law_error_name := _, F__law_error_name := F13, g__law_error_name := PySem.W.mg_of X G a13, b__law_error_name := B13,
    f__law_left := f14, fd__law_left := _, F__law_left := F14, g__law_left := PySem.W.mg_of X G a14, b__law_left := B14,
    f__law_row := f15, fd__law_row := _, F__law_row := F15, g__law_row := PySem.W.mg_of X G a15, b__law_row := B15,
    f__law_all_lanes := f16, fd__law_all_lanes := _, F__law_all_lanes := F16, g__law_all_lanes := PySem.W.mg_of X G a16, b__law_all_lanes := B16,
    f__law_outcome := f17, fd__law_outcome := _, F__law_outcome := F17, g__law_outcome := PySem.W.mg_of X G a17, b__law_outcome := B17,
    f__law_is_lane := f18, fd__law_is_lane := _, F__law_is_lane := F18, g__law_is_lane := PySem.W.mg_of X G a18, b__law_is_lane := B18,
    f_law := fa, fd_law := _, F_law := F19, g_law := PySem.W.mg_of X G a19, b_law := B19,
    z_len := PySem.W.mg_none_of X G z_len,
    z_sum := PySem.W.mg_none_of X G z_sum,
    z_min := PySem.W.mg_none_of X G z_min,
    z_max := PySem.W.mg_none_of X G z_max,
    z_sorted := PySem.W.mg_none_of X G z_sorted,
    z_tuple := PySem.W.mg_none_of X G z_tuple,
    z_list := PySem.W.mg_none_of X G z_list,
    z_range := PySem.W.mg_none_of X G z_range,
    z_enumerate := PySem.W.mg_none_of X G z_enumerate,
    z_zip := PySem.W.mg_none_of X G z_zip,
    z_int := PySem.W.mg_none_of X G z_int,
    z_isinstance := PySem.W.mg_none_of X G z_isinstance,
    z_dict := PySem.W.mg_none_of X G z_dict,
    z_bool := PySem.W.mg_none_of X G z_bool,
    z_ValueError := PySem.W.mg_none_of X G z_ValueError,
    C_InvalidOrder := C_InvalidOrder, g_InvalidOrder := PySem.W.mg_of X G v_InvalidOrder,
    C_InvalidRule := C_InvalidRule, g_InvalidRule := PySem.W.mg_of X G v_InvalidRule,
    C_InvalidNumber := C_InvalidNumber, g_InvalidNumber := PySem.W.mg_of X G v_InvalidNumber,
    C_InvalidRow := C_InvalidRow, g_InvalidRow := PySem.W.mg_of X G v_InvalidRow,
    C_InvalidCar := C_InvalidCar, g_InvalidCar := PySem.W.mg_of X G v_InvalidCar,
    C_TooMany := C_TooMany, g_TooMany := PySem.W.mg_of X G v_TooMany,
    C_LaneEmpty := C_LaneEmpty, g_LaneEmpty := PySem.W.mg_of X G v_LaneEmpty,
    C_NothingToUndo := C_NothingToUndo, g_NothingToUndo := PySem.W.mg_of X G v_NothingToUndo,
    C_LaneError := C_LaneError, g_LaneError := PySem.W.mg_of X G v_LaneError,
    e_InvalidNumber := ⟨⟨⟨_, _, _, _, PySem.F.excBase_ValueError, x_InvalidNumber⟩, kp_InvalidNumber, sb_InvalidNumber, ty_InvalidNumber⟩, ⟨ga_InvalidNumber, gt_InvalidNumber, sb_InvalidNumber, hd_InvalidNumber, cl_InvalidNumber, sp0, tk0, mo_InvalidNumber⟩, Sy.ki_cons (Sy.kit_own hd_InvalidOrder ty_InvalidOrder s_InvalidNumber_InvalidOrder s_InvalidNumber_InvalidNumber) (Sy.ki_cons (Sy.kit_own hd_InvalidRule ty_InvalidRule s_InvalidNumber_InvalidRule s_InvalidNumber_InvalidNumber) (Sy.ki_cons (Sy.kit_own hd_InvalidNumber ty_InvalidNumber s_InvalidNumber_InvalidNumber s_InvalidNumber_InvalidNumber) (Sy.ki_cons (Sy.kit_own hd_InvalidRow ty_InvalidRow s_InvalidNumber_InvalidRow s_InvalidNumber_InvalidNumber) (Sy.ki_cons (Sy.kit_own hd_InvalidCar ty_InvalidCar s_InvalidNumber_InvalidCar s_InvalidNumber_InvalidNumber) (Sy.ki_cons (Sy.kit_own hd_TooMany ty_TooMany s_InvalidNumber_TooMany s_InvalidNumber_InvalidNumber) (Sy.ki_cons (Sy.kit_own hd_LaneEmpty ty_LaneEmpty s_InvalidNumber_LaneEmpty s_InvalidNumber_InvalidNumber) (Sy.ki_cons (Sy.kit_own hd_NothingToUndo ty_NothingToUndo s_InvalidNumber_NothingToUndo s_InvalidNumber_InvalidNumber) (Sy.ki_cons (Sy.kit_own hd_LaneError ty_LaneError s_InvalidNumber_LaneError s_InvalidNumber_InvalidNumber) (Sy.ki_nil))))))))), Sy.kit_blt sv_InvalidNumber, PySem.W.exm_ref sb_LaneError hd_LaneError ty_LaneError s_InvalidNumber_LaneError⟩,
    k_MAX_SIZE := k_MAX_SIZE, c_MAX_SIZE := PySem.W.mg_of X G v_MAX_SIZE,
    k_MOST := k_MOST, c_MOST := PySem.W.mg_of X G v_MOST }
  exact ⟨(PySem.W.fnOf "law" "law" (defArgs s_law) (defBody s_law) (defScope s_law) .none kV19 dc19 pm19 an19 cd19 ct19), fun s v => .of_eq rfl, fun base _ _ => ok_law T⟩
end Law
open PySem PySem.W PyProof.Rows
set_option maxHeartbeats 0 in
theorem PySem.Challenge.cw_blockedcars_k33_whole_orders_by_totals_holds : PySem.Challenge.rw_blockedcars_k33_whole_orders_by_totals.Holds := by
  w_on; o_law; k_head; (case hw => w_witness2)
  k_fill
  refine L2.walk_of (l := PySem.Challenge.rw_blockedcars_k33_whole_orders_by_totals) (n := 63) (k := 6) (x := "script") (CX := fun _ => L2.CX0) (sp := fun w => Sy.spF _ Sy.fLawT) rfl (by decide) rfl ⟨rfl, by decide, by decide⟩ (fun w h Y => PySem.W.kIn_of Y) ?F (fun _ _ a ns hl _ hS => Sy.law_start hl hS rfl) (fun _ _ _ _ _ h => h)
  case F =>
    intro w mg fa h KX G hmg
    refine' Law.all_mk KX G hmg ?a0 ?l0 ?c0 ?k0 ?a1 ?l1 ?c1 ?k1 ?a2 ?l2 ?c2 ?k2 ?a3 ?l3 ?c3 ?k3 ?a4 ?l4 ?c4 ?k4 ?a5 ?l5 ?c5 ?k5 ?a6 ?l6 ?c6 ?k6 ?a7 ?l7 ?c7 ?k7 ?a8 ?l8 ?c8 ?k8 ?a9 ?l9 ?c9 ?k9 ?a10 ?l10 ?c10 ?k10 ?a11 ?l11 ?c11 ?k11 ?a12 ?l12 ?c12 ?k12 ?a13 ?l13 ?c13 ?k13 ?a14 ?l14 ?c14 ?k14 ?a15 ?l15 ?c15 ?k15 ?a16 ?l16 ?c16 ?k16 ?a17 ?l17 ?c17 ?k17 ?a18 ?l18 ?c18 ?k18 ?a19 ?l19 ?c19 ?k19 ?z_len ?z_sum ?z_min ?z_max ?z_sorted ?z_tuple ?z_list ?z_range ?z_enumerate ?z_zip ?z_int ?z_isinstance ?z_dict ?z_bool ?z_ValueError ?sp0 ?tk0 ?v_InvalidOrder ?hd_InvalidOrder ?ty_InvalidOrder ?v_InvalidRule ?hd_InvalidRule ?ty_InvalidRule ?v_InvalidNumber ?hd_InvalidNumber ?ty_InvalidNumber ?v_InvalidRow ?hd_InvalidRow ?ty_InvalidRow ?v_InvalidCar ?hd_InvalidCar ?ty_InvalidCar ?v_TooMany ?hd_TooMany ?ty_TooMany ?v_LaneEmpty ?hd_LaneEmpty ?ty_LaneEmpty ?v_NothingToUndo ?hd_NothingToUndo ?ty_NothingToUndo ?v_LaneError ?hd_LaneError ?ty_LaneError ?sb_LaneError ?x_InvalidNumber ?kp_InvalidNumber ?sb_InvalidNumber ?sv_InvalidNumber ?ga_InvalidNumber ?gt_InvalidNumber ?cl_InvalidNumber ?mo_InvalidNumber ?s_InvalidNumber_InvalidOrder ?s_InvalidNumber_InvalidRule ?s_InvalidNumber_InvalidNumber ?s_InvalidNumber_InvalidRow ?s_InvalidNumber_InvalidCar ?s_InvalidNumber_TooMany ?s_InvalidNumber_LaneEmpty ?s_InvalidNumber_NothingToUndo ?s_InvalidNumber_LaneError ?v_MAX_SIZE ?v_MOST
    (case a0 => k_is); (case l0 => k_is); (case c0 => k_is); (case k0 => k_is); (case a1 => k_is); (case l1 => k_is); (case c1 => k_is); (case k1 => k_is); (case a2 => k_is); (case l2 => k_is); (case c2 => k_is); (case k2 => k_is); (case a3 => k_is); (case l3 => k_is); (case c3 => k_is); (case k3 => k_is); (case a4 => k_is); (case l4 => k_is); (case c4 => k_is); (case k4 => k_is); (case a5 => k_is); (case l5 => k_is); (case c5 => k_is); (case k5 => k_is); (case a6 => k_is); (case l6 => k_is); (case c6 => k_is); (case k6 => k_is); (case a7 => k_is); (case l7 => k_is); (case c7 => k_is); (case k7 => k_is); (case a8 => k_is); (case l8 => k_is); (case c8 => k_is); (case k8 => k_is); (case a9 => k_is); (case l9 => k_is); (case c9 => k_is); (case k9 => k_is); (case a10 => k_is); (case l10 => k_is); (case c10 => k_is); (case k10 => k_is); (case a11 => k_is); (case l11 => k_is); (case c11 => k_is); (case k11 => k_is); (case a12 => k_is); (case l12 => k_is); (case c12 => k_is); (case k12 => k_is); (case a13 => k_is); (case l13 => k_is); (case c13 => k_is); (case k13 => k_is); (case a14 => k_is); (case l14 => k_is); (case c14 => k_is); (case k14 => k_is); (case a15 => k_is); (case l15 => k_is); (case c15 => k_is); (case k15 => k_is); (case a16 => k_is); (case l16 => k_is); (case c16 => k_is); (case k16 => k_is); (case a17 => k_is); (case l17 => k_is); (case c17 => k_is); (case k17 => k_is); (case a18 => k_is); (case l18 => k_is); (case c18 => k_is); (case k18 => k_is); (case a19 => k_is); (case l19 => k_is); (case c19 => k_is); (case k19 => k_is); (case z_len => k_is); (case z_sum => k_is); (case z_min => k_is); (case z_max => k_is); (case z_sorted => k_is); (case z_tuple => k_is); (case z_list => k_is); (case z_range => k_is); (case z_enumerate => k_is); (case z_zip => k_is); (case z_int => k_is); (case z_isinstance => k_is); (case z_dict => k_is); (case z_bool => k_is); (case z_ValueError => k_is); (case sp0 => k_is); (case tk0 => k_is); (case v_InvalidOrder => k_is); (case hd_InvalidOrder => k_is); (case ty_InvalidOrder => k_is); (case v_InvalidRule => k_is); (case hd_InvalidRule => k_is); (case ty_InvalidRule => k_is); (case v_InvalidNumber => k_is); (case hd_InvalidNumber => k_is); (case ty_InvalidNumber => k_is); (case v_InvalidRow => k_is); (case hd_InvalidRow => k_is); (case ty_InvalidRow => k_is); (case v_InvalidCar => k_is); (case hd_InvalidCar => k_is); (case ty_InvalidCar => k_is); (case v_TooMany => k_is); (case hd_TooMany => k_is); (case ty_TooMany => k_is); (case v_LaneEmpty => k_is); (case hd_LaneEmpty => k_is); (case ty_LaneEmpty => k_is); (case v_NothingToUndo => k_is); (case hd_NothingToUndo => k_is); (case ty_NothingToUndo => k_is); (case v_LaneError => k_is); (case hd_LaneError => k_is); (case ty_LaneError => k_is); (case sb_LaneError => k_is); (case x_InvalidNumber => k_exc); (case kp_InvalidNumber => k_is); (case sb_InvalidNumber => k_is); (case sv_InvalidNumber => k_is); (case ga_InvalidNumber => k_is); (case gt_InvalidNumber => k_is); (case cl_InvalidNumber => k_is); (case mo_InvalidNumber => k_is); (case s_InvalidNumber_InvalidOrder => k_is); (case s_InvalidNumber_InvalidRule => k_is); (case s_InvalidNumber_InvalidNumber => k_is); (case s_InvalidNumber_InvalidRow => k_is); (case s_InvalidNumber_InvalidCar => k_is); (case s_InvalidNumber_TooMany => k_is); (case s_InvalidNumber_LaneEmpty => k_is); (case s_InvalidNumber_NothingToUndo => k_is); (case s_InvalidNumber_LaneError => k_is); (case v_MAX_SIZE => k_is); (case v_MOST => k_is)

