import PyProof.Rows.All
import Wide.All
import OpenK.AllK
import Wide.FinOn
import HandS.ForMost
import HandS.Exc
import HandS.ExcOwn
import HandS.TryOnly
import HandS.WordsExc
import HandS.IsInst
import HandS.Walk
import HandS.Style
import HandS.Conv
import HandS.TupAny
import HandS.TupMul
import HandS.More
import HandS.SortInts
import KE.DatumIndex
import KE.DatumOrd
import PyProof.Rows.SortShellAny
import KE.GoesMore
import KE.GoesEnum
import KE.KTupSum
import HandS.Iter
import HandS.Dict
import KE.SortData
import HandS.Zip
import HandS.SetFor
import HandS.Strs
import HandS.Deep
import HandS.Call
import HandS.Hot
import HandS.HotCalls
import HandS.ExcIs
import HandS.ExcCtx
import HandS.StrSplit
import PySem.Challenge.RW_blockedcars_k41_places_for_one_more_car
set_option Elab.async false
set_option linter.all false
set_option maxRecDepth 100000
set_option maxHeartbeats 4000000
namespace Sy
open PySem PySem.Spec PyProof.Rows L2

/-! ### data, what stands in a slot -/
inductive D where
  | v (x : V)
  | tup (ds : List D)
  | lst (ds : List D)
  | dct (kvs : List (Key × D))
  /-- a tuple of which it isn't known that it has no dict (a pair that an iterator made) -/
  | wt (ds : List D)
abbrev I (i : Int) : D := .v (.int i)
abbrev Bl (b : Bool) : D := .v (.bl b)
abbrev Nn : D := .v .non
abbrev S_ (x : Str) : D := .v (.str x)

/-- a plain tuple at a, its items xs: the object is told whole, its dict is none -/
def PlT (K : PySem.W.Frag) (B : Hp) (a : Addr) (xs : List V) : Prop :=
  (∃ o : Obj, B a = some (.frz o (.tup xs)) ∧ o.cls = .type "tuple" ∧ o.dict = none) ∨
    ∃ (o : Obj) (its : Array Value) (n : Nat), K.lookup a = some o ∧ o.cls = .type "tuple" ∧ o.dict = none ∧ o.data = .seq its n ∧ its.size ≤ sizeLine ∧ Vals xs its.toList
theorem PlT.sq {K : PySem.W.Frag} {B : Hp} {a : Addr} {xs : List V} (h : PlT K B a xs) : SqT K B a xs := by
  rcases h with ⟨o, h, _, _⟩ | ⟨o, its, n, h1, h2, _, h3, h4, h5⟩
  · exact .inl (.inr ⟨o, h⟩)
  · exact .inr ⟨o, its, n, h1, h2, h3, h4, h5⟩
theorem PlT.mono {K : PySem.W.Frag} {B B' : Hp} {a : Addr} {xs : List V} (e : Same B B') (h : PlT K B a xs) : PlT K B' a xs := by
  rcases h with ⟨o, h, q⟩ | h
  · exact .inl ⟨o, e _ _ h, q⟩
  · exact .inr h
mutual
def Rp (K : PySem.W.Frag) (B : Hp) : D → V → Prop
  | .v x, u => u = x
  | .tup ds, u => ∃ a xs, u = .ref a ∧ PlT K B a xs ∧ RpA K B ds xs
  | .wt ds, u => ∃ a xs, u = .ref a ∧ SqT K B a xs ∧ RpA K B ds xs
  | .lst ds, u => ∃ a xs, u = .ref a ∧ SqL K B a xs ∧ RpA K B ds xs
  | .dct kvs, u => ∃ a ks, u = .ref a ∧ B a = some (.dK ks) ∧ RpK K B kvs ks
def RpA (K : PySem.W.Frag) (B : Hp) : List D → List V → Prop
  | [], xs => xs = []
  | d :: ds, xs => ∃ x r, xs = x :: r ∧ Rp K B d x ∧ RpA K B ds r
def RpK (K : PySem.W.Frag) (B : Hp) : List (Key × D) → List (Key × V) → Prop
  | [], xs => xs = []
  | (k, d) :: ds, xs => ∃ x r, xs = (k, x) :: r ∧ Rp K B d x ∧ RpK K B ds r
end

theorem rd_same {B B' : Hp} {a : Addr} {u : HO} (e : Same B B') (h : Rd B a u) : Rd B' a u := by
  rcases h with h | ⟨o, h⟩
  · exact .inl (e _ _ h)
  · exact .inr ⟨o, e _ _ h⟩
theorem sqL_same {K : PySem.W.Frag} {B B' : Hp} {a : Addr} {xs : List V} (e : Same B B') (h : SqL K B a xs) : SqL K B' a xs := by
  rcases h with h | h
  · exact .inl (rd_same e h)
  · exact .inr h
theorem sqT_same {K : PySem.W.Frag} {B B' : Hp} {a : Addr} {xs : List V} (e : Same B B') (h : SqT K B a xs) : SqT K B' a xs := by
  rcases h with h | h
  · exact .inl (rd_same e h)
  · exact .inr h
section
variable {K : PySem.W.Frag} {B B' : Hp}
mutual
theorem Rp.mono (e : Same B B') : ∀ (d : D) (v : V), Rp K B d v → Rp K B' d v
  | .v x, u, h => h
  | .tup ds, u, h => by
    obtain ⟨a, xs, e1, h1, h2⟩ := h
    exact ⟨a, xs, e1, h1.mono e, RpA.mono e ds xs h2⟩
  | .wt ds, u, h => by
    obtain ⟨a, xs, e1, h1, h2⟩ := h
    exact ⟨a, xs, e1, sqT_same e h1, RpA.mono e ds xs h2⟩
  | .lst ds, u, h => by
    obtain ⟨a, xs, e1, h1, h2⟩ := h
    exact ⟨a, xs, e1, sqL_same e h1, RpA.mono e ds xs h2⟩
  | .dct kvs, u, h => by
    obtain ⟨a, xs, e1, h1, h2⟩ := h
    exact ⟨a, xs, e1, e _ _ h1, RpK.mono e kvs xs h2⟩
theorem RpA.mono (e : Same B B') : ∀ (ds : List D) (vs : List V), RpA K B ds vs → RpA K B' ds vs
  | [], vs, h => h
  | d :: ds, vs, h => by
    obtain ⟨x, r, e1, h1, h2⟩ := h
    exact ⟨x, r, e1, Rp.mono e d x h1, RpA.mono e ds r h2⟩
theorem RpK.mono (e : Same B B') : ∀ (ds : List (Key × D)) (vs : List (Key × V)), RpK K B ds vs → RpK K B' ds vs
  | [], vs, h => h
  | (k, d) :: ds, vs, h => by
    obtain ⟨x, r, e1, h1, h2⟩ := h
    exact ⟨x, r, e1, Rp.mono e d x h1, RpK.mono e ds r h2⟩
end
theorem RpA.length : ∀ {ds : List D} {vs : List V}, RpA K B ds vs → vs.length = ds.length
  | [], vs, h => by cases h; rfl
  | d :: ds, vs, h => by
    obtain ⟨x, r, rfl, h1, h2⟩ := h
    rw [List.length_cons, List.length_cons, RpA.length h2]
theorem RpA.get : ∀ {ds : List D} {vs : List V} {i : Nat} {d : D}, RpA K B ds vs → ds[i]? = some d → ∃ v, vs[i]? = some v ∧ Rp K B d v
  | [], vs, i, d, h, e => by simp at e
  | x :: ds, vs, 0, d, h, e => by
    obtain ⟨v, r, rfl, h1, h2⟩ := h
    have e1 : x = d := Option.some.inj e
    exact ⟨v, rfl, e1 ▸ h1⟩
  | x :: ds, vs, i + 1, d, h, e => by
    obtain ⟨v, r, rfl, h1, h2⟩ := h
    obtain ⟨w, hw, hr⟩ := RpA.get (i := i) (d := d) h2 e
    exact ⟨w, hw, hr⟩
theorem RpA.getV : ∀ {ds : List D} {vs : List V} {i : Nat} {v : V}, RpA K B ds vs → vs[i]? = some v → ∃ d, ds[i]? = some d ∧ Rp K B d v
  | [], vs, i, d, h, e => by cases h; simp at e
  | x :: ds, vs, 0, d, h, e => by
    obtain ⟨v, r, rfl, h1, h2⟩ := h
    have e1 : v = d := Option.some.inj e
    exact ⟨x, rfl, e1 ▸ h1⟩
  | x :: ds, vs, i + 1, d, h, e => by
    obtain ⟨v, r, rfl, h1, h2⟩ := h
    obtain ⟨w, hw, hr⟩ := RpA.getV (i := i) (v := d) h2 e
    exact ⟨w, hw, hr⟩
theorem RpA.append : ∀ {ds es : List D} {vs us : List V}, RpA K B ds vs → RpA K B es us → RpA K B (ds ++ es) (vs ++ us)
  | [], es, vs, us, h, q => by cases h; exact q
  | d :: ds, es, vs, us, h, q => by
    obtain ⟨x, r, rfl, h1, h2⟩ := h
    exact ⟨x, r ++ us, rfl, h1, RpA.append h2 q⟩
theorem RpA.take : ∀ {ds : List D} {vs : List V} (n : Nat), RpA K B ds vs → RpA K B (ds.take n) (vs.take n)
  | ds, vs, 0, h => by rw [List.take_zero, List.take_zero]; exact rfl
  | [], vs, n + 1, h => by cases h; exact rfl
  | d :: ds, vs, n + 1, h => by
    obtain ⟨x, r, rfl, h1, h2⟩ := h
    exact ⟨x, r.take n, rfl, h1, RpA.take n h2⟩
theorem RpA.drop : ∀ {ds : List D} {vs : List V} (n : Nat), RpA K B ds vs → RpA K B (ds.drop n) (vs.drop n)
  | ds, vs, 0, h => h
  | [], vs, n + 1, h => by cases h; exact rfl
  | d :: ds, vs, n + 1, h => by
    obtain ⟨x, r, rfl, h1, h2⟩ := h
    exact RpA.drop n h2
theorem RpA.reverse : ∀ {ds : List D} {vs : List V}, RpA K B ds vs → RpA K B ds.reverse vs.reverse
  | [], vs, h => by cases h; exact rfl
  | d :: ds, vs, h => by
    obtain ⟨x, r, rfl, h1, h2⟩ := h
    rw [List.reverse_cons, List.reverse_cons]
    exact RpA.append (RpA.reverse h2) ⟨x, [], rfl, h1, rfl⟩
theorem RpA.set : ∀ {ds : List D} {vs : List V} {d : D} {v : V} (i : Nat), RpA K B ds vs → Rp K B d v → RpA K B (ds.set i d) (vs.set i v)
  | [], vs, d, v, i, h, q => by cases h; exact rfl
  | x :: ds, vs, d, v, 0, h, q => by
    obtain ⟨y, r, rfl, h1, h2⟩ := h
    exact ⟨v, r, rfl, q, h2⟩
  | x :: ds, vs, d, v, i + 1, h, q => by
    obtain ⟨y, r, rfl, h1, h2⟩ := h
    exact ⟨y, r.set i v, rfl, h1, RpA.set i h2 q⟩
theorem RpA.eraseIdx : ∀ {ds : List D} {vs : List V} (i : Nat), RpA K B ds vs → RpA K B (ds.eraseIdx i) (vs.eraseIdx i)
  | [], vs, i, h => by cases h; exact rfl
  | x :: ds, vs, 0, h => by
    obtain ⟨y, r, rfl, h1, h2⟩ := h
    exact h2
  | x :: ds, vs, i + 1, h => by
    obtain ⟨y, r, rfl, h1, h2⟩ := h
    exact ⟨y, r.eraseIdx i, rfl, h1, RpA.eraseIdx i h2⟩
/-- atoms -/
theorem RpA.atoms : ∀ {xs : List V}, RpA K B (xs.map D.v) xs
  | [] => rfl
  | x :: r => ⟨x, r, rfl, rfl, RpA.atoms⟩
theorem RpA.atoms_eq : ∀ {xs : List V} {vs : List V}, RpA K B (xs.map D.v) vs → vs = xs
  | [], vs, h => h
  | x :: r, vs, h => by
    obtain ⟨y, q, rfl, h1, h2⟩ := h
    have e1 : y = x := h1
    rw [e1, RpA.atoms_eq h2]
theorem RpA.ints_eq {ns : List Int} {vs : List V} (h : RpA K B (ns.map I) vs) : vs = ns.map V.int := by
  have e : ns.map I = (ns.map V.int).map D.v := by rw [List.map_map]; rfl
  rw [e] at h
  exact RpA.atoms_eq h
theorem RpA.ints {ns : List Int} : RpA K B (ns.map I) (ns.map V.int) := by
  have e : ns.map I = (ns.map V.int).map D.v := by rw [List.map_map]; rfl
  rw [e]
  exact RpA.atoms
end

/-- a mutable object's content -/
inductive MO where
  | lst (ds : List D)
  | dK (kvs : List (Key × D))
def RpO (K : PySem.W.Frag) (B : Hp) : MO → HO → Prop
  | .lst ds, o => ∃ xs, o = .lst xs ∧ RpA K B ds xs
  | .dK kvs, o => ∃ ks, o = .dK ks ∧ RpK K B kvs ks
theorem RpO.mono {K : PySem.W.Frag} {B B' : Hp} (e : Same B B') : ∀ {mo : MO} {o : HO}, RpO K B mo o → RpO K B' mo o
  | .lst ds, o, ⟨xs, e1, h⟩ => ⟨xs, e1, h.mono e⟩
  | .dK kvs, o, ⟨xs, e1, h⟩ => ⟨xs, e1, h.mono e⟩
def MO.frz : MO → D
  | .lst ds => .lst ds
  | .dK kvs => .dct kvs
inductive Desc where
  | un
  | dat (d : D)
  | mu (a : Addr) (mo : MO)
def SlotOk (K : PySem.W.Frag) (B M : Hp) : Option V → Desc → Prop
  | _, .un => True
  | s, .dat d => ∃ v, s = some v ∧ Rp K B d v
  | s, .mu a mo => s = some (.ref a) ∧ ∃ o, M a = some o ∧ RpO K B mo o

/-! ### two heaps joined: what stays, what changes -/
def J (B M : Hp) : Hp := fun a => match M a with
  | some o => some o
  | none => B a
section
variable {B M : Hp} {a p : Addr} {o : HO}
theorem J_M (h : M a = some o) : J B M a = some o := by unfold J; rw [h]
theorem J_B (h : M a = none) : J B M a = B a := by unfold J; rw [h]
theorem J_none (h : J B M p = none) : M p = none ∧ B p = none := by
  cases e : M p with
  | none => rw [J_B e] at h; exact ⟨rfl, h⟩
  | some o => rw [J_M e] at h; cases h
theorem upd_JM : upd (J B M) p o = J B (upd M p o) := by
  funext b
  by_cases h : b = p
  · rw [h, upd_same, J_M upd_same]
  · rw [upd_ne h]
    cases e : M b with
    | none => rw [J_B e, J_B (by rw [upd_ne h]; exact e)]
    | some u => rw [J_M e, J_M (by rw [upd_ne h]; exact e)]
theorem upd_JB (h : M p = none) : upd (J B M) p o = J (upd B p o) M := by
  funext b
  by_cases hb : b = p
  · rw [hb, upd_same, J_B h, upd_same]
  · rw [upd_ne hb]
    cases e : M b with
    | none => rw [J_B e, J_B e, upd_ne hb]
    | some u => rw [J_M e, J_M e]
theorem J_same (h : ∀ a o, M a = some o → B a = none) : Same B (J B M) := fun b o e => by
  cases q : M b with
  | none => rw [J_B q]; exact e
  | some u => rw [h b u q] at e; cases e
theorem same_new (h : B p = none) : Same B (upd B p o) := fun b u e => by rw [upd_ne (ne_of_none e h)]; exact e
/-- without p -/
def del (M : Hp) (p : Addr) : Hp := fun b => if b = p then none else M b
theorem del_same : del M p p = none := by unfold del; rw [if_pos rfl]
theorem del_ne (h : a ≠ p) : del M p a = M a := by unfold del; rw [if_neg h]
theorem J_del (h : M p = some o) : J (upd B p o) (del M p) = J B M := by
  funext b
  by_cases hb : b = p
  · rw [hb, J_B del_same, upd_same, J_M h]
  · cases e : M b with
    | none => rw [J_B e, J_B (by rw [del_ne hb]; exact e), upd_ne hb]
    | some u => rw [J_M e, J_M (by rw [del_ne hb]; exact e)]
end

theorem get_set {α : Type} {l : List α} {i j : Nat} {x y : α} (h : (l.set i x)[j]? = some y) : (y = x ∧ i = j) ∨ (i ≠ j ∧ l[j]? = some y) := by
  by_cases hij : i = j
  · subst hij
    have hl : i < (l.set i x).length := (List.getElem?_eq_some_iff.mp h).1
    rw [List.length_set] at hl
    rw [List.getElem?_set_self hl] at h
    exact .inl ⟨(Option.some.inj h).symm, rfl⟩
  · rw [List.getElem?_set_ne hij] at h
    exact .inr ⟨hij, h⟩
/-! ### what the slots hold: all that a state is known by -/
structure Conc (K : PySem.W.Frag) (M0 : Hp) (env : List Desc) (B M : Hp) (σ : List (Option V)) : Prop where
  dis : ∀ (a : Addr) (o : HO), M a = some o → B a = none
  len : σ.length = env.length
  slot : ∀ (i : Nat) (d : Desc), env[i]? = some d → ∃ s : Option V, σ[i]? = some s ∧ SlotOk K B M s d
  nd : ∀ (i j : Nat) (a : Addr) (mo mo' : MO), env[i]? = some (.mu a mo) → env[j]? = some (.mu a mo') → i = j
  fresh : ∀ (i : Nat) (a : Addr) (mo : MO), env[i]? = some (.mu a mo) → M0 a = none
  frame : ∀ a : Addr, (∀ (i : Nat) (mo : MO), env[i]? ≠ some (.mu a mo)) → M a = M0 a
section
variable {K : PySem.W.Frag} {M0 B B' M : Hp} {env : List Desc} {σ : List (Option V)} {i : Nat} {d : D} {v : V} {a p : Addr} {mo mo' : MO} {o o' : HO}
theorem SlotOk.mono {s : Option V} (e : Same B B') : ∀ {d : Desc}, SlotOk K B M s d → SlotOk K B' M s d
  | .un, _ => trivial
  | .dat d, ⟨v, e1, h⟩ => ⟨v, e1, Rp.mono e d v h⟩
  | .mu a mo, ⟨e1, o, e2, h⟩ => ⟨e1, o, e2, h.mono e⟩
theorem Conc.ext (c : Conc K M0 env B M σ) (e : Same B B') (h : ∀ a o, M a = some o → B' a = none) : Conc K M0 env B' M σ :=
  ⟨h, c.len, fun i d q => let ⟨s, h1, h2⟩ := c.slot i d q; ⟨s, h1, h2.mono e⟩, c.nd, c.fresh, c.frame⟩
/-- something new that stays -/
theorem Conc.new (c : Conc K M0 env B M σ) (h : M p = none) (hb : B p = none) : Conc K M0 env (upd B p o) M σ :=
  c.ext (same_new hb) fun a u q => by
    rw [upd_ne (fun z => by rw [z, h] at q; cases q)]
    exact c.dis a u q
theorem Conc.same (c : Conc K M0 env B M σ) : Same B (J B M) := J_same c.dis
/-- a slot forgotten -/
theorem Conc.drop (c : Conc K M0 env B M σ) (i : Nat) : ∃ B' M', J B' M' = J B M ∧ Same B B' ∧ Conc K M0 (env.set i .un) B' M' σ := by
  have gen : ∀ (j : Nat) (d : Desc), (env.set i .un)[j]? = some d → (d = .un ∨ (j ≠ i ∧ env[j]? = some d)) := fun j d q => by
    rcases get_set q with ⟨e, _⟩ | ⟨hne, e⟩
    · exact .inl e
    · exact .inr ⟨fun z => hne z.symm, e⟩
  have slotsAny : ∀ (B' M' : Hp), (∀ (j : Nat) (d : Desc), j ≠ i → env[j]? = some d → ∃ s, σ[j]? = some s ∧ SlotOk K B' M' s d) → ∀ (j : Nat) (d : Desc), (env.set i .un)[j]? = some d → ∃ s, σ[j]? = some s ∧ SlotOk K B' M' s d := fun B' M' h j d q => by
    have hj : j < σ.length := by
      have z := (List.getElem?_eq_some_iff.mp q).1
      rw [List.length_set] at z
      rw [c.len]; exact z
    rcases gen j d q with e | ⟨e1, e2⟩
    · subst e
      exact ⟨σ[j], List.getElem?_eq_getElem hj, trivial⟩
    · exact h j d e1 e2
  have nd' : ∀ (j k : Nat) (a : Addr) (mo mo' : MO), (env.set i .un)[j]? = some (.mu a mo) → (env.set i .un)[k]? = some (.mu a mo') → j = k := fun j k a mo mo' q1 q2 => by
    rcases gen j _ q1 with e | ⟨_, e1⟩
    · cases e
    · rcases gen k _ q2 with e | ⟨_, e2⟩
      · cases e
      · exact c.nd j k a mo mo' e1 e2
  have fresh' : ∀ (j : Nat) (a : Addr) (mo : MO), (env.set i .un)[j]? = some (.mu a mo) → M0 a = none := fun j a mo q => by
    rcases gen j _ q with e | ⟨_, e1⟩
    · cases e
    · exact c.fresh j a mo e1
  have up : ∀ (j : Nat) (d : Desc), j ≠ i → env[j]? = some d → (env.set i .un)[j]? = some d := fun j d hj q => by rw [List.getElem?_set_ne (Ne.symm hj)]; exact q
  by_cases hm : ∃ a mo, env[i]? = some (.mu a mo)
  · obtain ⟨a, mo, hi⟩ := hm
    obtain ⟨s, hs, e1, o, ho, hr⟩ := c.slot i _ hi
    have hne : ∀ (j : Nat) (b : Addr) (mo' : MO), j ≠ i → env[j]? = some (.mu b mo') → b ≠ a := fun j b mo' hj q z => by
      subst z
      exact hj (c.nd j i b mo' mo q hi)
    refine ⟨upd B a o, del M a, J_del ho, same_new (c.dis a o ho), ?_, by rw [List.length_set]; exact c.len, slotsAny _ _ fun j d hj q => ?_, nd', fresh', fun b hb => ?_⟩
    · intro b u q
      by_cases hba : b = a
      · rw [hba, del_same] at q; cases q
      · rw [del_ne hba] at q
        rw [upd_ne hba]
        exact c.dis b u q
    · obtain ⟨s', h1, h2⟩ := c.slot j d q
      refine ⟨s', h1, ?_⟩
      have h3 := h2.mono (same_new (o := o) (c.dis a o ho))
      cases d with
      | un => trivial
      | dat d => exact h3
      | mu b mo' =>
        obtain ⟨z1, o', z2, z3⟩ := h3
        exact ⟨z1, o', by rw [del_ne (hne j b mo' hj q)]; exact z2, z3⟩
    · by_cases hba : b = a
      · rw [hba, del_same, c.fresh i a mo hi]
      · rw [del_ne hba]
        refine c.frame b fun j mo' q => ?_
        by_cases hj : j = i
        · rw [hj, hi] at q
          cases q
          exact hba rfl
        · exact hb j mo' (up j _ hj q)
  · refine ⟨B, M, rfl, Same.refl B, c.dis, by rw [List.length_set]; exact c.len, slotsAny _ _ fun j d _ q => c.slot j d q, nd', fresh', fun b hb => ?_⟩
    refine c.frame b fun j mo' q => ?_
    by_cases hj : j = i
    · exact hm ⟨b, mo', by rw [← hj]; exact q⟩
    · exact hb j mo' (up j _ hj q)
/-- a slot that holds nothing of one's own takes a value -/
theorem Conc.setU (c : Conc K M0 env B M σ) (hi : ∀ (a : Addr) (mo : MO), env[i]? ≠ some (.mu a mo)) (hr : Rp K B d v) : Conc K M0 (env.set i (.dat d)) B M (σ.set i (some v)) := by
  have gen : ∀ (j : Nat) (d' : Desc), (env.set i (.dat d))[j]? = some d' → ((d' = .dat d ∧ i = j) ∨ (i ≠ j ∧ env[j]? = some d')) := fun j d' q => by
    rcases get_set q with ⟨e, z⟩ | ⟨hne, e⟩
    · exact .inl ⟨e, z⟩
    · exact .inr ⟨hne, e⟩
  have mu : ∀ (j : Nat) (a : Addr) (mo : MO), (env.set i (.dat d))[j]? = some (.mu a mo) → env[j]? = some (.mu a mo) := fun j a mo q => by
    rcases gen j _ q with ⟨e, _⟩ | ⟨_, e⟩
    · cases e
    · exact e
  refine ⟨c.dis, by rw [List.length_set, List.length_set]; exact c.len, fun j d' q => ?_, fun j k a mo mo' q1 q2 => c.nd j k a mo mo' (mu j a mo q1) (mu k a mo' q2), fun j a mo q => c.fresh j a mo (mu j a mo q), fun b hb => c.frame b fun j mo q => ?_⟩
  · have hj : j < σ.length := by
      have z := (List.getElem?_eq_some_iff.mp q).1
      rw [List.length_set] at z
      rw [c.len]; exact z
    rcases gen j d' q with ⟨e1, e2⟩ | ⟨e1, e2⟩
    · subst e1 e2
      exact ⟨some v, by rw [List.getElem?_set_self hj], v, rfl, hr⟩
    · obtain ⟨s, h1, h2⟩ := c.slot j d' e2
      exact ⟨s, by rw [List.getElem?_set_ne e1]; exact h1, h2⟩
  · refine hb j mo ?_
    rw [List.getElem?_set_ne (fun z => hi b mo (by rw [z]; exact q))]
    exact q
theorem Conc.set (c : Conc K M0 env B M σ) (i : Nat) (hr : Rp K B d v) : ∃ B' M', J B' M' = J B M ∧ Same B B' ∧ Conc K M0 (env.set i (.dat d)) B' M' (σ.set i (some v)) := by
  obtain ⟨B', M', e1, e2, c'⟩ := c.drop i
  refine ⟨B', M', e1, e2, ?_⟩
  have c2 := c'.setU (i := i) (d := d) (v := v) (fun a mo q => by
    rcases get_set q with ⟨e, _⟩ | ⟨hne, _⟩
    · cases e
    · exact hne rfl) (Rp.mono e2 d v hr)
  rw [List.set_set] at c2
  exact c2
/-- a slot takes a new thing of one's own -/
theorem Conc.setM (c : Conc K M0 env B M σ) (i : Nat) (hp : M p = none) (hb : B p = none) (hr : RpO K B mo o) (hi : i < env.length) :
    ∃ B' M', J B' M' = J B (upd M p o) ∧ Same B B' ∧ Conc K M0 (env.set i (.mu p mo)) B' M' (σ.set i (some (.ref p))) := by
  obtain ⟨B', M', e1, e2, c'⟩ := c.drop i
  have hJ : J B' M' p = none := by rw [e1, J_B hp]; exact hb
  obtain ⟨hp', hb'⟩ := J_none hJ
  have h0 : M0 p = none := by
    rw [← c'.frame p fun j mo' q => ?_]
    · exact hp'
    · obtain ⟨s, _, _, u, hu, _⟩ := c'.slot j _ q
      rw [hp'] at hu; cases hu
  refine ⟨B', upd M' p o, by rw [← upd_JM, e1, upd_JM], e2, ?_⟩
  have gen : ∀ (j : Nat) (d' : Desc), (env.set i (.mu p mo))[j]? = some d' → ((d' = .mu p mo ∧ i = j) ∨ (i ≠ j ∧ (env.set i .un)[j]? = some d')) := fun j d' q => by
    rcases get_set q with ⟨e, z⟩ | ⟨hne, e⟩
    · exact .inl ⟨e, z⟩
    · exact .inr ⟨hne, by rw [List.getElem?_set_ne hne]; exact e⟩
  have other : ∀ (j : Nat) (a' : Addr) (mo' : MO), (env.set i .un)[j]? = some (.mu a' mo') → a' ≠ p := fun j a' mo' q z => by
    obtain ⟨s, _, _, u, hu, _⟩ := c'.slot j _ q
    rw [z, hp'] at hu; cases hu
  refine ⟨fun b u q => ?_, by rw [List.length_set, List.length_set]; exact c.len, fun j d' q => ?_, fun j k a' mo1 mo2 q1 q2 => ?_, fun j a' mo' q => ?_, fun b hbb => ?_⟩
  · by_cases hbp : b = p
    · rw [hbp]; exact hb'
    · rw [upd_ne hbp] at q
      exact c'.dis b u q
  · have hj : j < σ.length := by
      have z := (List.getElem?_eq_some_iff.mp q).1
      rw [List.length_set] at z
      rw [c.len]; exact z
    rcases gen j d' q with ⟨e3, e4⟩ | ⟨e3, e4⟩
    · subst e3 e4
      exact ⟨some (.ref p), by rw [List.getElem?_set_self hj], rfl, o, upd_same, hr.mono e2⟩
    · obtain ⟨s, h1, h2⟩ := c'.slot j d' e4
      refine ⟨s, by rw [List.getElem?_set_ne e3]; exact h1, ?_⟩
      cases d' with
      | un => trivial
      | dat d => exact h2
      | mu b mo' =>
        obtain ⟨z1, u, z2, z3⟩ := h2
        exact ⟨z1, u, by rw [upd_ne (other j b mo' e4)]; exact z2, z3⟩
  · rcases gen j _ q1 with ⟨e3, e4⟩ | ⟨e3, e4⟩
    · rcases gen k _ q2 with ⟨e5, e6⟩ | ⟨e5, e6⟩
      · rw [← e4, ← e6]
      · cases e3
        exact (other k _ _ e6 rfl).elim
    · rcases gen k _ q2 with ⟨e5, e6⟩ | ⟨e5, e6⟩
      · cases e5
        exact (other j _ _ e4 rfl).elim
      · exact c'.nd j k a' mo1 mo2 e4 e6
  · rcases gen j _ q with ⟨e3, _⟩ | ⟨_, e4⟩
    · cases e3; exact h0
    · exact c'.fresh j a' mo' e4
  · have hbp : b ≠ p := fun z => by
      refine hbb i mo ?_
      rw [z, List.getElem?_set_self hi]
    rw [upd_ne hbp]
    refine c'.frame b fun j mo' q => ?_
    by_cases hj : i = j
    · rw [← hj, List.getElem?_set_self hi] at q; cases q
    · exact hbb j mo' (by rw [List.getElem?_set_ne hj]; rw [List.getElem?_set_ne hj] at q; exact q)
/-- a thing of one's own changes -/
theorem Conc.mut (c : Conc K M0 env B M σ) (hi : env[i]? = some (.mu a mo)) (hr : RpO K B mo' o') : Conc K M0 (env.set i (.mu a mo')) B (upd M a o') σ := by
  obtain ⟨s0, hs0, es0, o0, ho0, hr0⟩ := c.slot i _ hi
  have hil : i < env.length := (List.getElem?_eq_some_iff.mp hi).1
  have gen : ∀ (j : Nat) (d' : Desc), (env.set i (.mu a mo'))[j]? = some d' → ((d' = .mu a mo' ∧ i = j) ∨ (i ≠ j ∧ env[j]? = some d')) := fun j d' q => by
    rcases get_set q with ⟨e, z⟩ | ⟨hne, e⟩
    · exact .inl ⟨e, z⟩
    · exact .inr ⟨hne, e⟩
  refine ⟨fun b u q => ?_, by rw [List.length_set]; exact c.len, fun j d' q => ?_, fun j k a' mo1 mo2 q1 q2 => ?_, fun j a' mo1 q => ?_, fun b hb => ?_⟩
  · by_cases hba : b = a
    · rw [hba]; exact c.dis a o0 ho0
    · rw [upd_ne hba] at q; exact c.dis b u q
  · rcases gen j d' q with ⟨e1, e2⟩ | ⟨e1, e2⟩
    · subst e1 e2
      exact ⟨s0, hs0, es0, o', upd_same, hr⟩
    · obtain ⟨s, h1, h2⟩ := c.slot j d' e2
      refine ⟨s, h1, ?_⟩
      cases d' with
      | un => trivial
      | dat d => exact h2
      | mu b mo1 =>
        obtain ⟨z1, u, z2, z3⟩ := h2
        refine ⟨z1, u, ?_, z3⟩
        rw [upd_ne (fun z => e1 (c.nd i j a mo mo1 hi (by rw [← z]; exact e2)))]
        exact z2
  · rcases gen j _ q1 with ⟨e1, e2⟩ | ⟨e1, e2⟩
    · rcases gen k _ q2 with ⟨e3, e4⟩ | ⟨e3, e4⟩
      · rw [← e2, ← e4]
      · cases e1
        exact (e3 (c.nd i k a mo mo2 hi e4)).elim
    · rcases gen k _ q2 with ⟨e3, e4⟩ | ⟨e3, e4⟩
      · cases e3
        exact (e1 (c.nd i j a mo mo1 hi e2)).elim
      · exact c.nd j k a' mo1 mo2 e2 e4
  · rcases gen j _ q with ⟨e1, _⟩ | ⟨_, e2⟩
    · cases e1; exact c.fresh i a mo hi
    · exact c.fresh j a' mo1 e2
  · have hba : b ≠ a := fun z => hb i mo' (by rw [z, List.getElem?_set_self hil])
    rw [upd_ne hba]
    refine c.frame b fun j mo1 q => ?_
    by_cases hj : i = j
    · rw [← hj, hi] at q; cases q; exact hba rfl
    · exact hb j mo1 (by rw [List.getElem?_set_ne hj]; exact q)
end
end Sy
namespace Sy
open PySem PySem.Spec PyProof.Rows L2

/-! ### what is wanted behind -/
inductive Res where
  | d (d : D)
  | m (mo : MO)
abbrev Env_ := List Desc
def PostD (K : PySem.W.Frag) (M0 : Hp) (σ : L2.St) (B : Hp) (k : D → Env_ → Prop) : VK := fun v H => ∃ d env' B' M', H = J B' M' ∧ Conc K M0 env' B' M' σ ∧ Same B B' ∧ Rp K B' d v ∧ k d env'
def PostM (K : PySem.W.Frag) (M0 : Hp) (σ : L2.St) (B : Hp) (k : MO → Env_ → Prop) : VK := fun v H => ∃ (a : Addr) (mo : MO) (o : HO) (env' : Env_) (B' M' : Hp), v = .ref a ∧ H = J B' (upd M' a o) ∧ M' a = none ∧ B' a = none ∧ Conc K M0 env' B' M' σ ∧ Same B B' ∧ RpO K B' mo o ∧ k mo env'
def PostB (K : PySem.W.Frag) (M0 : Hp) (σ : L2.St) (B : Hp) (k : Bool → Env_ → Prop) : Bool → Hp → Prop := fun b H => ∃ env' B' M', H = J B' M' ∧ Conc K M0 env' B' M' σ ∧ Same B B' ∧ k b env'
def PostS (K : PySem.W.Frag) (M0 B : Hp) (k : Env_ → Prop) : L2.St → Hp → Prop := fun σ H => ∃ env' B' M', H = J B' M' ∧ Conc K M0 env' B' M' σ ∧ Same B B' ∧ k env'
def PostR (K : PySem.W.Frag) (M0 B : Hp) (k : Res → Env_ → Prop) : VK := fun v H => (∃ σ, PostD K M0 σ B (fun d env => k (.d d) env) v H) ∨ (∃ σ, PostM K M0 σ B (fun mo env => k (.m mo) env) v H)
/-- an argument: data, or a thing of one's own that stands in a slot -/
abbrev AV := Sum D Nat
def AvOk (K : PySem.W.Frag) (B : Hp) (env : Env_) (v : V) : AV → Prop
  | .inl d => Rp K B d v
  | .inr i => ∃ a mo, env[i]? = some (.mu a mo) ∧ v = .ref a
def AvsOk (K : PySem.W.Frag) (B : Hp) (env : Env_) : List V → List AV → Prop
  | vs, [] => vs = []
  | vs, a :: as => ∃ v r, vs = v :: r ∧ AvOk K B env v a ∧ AvsOk K B env r as
def PostA (K : PySem.W.Frag) (M0 : Hp) (σ : L2.St) (B : Hp) (k : List AV → Env_ → Prop) : List V → Hp → Prop := fun vs H => ∃ as env' B' M', H = J B' M' ∧ Conc K M0 env' B' M' σ ∧ Same B B' ∧ AvsOk K B' env' vs as ∧ k as env'
/-- a list that is read: its items -/
def PostL (K : PySem.W.Frag) (M0 : Hp) (σ : L2.St) (B : Hp) (k : List D → Env_ → Prop) : VK := fun v H => ∃ (a : Addr) (xs : List V) (ds : List D) (env' : Env_) (B' M' : Hp), v = .ref a ∧ H = J B' M' ∧ Conc K M0 env' B' M' σ ∧ Same B B' ∧ SqL K (J B' M') a xs ∧ RpA K B' ds xs ∧ k ds env'

structure K4 where
  nx : Env_ → Prop
  rt : Res → Env_ → Prop
  bk : Env_ → Prop := fun _ => False
  ct : Env_ → Prop := fun _ => False

def LE (K : PySem.W.Frag) (t : TE) (env : Env_) (k : D → Env_ → Prop) : Prop := ∀ (M0 B M : Hp) (σ : L2.St), Conc K M0 env B M σ → ∀ Q : VK, (∀ v H, PostD K M0 σ B k v H → Q v H) → t σ (J B M) Q
def LM (K : PySem.W.Frag) (t : TE) (env : Env_) (k : MO → Env_ → Prop) : Prop := ∀ (M0 B M : Hp) (σ : L2.St), Conc K M0 env B M σ → ∀ Q : VK, (∀ v H, PostM K M0 σ B k v H → Q v H) → t σ (J B M) Q
def LL (K : PySem.W.Frag) (t : TE) (env : Env_) (k : List D → Env_ → Prop) : Prop := ∀ (M0 B M : Hp) (σ : L2.St), Conc K M0 env B M σ → ∀ Q : VK, (∀ v H, PostL K M0 σ B k v H → Q v H) → t σ (J B M) Q
def LB (K : PySem.W.Frag) (t : TT) (env : Env_) (k : Bool → Env_ → Prop) : Prop := ∀ (M0 B M : Hp) (σ : L2.St), Conc K M0 env B M σ → ∀ Q : Bool → Hp → Prop, (∀ b H, PostB K M0 σ B k b H → Q b H) → t σ (J B M) Q
def LA (K : PySem.W.Frag) (t : TA) (env : Env_) (k : List AV → Env_ → Prop) : Prop := ∀ (M0 B M : Hp) (σ : L2.St), Conc K M0 env B M σ → ∀ Q : List V → Hp → Prop, (∀ vs H, PostA K M0 σ B k vs H → Q vs H) → t σ (J B M) Q
def LS (K : PySem.W.Frag) (t : TS) (env : Env_) (k : K4) : Prop := ∀ (M0 B M : Hp) (σ : L2.St), Conc K M0 env B M σ → ∀ Dd : Ends, (∀ σ H, PostS K M0 B k.nx σ H → Dd.nx σ H) → (∀ v H, PostR K M0 B k.rt v H → Dd.rt v H) →
  (∀ σ H, PostS K M0 B k.bk σ H → Dd.bk σ H) → (∀ σ H, PostS K M0 B k.ct σ H → Dd.ct σ H) → t Dd σ (J B M)
def LG (K : PySem.W.Frag) (t : TG) (d : D) (env : Env_) (k : Env_ → Prop) : Prop := ∀ (M0 B M : Hp) (σ : L2.St), Conc K M0 env B M σ → ∀ v, Rp K B d v → ∀ Q : L2.St → Hp → Prop, (∀ σ H, PostS K M0 B k σ H → Q σ H) → t v σ (J B M) Q
def LGs (K : PySem.W.Frag) (t : TGs) (ds : List D) (env : Env_) (k : Env_ → Prop) : Prop := ∀ (M0 B M : Hp) (σ : L2.St), Conc K M0 env B M σ → ∀ vs, RpA K B ds vs → ∀ Q : L2.St → Hp → Prop, (∀ σ H, PostS K M0 B k σ H → Q σ H) → t vs σ (J B M) Q

section
variable (X : Cx)
def canE (e : Expr) : TE := fun σ H Q => ∀ pins s, Inv X pins σ H s → wpAny (model X.prog X.w) X.A (eval e X.env) (EP X pins σ Q) X.xe s
def canT (e : Expr) : TT := fun σ H Q => ∀ pins s, Inv X pins σ H s → wpAny (model X.prog X.w) X.A (isTrue e X.env (eval e X.env)) (TP X pins σ Q) X.xe s
def canW (e : Expr) : TT := fun σ H Q => ∀ whole pins s, Inv X pins σ H s → wpAny (model X.prog X.w) X.A (isTrue e X.env whole) (TP X pins σ Q) X.xe s
def canA (es : List Expr) : TA := fun σ H Q => ∀ pos pins s, Inv X pins σ H s → wpAny (model X.prog X.w) X.A (spliced (backTo pos (starEach es X.env))) (AP X pins σ Q) X.xe s
def canS (st : Stmt) : TS := fun Dd σ H => ∀ pins s, Inv X pins σ H s → wpAny (model X.prog X.w) X.A (exec st X.env) (SP X pins Dd) X.xe s
def canSs (st : List Stmt) : TS := fun Dd σ H => ∀ pins s, Inv X pins σ H s → wpAny (model X.prog X.w) X.A (execs st X.env) (SP X pins Dd) X.xe s
def canO (f : Value → Value → Sem Value) : R2 := fun x y H Q => ∀ pins s σ v u, Inv X pins σ H s → RelV x v → RelV y u → wpAny (model X.prog X.w) X.A (f v u) (EP X pins σ Q) X.xe s
def canU (f : Value → Sem Value) : V → Hp → VK → Prop := fun x H Q => ∀ pins s σ v, Inv X pins σ H s → RelV x v → wpAny (model X.prog X.w) X.A (f v) (EP X pins σ Q) X.xe s
def canG (tg : Expr) : TG := fun v σ H Q => ∀ pins s u, Inv X pins σ H s → RelV v u → wpAny (model X.prog X.w) X.A (assign tg X.env u) (fun _ s' => ∃ σ' H', Inv X pins σ' H' s' ∧ Q σ' H') X.xe s
def canGs (tgs : List Expr) : TGs := fun vs σ H Q => ∀ pins s us, Inv X pins σ H s → Vals vs us → wpAny (model X.prog X.w) X.A (assignInOrder ((assignEach tgs X.env).map (·.2)) us) (fun _ s' => ∃ σ' H', Inv X pins σ' H' s' ∧ Q σ' H') X.xe s
variable {X : Cx} {e : Expr} {es : List Expr} {st : Stmt} {sts : List Stmt}
theorem pe_can : PE X e (canE X e) := ⟨fun pins s σ H Q I h => h pins s I⟩
theorem pt_can : PT X e (canT X e) := ⟨fun pins s σ H Q I h => h pins s I⟩
theorem pw_can : PW X e (canW X e) := ⟨fun wh pins s σ H Q I h => h wh pins s I⟩
theorem pa_can : PA X es (canA X es) := ⟨fun pos pins s σ H Q I h => h pos pins s I⟩
theorem ps_can : PS X st (canS X st) := ⟨fun pins s σ H Q I h => h pins s I⟩
theorem pss_can : PSs X sts (canSs X sts) := ⟨fun pins s σ H Q I h => h pins s I⟩
theorem op_can {f : Value → Value → Sem Value} : OpR X f (canO X f) := fun pins s σ H x y v u Q I r1 r2 h => h pins s σ v u I r1 r2
theorem un_can {f : Value → Sem Value} : UnR X f (canU X f) := fun pins s σ H x v Q I r1 h => h pins s σ v I r1
theorem pg_can : PG X e (canG X e) := ⟨fun pins s σ H v u Q I r h => h pins s u I r⟩
theorem pgs_can : PGs X es (canGs X es) := ⟨fun pins s σ H v u Q I r h => h pins s u I r⟩
end

/-- an expression is evaluated to data | to something new of one's own | to a list that is read | a test | arguments | a statement | a block -/
def EE (X : Cx) (e : Expr) (env : Env_) (k : D → Env_ → Prop) : Prop := LE X.K (canE X e) env k
def EM (X : Cx) (e : Expr) (env : Env_) (k : MO → Env_ → Prop) : Prop := LM X.K (canE X e) env k
def EL (X : Cx) (e : Expr) (env : Env_) (k : List D → Env_ → Prop) : Prop := LL X.K (canE X e) env k
def EB (X : Cx) (e : Expr) (env : Env_) (k : Bool → Env_ → Prop) : Prop := LB X.K (canT X e) env k
def EW (X : Cx) (e : Expr) (env : Env_) (k : Bool → Env_ → Prop) : Prop := LB X.K (canW X e) env k
def EA (X : Cx) (es : List Expr) (env : Env_) (k : List AV → Env_ → Prop) : Prop := LA X.K (canA X es) env k
def S1 (X : Cx) (st : Stmt) (env : Env_) (k : K4) : Prop := LS X.K (canS X st) env k
def SS (X : Cx) (sts : List Stmt) (env : Env_) (k : K4) : Prop := LS X.K (canSs X sts) env k
def EG (X : Cx) (tg : Expr) (d : D) (env : Env_) (k : Env_ → Prop) : Prop := LG X.K (canG X tg) d env k
def EGs (X : Cx) (tgs : List Expr) (ds : List D) (env : Env_) (k : Env_ → Prop) : Prop := LGs X.K (canGs X tgs) ds env k

section
variable {X : Cx} {K : PySem.W.Frag} {e a b c : Expr} {es : List Expr} {st : Stmt} {sts : List Stmt} {env : Env_} {k : D → Env_ → Prop} {kb : Bool → Env_ → Prop} {km : MO → Env_ → Prop} {kl : List D → Env_ → Prop} {ka : List AV → Env_ → Prop} {k4 : K4} {t : TE} {pos : Pos}
variable {M0 B B1 M : Hp} {σ : L2.St}
theorem EE.of (h : PE X e t) (q : LE X.K t env k) : EE X e env k := fun M0 B M σ c Q hQ pins s I => h.run pins s σ _ Q I (q M0 B M σ c Q hQ)
theorem EM.of (h : PE X e t) (q : LM X.K t env km) : EM X e env km := fun M0 B M σ c Q hQ pins s I => h.run pins s σ _ Q I (q M0 B M σ c Q hQ)
theorem EL.of (h : PE X e t) (q : LL X.K t env kl) : EL X e env kl := fun M0 B M σ c Q hQ pins s I => h.run pins s σ _ Q I (q M0 B M σ c Q hQ)
theorem EB.of {t : TT} (h : PT X e t) (q : LB X.K t env kb) : EB X e env kb := fun M0 B M σ c Q hQ pins s I => h.run pins s σ _ Q I (q M0 B M σ c Q hQ)
theorem EW.of {t : TT} (h : PW X e t) (q : LB X.K t env kb) : EW X e env kb := fun M0 B M σ c Q hQ wh pins s I => h.run wh pins s σ _ Q I (q M0 B M σ c Q hQ)
theorem EA.of {t : TA} (h : PA X es t) (q : LA X.K t env ka) : EA X es env ka := fun M0 B M σ c Q hQ pos pins s I => h.run pos pins s σ _ Q I (q M0 B M σ c Q hQ)
theorem S1.of {t : TS} (h : PS X st t) (q : LS X.K t env k4) : S1 X st env k4 := fun M0 B M σ c Dd h1 h2 h3 h4 pins s I => h.run pins s σ _ Dd I (q M0 B M σ c Dd h1 h2 h3 h4)
theorem SS.of {t : TS} (h : PSs X sts t) (q : LS X.K t env k4) : SS X sts env k4 := fun M0 B M σ c Dd h1 h2 h3 h4 pins s I => h.run pins s σ _ Dd I (q M0 B M σ c Dd h1 h2 h3 h4)
theorem PostD.back (e : Same B B1) {v : V} {H : Hp} (h : PostD K M0 σ B1 k v H) : PostD K M0 σ B k v H := by
  obtain ⟨d, env', B', M', e1, c, sm, r, q⟩ := h
  exact ⟨d, env', B', M', e1, c, e.trans sm, r, q⟩
theorem PostM.back (e : Same B B1) {v : V} {H : Hp} (h : PostM K M0 σ B1 km v H) : PostM K M0 σ B km v H := by
  obtain ⟨a, mo, o, env', B', M', e1, e2, n1, n2, c, sm, r, q⟩ := h
  exact ⟨a, mo, o, env', B', M', e1, e2, n1, n2, c, e.trans sm, r, q⟩
theorem PostB.back (e : Same B B1) {v : Bool} {H : Hp} (h : PostB K M0 σ B1 kb v H) : PostB K M0 σ B kb v H := by
  obtain ⟨env', B', M', e1, c, sm, q⟩ := h
  exact ⟨env', B', M', e1, c, e.trans sm, q⟩
theorem PostA.back (e : Same B B1) {v : List V} {H : Hp} (h : PostA K M0 σ B1 ka v H) : PostA K M0 σ B ka v H := by
  obtain ⟨d, env', B', M', e1, c, sm, r, q⟩ := h
  exact ⟨d, env', B', M', e1, c, e.trans sm, r, q⟩
theorem PostL.back (e : Same B B1) {v : V} {H : Hp} (h : PostL K M0 σ B1 kl v H) : PostL K M0 σ B kl v H := by
  obtain ⟨a, xs, ds, env', B', M', e1, e2, c, sm, r1, r2, q⟩ := h
  exact ⟨a, xs, ds, env', B', M', e1, e2, c, e.trans sm, r1, r2, q⟩
theorem PostS.back {kk : Env_ → Prop} (e : Same B B1) {σ : L2.St} {H : Hp} (h : PostS K M0 B1 kk σ H) : PostS K M0 B kk σ H := by
  obtain ⟨env', B', M', e1, c, sm, q⟩ := h
  exact ⟨env', B', M', e1, c, e.trans sm, q⟩
theorem PostR.back {kk : Res → Env_ → Prop} (e : Same B B1) {v : V} {H : Hp} (h : PostR K M0 B1 kk v H) : PostR K M0 B kk v H := by
  rcases h with ⟨σ, h⟩ | ⟨σ, h⟩
  · exact .inl ⟨σ, h.back e⟩
  · exact .inr ⟨σ, h.back e⟩

/-! ### atoms -/
theorem PostD.now {d : D} {v : V} (c : Conc K M0 env B M σ) (r : Rp K B d v) (q : k d env) : PostD K M0 σ B k v (J B M) := ⟨d, env, B, M, rfl, c, Same.refl B, r, q⟩
theorem PostD.nowA {x : V} (c : Conc K M0 env B M σ) (q : k (.v x) env) : PostD K M0 σ B k x (J B M) := ⟨.v x, env, B, M, rfl, c, Same.refl B, rfl, q⟩
theorem PostB.now {b : Bool} (c : Conc K M0 env B M σ) (q : kb b env) : PostB K M0 σ B kb b (J B M) := ⟨env, B, M, rfl, c, Same.refl B, q⟩
theorem PostS.now {kk : Env_ → Prop} (c : Conc K M0 env B M σ) (q : kk env) : PostS K M0 B kk σ (J B M) := ⟨env, B, M, rfl, c, Same.refl B, q⟩
/-- a new tuple, list .. that stays -/
theorem PostD.new {d : D} {p : Addr} {o : HO} (c : Conc K M0 env B M σ) (hp : J B M p = none) (r : Rp K (upd B p o) d (.ref p)) (q : k d env) : PostD K M0 σ B k (.ref p) (upd (J B M) p o) := by
  obtain ⟨h1, h2⟩ := J_none hp
  exact ⟨d, env, upd B p o, M, upd_JB h1, c.new h1 h2, same_new h2, r, q⟩
theorem PostM.new {mo : MO} {p : Addr} {o : HO} (c : Conc K M0 env B M σ) (hp : J B M p = none) (r : RpO K B mo o) (q : km mo env) : PostM K M0 σ B km (.ref p) (upd (J B M) p o) := by
  obtain ⟨h1, h2⟩ := J_none hp
  exact ⟨p, mo, o, env, B, M, rfl, upd_JM, h1, h2, c, Same.refl B, r, q⟩
theorem le_c {x : V} (q : k (.v x) env) : LE K (tC x) env k := fun M0 B M σ c Q hQ => hQ _ _ (.nowA c q)
theorem ee_int {i : Int} {j : Nat} (q : k (I i) env) : EE X (.Constant (.int i) j pos) env k := .of pe_int (le_c q)
theorem ee_bl {i : Bool} {j : Nat} (q : k (Bl i) env) : EE X (.Constant (.bool i) j pos) env k := .of pe_bl (le_c q)
theorem ee_non {j : Nat} (q : k Nn env) : EE X (.Constant .none j pos) env k := .of pe_non (le_c q)
theorem ee_str {i : Str} {j : Nat} (q : k (S_ i) env) : EE X (.Constant (.str i) j pos) env k := .of pe_str (le_c q)
theorem le_var {i : Nat} {d : D} (h : env[i]? = some (.dat d)) (q : k d env) : LE K (tVar i) env k := fun M0 B M σ c Q hQ => by
  obtain ⟨s, hs, v, rfl, r⟩ := c.slot i _ h
  exact ⟨v, hs, hQ _ _ (.now c r q)⟩
theorem ee_var (i : Nat) {d : D} {x : Str} (h : env[i]? = some (.dat d)) (q : k d env) (hN : X.N[i]? = some x := by rfl) (hv : Vis X.env.scope x := by first | exact Or.inl rfl | exact Or.inr (Or.inl rfl) | exact Or.inr (Or.inr rfl))
    (hd : (x == ("__debug__" : Str)) = false := by decide) (hcd : (x == ("__classdict__" : Str)) = false := by decide) : EE X (.Name x pos) env k := .of (pe_var hN hv hd hcd) (le_var h q)
/-- a module's object, a constant -/
theorem ee_glob {x : Str} {v : V} {u : Value} (hm : X.mg x = some u) (r : RelV v u) (q : k (.v v) env) (hg : Gl X x := by rfl) (hd : (x == ("__debug__" : Str)) = false := by decide) : EE X (.Name x pos) env k := .of (pe_glob hg hm r hd) (le_c q)
theorem ee_globT {x : Str} {p : Addr} {xs : List V} {ds : List D} (hm : X.mg x = some (.ref p)) (hs : ∀ B, PlT X.K B p xs) (hr : ∀ B, RpA X.K B ds xs) (q : k (.tup ds) env) (hg : Gl X x := by rfl) (hd : (x == ("__debug__" : Str)) = false := by decide) : EE X (.Name x pos) env k :=
  .of (pe_glob (v := .ref p) hg hm rfl hd) fun M0 B M σ c Q hQ => hQ _ _ (.now (d := .tup ds) c ⟨p, xs, rfl, hs B, hr B⟩ q)
/-- a list that stands in a slot, read -/
theorem el_slot (i : Nat) {p : Addr} {ds : List D} {x : Str} (h : env[i]? = some (.mu p (.lst ds))) (q : kl ds env) (hN : X.N[i]? = some x := by rfl) (hv : Vis X.env.scope x := by first | exact Or.inl rfl | exact Or.inr (Or.inl rfl) | exact Or.inr (Or.inr rfl))
    (hd : (x == ("__debug__" : Str)) = false := by decide) (hcd : (x == ("__classdict__" : Str)) = false := by decide) : EL X (.Name x pos) env kl := .of (pe_var hN hv hd hcd) fun M0 B M σ c Q hQ => by
  obtain ⟨s, hs, e1, o, ho, xs, rfl, hr⟩ := c.slot i _ h
  exact ⟨.ref p, by rw [hs, e1], hQ _ _ ⟨p, xs, ds, env, B, M, rfl, rfl, c, Same.refl B, SqL.of (J_M ho), hr, q⟩⟩
theorem el_dat {e : Expr} (h : EE X e env fun d env' => ∃ ds, d = .lst ds ∧ kl ds env') : EL X e env kl := fun M0 B M σ c Q hQ => h M0 B M σ c Q fun v H p => by
  obtain ⟨d, env', B', M', rfl, c', sm, r, ds, rfl, q⟩ := p
  obtain ⟨a, xs, rfl, hl, hr⟩ := r
  exact hQ _ _ ⟨a, xs, ds, env', B', M', rfl, rfl, c', sm, sqL_same c'.same hl, hr, q⟩
theorem ee_new {e : Expr} (h : EM X e env fun mo env' => k mo.frz env') : EE X e env k := fun M0 B M σ c Q hQ => h M0 B M σ c Q fun v H p => by
  obtain ⟨a, mo, o, env', B', M', rfl, rfl, n1, n2, c', sm, r, q⟩ := p
  refine hQ _ _ ⟨mo.frz, env', upd B' a o, M', ?_, c'.new n1 n2, sm.trans (same_new n2), ?_, q⟩
  · rw [← upd_JM, upd_JB n1]
  · cases mo with
    | lst ds =>
      obtain ⟨xs, rfl, hr⟩ := r
      exact ⟨a, xs, rfl, SqL.of upd_same, hr.mono (same_new n2)⟩
    | dK kvs =>
      obtain ⟨xs, rfl, hr⟩ := r
      exact ⟨a, xs, rfl, upd_same, hr.mono (same_new n2)⟩
theorem el_new {e : Expr} (h : EM X e env fun mo env' => ∃ ds, mo = .lst ds ∧ kl ds env') : EL X e env kl := el_dat (ee_new fun M0 B M σ c Q hQ => h M0 B M σ c Q fun v H p => hQ v H (by
  obtain ⟨a, mo, o, env', B', M', e1, e2, n1, n2, c', sm, r, ds, rfl, q⟩ := p
  exact ⟨a, .lst ds, o, env', B', M', e1, e2, n1, n2, c', sm, r, ds, rfl, q⟩))

/-! ### operators -/
/-- the operation on values -/
def RR (K : PySem.W.Frag) (r : R2) (d1 d2 : D) (env : Env_) (k : D → Env_ → Prop) : Prop := ∀ (M0 B M : Hp) (σ : L2.St), Conc K M0 env B M σ → ∀ v1 v2, Rp K B d1 v1 → Rp K B d2 v2 → ∀ Q : VK, (∀ v H, PostD K M0 σ B k v H → Q v H) → r v1 v2 (J B M) Q
theorem le_op {r : R2} {ta tb : TE} (h : LE K ta env fun d1 env1 => LE K tb env1 fun d2 env2 => RR K r d1 d2 env2 k) : LE K (tOp r ta tb) env k := fun M0 B M σ c Q hQ =>
  h M0 B M σ c _ fun v1 H1 ⟨d1, env1, B1, M1, e1, c1, s1, r1, q1⟩ => by
    subst e1
    refine q1 M0 B1 M1 σ c1 _ fun v2 H2 ⟨d2, env2, B2, M2, e2, c2, s2, r2, q2⟩ => ?_
    subst e2
    exact q2 M0 B2 M2 σ c2 v1 v2 (Rp.mono s2 d1 v1 r1) r2 Q fun v H p => hQ v H ((p.back s2).back s1)
def BO (X : Cx) (op : Operator) (d1 d2 : D) (env : Env_) (k : D → Env_ → Prop) : Prop := RR X.K (canO X (binaryOp op)) d1 d2 env k
def CO (X : Cx) (op : CmpOp) (d1 d2 : D) (env : Env_) (k : D → Env_ → Prop) : Prop := RR X.K (canO X (compareOp op)) d1 d2 env k
theorem ee_bin {op : Operator} (h : EE X a env fun d1 env1 => EE X b env1 fun d2 env2 => BO X op d1 d2 env2 k) : EE X (.BinOp a op b pos) env k := .of (pe_op op_can pe_can pe_can) (le_op h)
theorem ee_cmp {op : CmpOp} (h : EE X a env fun d1 env1 => EE X b env1 fun d2 env2 => CO X op d1 d2 env2 k) (hm : behindInMarks op b = false := by first | exact nomark _ | rfl) : EE X (.Compare a [op] [b] pos) env k := .of (pe_cmpR op_can pe_can pe_can hm) (le_op h)
theorem RR.of {f : Value → Value → Sem Value} {r : R2} {d1 d2 : D} (h : OpR X f r) (q : RR X.K r d1 d2 env k) : RR X.K (canO X f) d1 d2 env k := fun M0 B M σ c v1 v2 r1 r2 Q hQ pins s σ' v u I x1 x2 => h pins s σ' _ v1 v2 v u Q I x1 x2 (q M0 B M σ c v1 v2 r1 r2 Q hQ)
theorem rr_ii0 {g : Int → Int → V} {i j : Int} (q : k (.v (g i j)) env) : RR K (rI0 g) (I i) (I j) env k := fun M0 B M σ c v1 v2 r1 r2 Q hQ => ⟨i, j, r1, r2, hQ _ _ (.nowA c q)⟩
theorem rr_ii {C : Int → Int → Prop} {g : Int → Int → V} {i j : Int} (hc : C i j) (q : k (.v (g i j)) env) : RR K (rI C g) (I i) (I j) env k := fun M0 B M σ c v1 v2 r1 r2 Q hQ => ⟨i, j, r1, r2, hc, hQ _ _ (.nowA c q)⟩
theorem bo_add {i j : Int} (q : k (I (i + j)) env) : BO X .Add (I i) (I j) env k := .of op_add (rr_ii0 q)
theorem bo_sub {i j : Int} (q : k (I (i - j)) env) : BO X .Sub (I i) (I j) env k := .of op_sub (rr_ii0 q)
theorem bo_mul {i j : Int} (hc : CMul i j) (q : k (I (i * j)) env) : BO X .Mult (I i) (I j) env k := .of op_mul (rr_ii hc q)
theorem bo_fdiv {i j : Int} (hc : CDiv i j) (q : k (I (i / j)) env) : BO X .FloorDiv (I i) (I j) env k := .of op_fdiv (rr_ii hc q)
theorem bo_mod {i j : Int} (hc : 0 < j) (q : k (I (i % j)) env) : BO X .Mod (I i) (I j) env k := .of op_mod (rr_ii hc q)
theorem bo_pow {i j : Int} (hc : CPow i j) (q : k (I (i ^ j.toNat)) env) : BO X .Pow (I i) (I j) env k := .of op_pow (rr_ii hc q)
theorem co_lt {i j : Int} (q : k (Bl (decide (i < j))) env) : CO X .Lt (I i) (I j) env k := .of op_lt (rr_ii0 q)
theorem co_le {i j : Int} (q : k (Bl (decide (i ≤ j))) env) : CO X .LtE (I i) (I j) env k := .of op_le (rr_ii0 q)
theorem co_gt {i j : Int} (q : k (Bl (decide (j < i))) env) : CO X .Gt (I i) (I j) env k := .of op_gt (rr_ii0 q)
theorem co_ge {i j : Int} (q : k (Bl (decide (j ≤ i))) env) : CO X .GtE (I i) (I j) env k := .of op_ge (rr_ii0 q)
theorem co_eqS {x y : V} (hs : scal x y = true) (q : k (Bl (decide (x = y))) env) : CO X .Eq (.v x) (.v y) env k := .of op_eq fun M0 B M σ c v1 v2 r1 r2 Q hQ => by
  cases r1; cases r2
  exact ⟨hs, hQ _ _ (.nowA c q)⟩
theorem co_neS {x y : V} (hs : scal x y = true) (q : k (Bl (!decide (x = y))) env) : CO X .NotEq (.v x) (.v y) env k := .of op_ne fun M0 B M σ c v1 v2 r1 r2 Q hQ => by
  cases r1; cases r2
  exact ⟨hs, hQ _ _ (.nowA c q)⟩
theorem dec_int' {i j : Int} : decide (V.int i = V.int j) = decide (i = j) := by
  by_cases h : i = j
  · rw [decide_eq_true h, decide_eq_true (by rw [h])]
  · rw [decide_eq_false h, decide_eq_false (fun z => h (V.int.inj z))]
theorem co_eq {i j : Int} (q : k (Bl (decide (i = j))) env) : CO X .Eq (I i) (I j) env k := co_eqS rfl (by rw [dec_int']; exact q)
theorem co_ne {i j : Int} (q : k (Bl (!decide (i = j))) env) : CO X .NotEq (I i) (I j) env k := co_neS rfl (by rw [dec_int']; exact q)
theorem co_isN {d : D} {v : V} (q : k (Bl (decide (v = .non))) env) (hd : d = .v v) : CO X .Is d Nn env k := .of op_isN fun M0 B M σ c v1 v2 r1 r2 Q hQ => by
  subst hd; cases r1; cases r2
  exact ⟨rfl, hQ _ _ (.nowA c q)⟩
theorem ee_neg {i : Int} (h : EE X a env fun d env1 => ∃ i, d = I i ∧ k (I (-i)) env1) : EE X (.UnaryOp .USub a pos) env k := .of (pe_un un_neg pe_can) fun M0 B M σ c Q hQ =>
  h M0 B M σ c _ fun v1 H1 ⟨d1, env1, B1, M1, e1, c1, s1, r1, i, e2, q1⟩ => by
    subst e1 e2; cases r1
    exact ⟨i, rfl, hQ _ _ ((PostD.nowA c1 q1).back s1)⟩

/-! ### tests -/
theorem eb_val (h : EE X e env fun d env' => ∃ b, d = Bl b ∧ kb b env') (he : ∀ whole, isTrue e X.env whole = (do let v ← whole; standAt e.pos; holding [v] (truthy v)) := by intro _; rfl) : EB X e env kb := .of (pt_val pe_can he) fun M0 B M σ c Q hQ =>
  h M0 B M σ c _ fun v1 H1 ⟨d1, env1, B1, M1, e1, c1, s1, r1, b, e2, q1⟩ => by
    subst e1 e2; cases r1
    exact ⟨b, rfl, hQ _ _ ((PostB.now c1 q1).back s1)⟩
theorem eb_cmp {op : CmpOp} (h : EE X a env fun d1 env1 => EE X b env1 fun d2 env2 => CO X op d1 d2 env2 fun d env' => ∃ b, d = Bl b ∧ kb b env') (hm : behindInMarks op b = false := by first | exact nomark _ | rfl) : EB X (.Compare a [op] [b] pos) env kb :=
  .of (pt_cmpR op_can pe_can pe_can hm) fun M0 B M σ c Q hQ => le_op h M0 B M σ c _ fun v1 H1 ⟨d1, env1, B1, M1, e1, c1, s1, r1, b, e2, q1⟩ => by
    subst e1 e2; cases r1
    exact ⟨b, rfl, hQ _ _ ((PostB.now c1 q1).back s1)⟩
theorem eb_not (h : EB X e env fun b env' => kb (!b) env') : EB X (.UnaryOp .Not e pos) env kb := .of (pt_not pt_can) fun M0 B M σ c Q hQ => h M0 B M σ c _ fun b H p => hQ _ _ (by
  obtain ⟨env', B', M', e1, c', sm, q⟩ := p
  exact ⟨env', B', M', e1, c', sm, q⟩)
theorem eb_w (h : EW X e env kb) : EB X e env kb := .of (PW.pt pw_can) h
variable {rest : List Expr}
theorem ew_and1 (h : EB X a env kb) : EW X (.BoolOp .And [a] pos) env kb := .of (pw_and1 pt_can) h
theorem ew_or1 (h : EB X a env kb) : EW X (.BoolOp .Or [a] pos) env kb := .of (pw_or1 pt_can) h
theorem ew_and (h : EB X a env fun x env' => (x = true → EW X (.BoolOp .And (b :: rest) pos) env' kb) ∧ (x = false → kb false env')) : EW X (.BoolOp .And (a :: b :: rest) pos) env kb := .of (pw_and pt_can pw_can) fun M0 B M σ c Q hQ => h M0 B M σ c _ fun x H p => by
  obtain ⟨env', B', M', rfl, c', sm, q1, q2⟩ := p
  cases x with
  | true => rw [if_pos rfl]; exact q1 rfl M0 B' M' σ c' Q fun b H p => hQ b H (p.back sm)
  | false => rw [if_neg Bool.false_ne_true]; exact hQ _ _ ⟨env', B', M', rfl, c', sm, q2 rfl⟩
theorem ew_or (h : EB X a env fun x env' => (x = true → kb true env') ∧ (x = false → EW X (.BoolOp .Or (b :: rest) pos) env' kb)) : EW X (.BoolOp .Or (a :: b :: rest) pos) env kb := .of (pw_or pt_can pw_can) fun M0 B M σ c Q hQ => h M0 B M σ c _ fun x H p => by
  obtain ⟨env', B', M', rfl, c', sm, q1, q2⟩ := p
  cases x with
  | true => rw [if_pos rfl]; exact hQ _ _ ⟨env', B', M', rfl, c', sm, q1 rfl⟩
  | false => rw [if_neg Bool.false_ne_true]; exact q2 rfl M0 B' M' σ c' Q fun b H p => hQ b H (p.back sm)
/-- as values -/
theorem ee_bool1 {op} (h : EE X a env k) : EE X (.BoolOp op [a] pos) env k := .of (pe_one pe_can) h
theorem ee_and (h : EE X a env fun d env' => ∃ x, d = Bl x ∧ (x = true → EE X (.BoolOp .And (b :: rest) pos) env' k) ∧ (x = false → k (Bl false) env')) : EE X (.BoolOp .And (a :: b :: rest) pos) env k := .of (pe_and pe_can pe_can) fun M0 B M σ c Q hQ =>
  h M0 B M σ c _ fun v1 H1 ⟨d1, env1, B1, M1, e1, c1, s1, r1, x, e2, q1, q2⟩ => by
    subst e1 e2; cases r1
    refine ⟨x, rfl, ?_⟩
    cases x with
    | true => rw [if_pos rfl]; exact q1 rfl M0 B1 M1 σ c1 Q fun v H p => hQ v H (p.back s1)
    | false => rw [if_neg Bool.false_ne_true]; exact hQ _ _ ((PostD.nowA c1 (q2 rfl)).back s1)
theorem ee_or (h : EE X a env fun d env' => ∃ x, d = Bl x ∧ (x = true → k (Bl true) env') ∧ (x = false → EE X (.BoolOp .Or (b :: rest) pos) env' k)) : EE X (.BoolOp .Or (a :: b :: rest) pos) env k := .of (pe_or pe_can pe_can) fun M0 B M σ c Q hQ =>
  h M0 B M σ c _ fun v1 H1 ⟨d1, env1, B1, M1, e1, c1, s1, r1, x, e2, q1, q2⟩ => by
    subst e1 e2; cases r1
    refine ⟨x, rfl, ?_⟩
    cases x with
    | true => rw [if_pos rfl]; exact hQ _ _ ((PostD.nowA c1 (q1 rfl)).back s1)
    | false => rw [if_neg Bool.false_ne_true]; exact q2 rfl M0 B1 M1 σ c1 Q fun v H p => hQ v H (p.back s1)
theorem ee_not (h : EE X a env fun d env' => ∃ x, d = Bl x ∧ k (Bl (!x)) env') : EE X (.UnaryOp .Not a pos) env k := .of (pe_not pe_can) fun M0 B M σ c Q hQ =>
  h M0 B M σ c _ fun v1 H1 ⟨d1, env1, B1, M1, e1, c1, s1, r1, x, e2, q1⟩ => by
    subst e1 e2; cases r1
    exact ⟨x, rfl, hQ _ _ ((PostD.nowA c1 q1).back s1)⟩
theorem ee_if (h : EB X c env fun x env' => (x = true → EE X a env' k) ∧ (x = false → EE X b env' k)) : EE X (.IfExp c a b pos) env k := .of (pe_ifExp pt_can pe_can pe_can) fun M0 B M σ cc Q hQ => h M0 B M σ cc _ fun x H p => by
  obtain ⟨env', B', M', rfl, c', sm, q1, q2⟩ := p
  cases x with
  | true => rw [if_pos rfl]; exact q1 rfl M0 B' M' σ c' Q fun v H p => hQ v H (p.back sm)
  | false => rw [if_neg Bool.false_ne_true]; exact q2 rfl M0 B' M' σ c' Q fun v H p => hQ v H (p.back sm)
/-- low <= value <= high -/
theorem le_chain {r r' : R2} {ta tb tc : TE} (h : LE K ta env fun d1 env1 => LE K tb env1 fun d2 env2 => RR K r d1 d2 env2 fun d env3 => ∃ x, d = Bl x ∧ (x = true → LE K tc env3 fun d3 env4 => RR K r' d2 d3 env4 k) ∧ (x = false → k (Bl false) env3)) : LE K (tChain r r' ta tb tc) env k := fun M0 B M σ c Q hQ =>
  h M0 B M σ c _ fun v1 H1 ⟨d1, env1, B1, M1, e1, c1, s1, r1, q1⟩ => by
    subst e1
    refine q1 M0 B1 M1 σ c1 _ fun v2 H2 ⟨d2, env2, B2, M2, e2, c2, s2, r2, q2⟩ => ?_
    subst e2
    refine q2 M0 B2 M2 σ c2 v1 v2 (Rp.mono s2 d1 v1 r1) r2 _ fun v H ⟨d3, env3, B3, M3, e3, c3, s3, r3, x, e4, q3, q4⟩ => ?_
    subst e3 e4; cases r3
    refine ⟨x, rfl, ?_⟩
    cases x with
    | true =>
      rw [if_pos rfl]
      refine q3 rfl M0 B3 M3 σ c3 _ fun v4 H4 ⟨d4, env4, B4, M4, e5, c4, s4, r4, q5⟩ => ?_
      subst e5
      exact q5 M0 B4 M4 σ c4 v2 v4 (Rp.mono (s3.trans s4) d2 v2 r2) r4 Q fun v H p => hQ v H ((((p.back s4).back s3).back s2).back s1)
    | false =>
      rw [if_neg Bool.false_ne_true]
      exact hQ _ _ ((((PostD.nowA c3 (q4 rfl)).back s3).back s2).back s1)
theorem ee_chain {op op' : CmpOp} (h : EE X a env fun d1 env1 => EE X b env1 fun d2 env2 => CO X op d1 d2 env2 fun d env3 => ∃ x, d = Bl x ∧ (x = true → EE X c env3 fun d3 env4 => CO X op' d2 d3 env4 k) ∧ (x = false → k (Bl false) env3))
    (hm : lastMarks [op, op'] [b, c] = false := by with_unfolding_all rfl) : EE X (.Compare a [op, op'] [b, c] pos) env k := .of (pe_chain op_can op_can pe_can pe_can pe_can hm) (le_chain h)
theorem eb_chain {op op' : CmpOp} (h : EE X a env fun d1 env1 => EE X b env1 fun d2 env2 => CO X op d1 d2 env2 fun d env3 => ∃ x, d = Bl x ∧ (x = true → EE X c env3 fun d3 env4 => CO X op' d2 d3 env4 fun d env' => ∃ y, d = Bl y ∧ kb y env') ∧ (x = false → kb false env3))
    (hm : lastMarks [op, op'] [b, c] = false := by with_unfolding_all rfl) : EB X (.Compare a [op, op'] [b, c] pos) env kb := .of (pt_chain op_can op_can pe_can pe_can pe_can hm) fun M0 B M σ cc Q hQ =>
  le_chain (k := fun d env' => ∃ y, d = Bl y ∧ kb y env') (r := canO X (compareOp op)) (r' := canO X (compareOp op')) (ta := canE X a) (tb := canE X b) (tc := canE X c) (fun M0 B M σ c Q hQ => h M0 B M σ c Q fun v H p => hQ v H (by
    obtain ⟨d, env', B', M', e1, c', sm, r, q⟩ := p
    refine ⟨d, env', B', M', e1, c', sm, r, fun M0 B M σ c Q hQ => q M0 B M σ c Q fun v H p => hQ v H ?_⟩
    obtain ⟨d, env', B', M', e1, c', sm, r, q⟩ := p
    refine ⟨d, env', B', M', e1, c', sm, r, fun M0 B M σ c v1 v2 r1 r2 Q hQ => q M0 B M σ c v1 v2 r1 r2 Q fun v H p => hQ v H ?_⟩
    obtain ⟨d, env', B', M', e1, c', sm, r, x, e2, q1, q2⟩ := p
    exact ⟨d, env', B', M', e1, c', sm, r, x, e2, q1, fun z => ⟨false, rfl, q2 z⟩⟩)) M0 B M σ cc _ fun v1 H1 ⟨d1, env1, B1, M1, e1, c1, s1, r1, b, e2, q1⟩ => by
    subst e1 e2; cases r1
    exact ⟨b, rfl, hQ _ _ ((PostB.now c1 q1).back s1)⟩
end
end Sy
namespace Sy
open PySem PySem.Spec PyProof.Rows L2

/-! ### more of the states -/
section
variable {K : PySem.W.Frag} {M0 B B' M : Hp} {env : List Desc} {σ : L2.St} {i : Nat} {d : D} {v : V} {a p : Addr} {mo mo' : MO} {o o' : HO}
/-- all of one's own let go -/
theorem Conc.out (c : Conc K M0 env B M σ) : ∃ B', J B' M0 = J B M ∧ Same B B' ∧ ∀ a o, M0 a = some o → B' a = none := by
  have keep : ∀ a o, M0 a = some o → M a = some o := fun a o h => by
    rw [c.frame a fun i mo q => ?_]
    · exact h
    · rw [c.fresh i a mo q] at h; cases h
  refine ⟨fun a => match M0 a with
    | some _ => none
    | none => J B M a, ?_, fun a o h => ?_, fun a o h => ?_⟩
  · funext a
    cases e : M0 a with
    | some o => rw [J_M e, J_M (keep a o e)]
    | none => rw [J_B e, e]
  · show (match M0 a with
      | some _ => none
      | none => J B M a) = some o
    cases e : M0 a with
    | some u =>
      rw [c.dis a u (keep a u e)] at h; cases h
    | none => exact c.same a o h
  · show (match M0 a with
      | some _ => none
      | none => J B M a) = none
    rw [h]
/-- a thing of one's own taken out of its slot -/
theorem Conc.take (c : Conc K M0 env B M σ) (hi : env[i]? = some (.mu a mo)) : ∃ o, M a = some o ∧ RpO K B mo o ∧ M = upd (del M a) a o ∧ B a = none ∧ σ[i]? = some (some (.ref a)) ∧ Conc K M0 (env.set i .un) B (del M a) σ := by
  obtain ⟨s, hs, e1, o, ho, hr⟩ := c.slot i _ hi
  have hil : i < env.length := (List.getElem?_eq_some_iff.mp hi).1
  refine ⟨o, ho, hr, ?_, c.dis a o ho, by rw [hs, e1], ?_⟩
  · funext b
    by_cases hb : b = a
    · rw [hb, upd_same, ho]
    · rw [upd_ne hb, del_ne hb]
  · have gen : ∀ (j : Nat) (d : Desc), (env.set i .un)[j]? = some d → (d = .un ∨ (j ≠ i ∧ env[j]? = some d)) := fun j d q => by
      rcases get_set q with ⟨e, _⟩ | ⟨hne, e⟩
      · exact .inl e
      · exact .inr ⟨fun z => hne z.symm, e⟩
    have hne : ∀ (j : Nat) (b : Addr) (mo' : MO), j ≠ i → env[j]? = some (.mu b mo') → b ≠ a := fun j b mo' hj q z => by
      subst z
      exact hj (c.nd j i b mo' mo q hi)
    refine ⟨fun b u q => ?_, by rw [List.length_set]; exact c.len, fun j d q => ?_, fun j k b mo1 mo2 q1 q2 => ?_, fun j b mo1 q => ?_, fun b hb => ?_⟩
    · by_cases hba : b = a
      · rw [hba, del_same] at q; cases q
      · rw [del_ne hba] at q; exact c.dis b u q
    · have hj : j < σ.length := by
        have z := (List.getElem?_eq_some_iff.mp q).1
        rw [List.length_set] at z
        rw [c.len]; exact z
      rcases gen j d q with e | ⟨e2, e3⟩
      · subst e
        exact ⟨σ[j], List.getElem?_eq_getElem hj, trivial⟩
      · obtain ⟨s', h1, h2⟩ := c.slot j d e3
        refine ⟨s', h1, ?_⟩
        cases d with
        | un => trivial
        | dat d => exact h2
        | mu b mo' =>
          obtain ⟨z1, o', z2, z3⟩ := h2
          exact ⟨z1, o', by rw [del_ne (hne j b mo' e2 e3)]; exact z2, z3⟩
    · rcases gen j _ q1 with e | ⟨_, e2⟩
      · cases e
      · rcases gen k _ q2 with e | ⟨_, e3⟩
        · cases e
        · exact c.nd j k b mo1 mo2 e2 e3
    · rcases gen j _ q with e | ⟨_, e2⟩
      · cases e
      · exact c.fresh j b mo1 e2
    · by_cases hba : b = a
      · rw [hba, del_same, c.fresh i a mo hi]
      · rw [del_ne hba]
        refine c.frame b fun j mo' q => ?_
        by_cases hj : j = i
        · rw [hj, hi] at q
          cases q
          exact hba rfl
        · exact hb j mo' (by rw [List.getElem?_set_ne (Ne.symm hj)]; exact q)
/-- something new of one's own that stands in no slot yet, kept aside -/
theorem Conc.hide (c : Conc K M0 env B M σ) (hp : M p = none) (hb : B p = none) : Conc K (upd M0 p o) env B (upd M p o) σ := by
  have hne : ∀ (j : Nat) (b : Addr) (mo' : MO), env[j]? = some (.mu b mo') → b ≠ p := fun j b mo' q z => by
    obtain ⟨s, _, _, u, hu, _⟩ := c.slot j _ q
    rw [z, hp] at hu; cases hu
  refine ⟨fun b u q => ?_, c.len, fun j d q => ?_, c.nd, fun j b mo q => ?_, fun b hbb => ?_⟩
  · by_cases hbp : b = p
    · rw [hbp]; exact hb
    · rw [upd_ne hbp] at q; exact c.dis b u q
  · obtain ⟨s, h1, h2⟩ := c.slot j d q
    refine ⟨s, h1, ?_⟩
    cases d with
    | un => trivial
    | dat d => exact h2
    | mu b mo' =>
      obtain ⟨z1, u, z2, z3⟩ := h2
      exact ⟨z1, u, by rw [upd_ne (hne j b mo' q)]; exact z2, z3⟩
  · rw [upd_ne (hne j b mo q)]; exact c.fresh j b mo q
  · by_cases hbp : b = p
    · rw [hbp, upd_same, upd_same]
    · rw [upd_ne hbp, upd_ne hbp]; exact c.frame b hbb
theorem Conc.at0 (c : Conc K M0 env B M σ) (h : M0 p = some o) : M p = some o ∧ B p = none := by
  have e : M p = some o := by
    rw [c.frame p fun i mo q => ?_]
    · exact h
    · rw [c.fresh i p mo q] at h; cases h
  exact ⟨e, c.dis p o e⟩
/-- what was kept aside goes -/
theorem Conc.shown (c : Conc K M0 env B M σ) (h : M0 p = some o) : Conc K (del M0 p) env B (del M p) σ ∧ M = upd (del M p) p o := by
  have e := (c.at0 h).1
  have hne : ∀ (j : Nat) (b : Addr) (mo' : MO), env[j]? = some (.mu b mo') → b ≠ p := fun j b mo' q z => by
    have := c.fresh j b mo' q
    rw [z, h] at this; cases this
  refine ⟨⟨fun b u q => ?_, c.len, fun j d q => ?_, c.nd, fun j b mo q => ?_, fun b hbb => ?_⟩, ?_⟩
  · by_cases hbp : b = p
    · rw [hbp, del_same] at q; cases q
    · rw [del_ne hbp] at q; exact c.dis b u q
  · obtain ⟨s, h1, h2⟩ := c.slot j d q
    refine ⟨s, h1, ?_⟩
    cases d with
    | un => trivial
    | dat d => exact h2
    | mu b mo' =>
      obtain ⟨z1, u, z2, z3⟩ := h2
      exact ⟨z1, u, by rw [del_ne (hne j b mo' q)]; exact z2, z3⟩
  · rw [del_ne (hne j b mo q)]; exact c.fresh j b mo q
  · by_cases hbp : b = p
    · rw [hbp, del_same, del_same]
    · rw [del_ne hbp, del_ne hbp]; exact c.frame b hbb
  · funext b
    by_cases hbp : b = p
    · rw [hbp, upd_same, e]
    · rw [upd_ne hbp, del_ne hbp]
/-- .. into a slot -/
theorem Conc.adopt (c : Conc K M0 env B M σ) (h : M0 p = some o) (hr : RpO K B mo o) (hi : i < env.length) : ∃ B' M', J B' M' = J B M ∧ Same B B' ∧ Conc K (del M0 p) (env.set i (.mu p mo)) B' M' (σ.set i (some (.ref p))) := by
  obtain ⟨c1, e1⟩ := c.shown h
  obtain ⟨B', M', e2, s2, c2⟩ := c1.setM i (p := p) (mo := mo) (o := o) del_same (c.at0 h).2 hr hi
  exact ⟨B', M', by rw [e2, ← e1], s2, c2⟩
theorem del_upd (h : M p = none) : del (upd M p o) p = M := by
  funext b
  by_cases hb : b = p
  · rw [hb, del_same, h]
  · rw [del_ne hb, upd_ne hb]
theorem upd_comm {q : Addr} (h : p ≠ q) : upd (upd M p o) q o' = upd (upd M q o') p o := by
  funext b
  by_cases hb : b = q
  · rw [hb, upd_same, upd_ne (Ne.symm h), upd_same]
  · rw [upd_ne hb]
    by_cases hp : b = p
    · rw [hp, upd_same, upd_same]
    · rw [upd_ne hp, upd_ne hp, upd_ne hb]
end

/-! ### blocks -/
section
variable {X : Cx} {K : PySem.W.Frag} {e a b c : Expr} {es rest : List Expr} {st : Stmt} {sts : List Stmt} {env : Env_} {k : D → Env_ → Prop} {kb : Bool → Env_ → Prop} {km : MO → Env_ → Prop} {kl : List D → Env_ → Prop} {ka : List AV → Env_ → Prop} {k4 : K4} {t : TE} {pos : Pos}
variable {M0 B B1 M : Hp} {σ : L2.St}
theorem ss_nil (q : k4.nx env) : SS X [] env k4 := .of pss_nil fun M0 B M σ c Dd h1 h2 h3 h4 => h1 _ _ (.now c q)
theorem ss_cons (h : S1 X st env { k4 with nx := fun env' => SS X sts env' k4 }) : SS X (st :: sts) env k4 := .of (pss_cons ps_can pss_can) fun M0 B M σ c Dd h1 h2 h3 h4 =>
  h M0 B M σ c { Dd with nx := canSs X sts Dd } (fun σ H p => by
    obtain ⟨env', B', M', rfl, c', sm, q⟩ := p
    exact q M0 B' M' σ c' Dd (fun σ H p => h1 σ H (p.back sm)) (fun v H p => h2 v H (p.back sm)) (fun σ H p => h3 σ H (p.back sm)) (fun σ H p => h4 σ H (p.back sm))) h2 h3 h4
theorem ss_one (h : S1 X st env k4) : SS X [st] env k4 := .of (pss_one ps_can) h
/-- a statement, a word, then the rest once from the word -/
theorem ss_cut (Mid : Env_ → Prop) (h : S1 X st env { k4 with nx := Mid }) (q : ∀ env', Mid env' → SS X sts env' k4) : SS X (st :: sts) env k4 := ss_cons (fun M0 B M σ c Dd h1 h2 h3 h4 => h M0 B M σ c Dd (fun σ H p => h1 σ H (by
    obtain ⟨env', B', M', e1, c', sm, z⟩ := p
    exact ⟨env', B', M', e1, c', sm, q env' z⟩)) h2 h3 h4)
theorem S1.mono {k4' : K4} (h : S1 X st env k4) (h1 : ∀ e, k4.nx e → k4'.nx e) (h2 : ∀ r e, k4.rt r e → k4'.rt r e) (h3 : ∀ e, k4.bk e → k4'.bk e) (h4 : ∀ e, k4.ct e → k4'.ct e) : S1 X st env k4' := fun M0 B M σ c Dd q1 q2 q3 q4 =>
  h M0 B M σ c Dd (fun σ H ⟨env', B', M', e1, c', sm, z⟩ => q1 σ H ⟨env', B', M', e1, c', sm, h1 _ z⟩)
    (fun v H p => q2 v H (by
      rcases p with ⟨σ, d, env', B', M', e1, c', sm, r, z⟩ | ⟨σ, a, mo, o, env', B', M', e1, e2, n1, n2, c', sm, r, z⟩
      · exact .inl ⟨σ, d, env', B', M', e1, c', sm, r, h2 _ _ z⟩
      · exact .inr ⟨σ, a, mo, o, env', B', M', e1, e2, n1, n2, c', sm, r, h2 _ _ z⟩))
    (fun σ H ⟨env', B', M', e1, c', sm, z⟩ => q3 σ H ⟨env', B', M', e1, c', sm, h3 _ z⟩) (fun σ H ⟨env', B', M', e1, c', sm, z⟩ => q4 σ H ⟨env', B', M', e1, c', sm, h4 _ z⟩)
/-- name = e -/
theorem PostS.set {kk : Env_ → Prop} {i : Nat} {d : D} {v : V} (c : Conc K M0 env B M σ) (r : Rp K B d v) (q : kk (env.set i (.dat d))) : PostS K M0 B kk (σ.set i (some v)) (J B M) := by
  obtain ⟨B', M', e1, s1, c1⟩ := c.set i r
  exact ⟨_, B', M', e1.symm, c1, s1, q⟩
theorem s_set (i : Nat) {x : Str} {pos' : Pos} (h : EE X e env fun d env' => k4.nx (env'.set i (.dat d))) (hN : X.N.Nodup) (hi : X.N[i]? = some x := by rfl) (hx : Loc X.env.scope x := by first | exact Or.inl rfl | exact Or.inr rfl) (hs : swapsWith e (some (.Name x pos')) pos.line X.env = pure false := by rfl)
    (hf : X.fn x = true ∨ X.env.scope.names.lookup x = some .local := by first | exact .inl rfl | exact .inr rfl) : S1 X (.Assign [.Name x pos'] e pos) env k4 := .of (ps_set hN hi hx pe_can hs hf) fun M0 B M σ c Dd h1 h2 h3 h4 =>
  h M0 B M σ c _ fun v H ⟨d, env', B', M', e1, c', sm, r, q⟩ => by
    subst e1
    exact h1 _ _ ((PostS.set c' r q).back sm)
theorem s_setM (i : Nat) {x : Str} {pos' : Pos} (h : EM X e env fun mo env' => i < env'.length ∧ ∀ p, k4.nx (env'.set i (.mu p mo))) (hN : X.N.Nodup) (hi : X.N[i]? = some x := by rfl) (hx : Loc X.env.scope x := by first | exact Or.inl rfl | exact Or.inr rfl) (hs : swapsWith e (some (.Name x pos')) pos.line X.env = pure false := by rfl)
    (hf : X.fn x = true ∨ X.env.scope.names.lookup x = some .local := by first | exact .inl rfl | exact .inr rfl) : S1 X (.Assign [.Name x pos'] e pos) env k4 := .of (ps_set hN hi hx pe_can hs hf) fun M0 B M σ c Dd h1 h2 h3 h4 =>
  h M0 B M σ c _ fun v H ⟨p, mo, o, env', B', M', e0, e1, n1, n2, c', sm, r, hl, q⟩ => by
    subst e0 e1
    obtain ⟨B2, M2, e2, s2, c2⟩ := c'.setM i n1 n2 r hl
    exact h1 _ _ ⟨_, B2, M2, e2.symm, c2, sm.trans s2, q p⟩
theorem s_expr (h : EE X e env fun _ env' => k4.nx env') (hs : swapsWith e none pos.line X.env = pure false := by rfl) : S1 X (.Expr e pos) env k4 := .of (ps_expr pe_can hs) fun M0 B M σ c Dd h1 h2 h3 h4 =>
  h M0 B M σ c _ fun v H ⟨d, env', B', M', e1, c', sm, r, q⟩ => h1 _ _ ⟨env', B', M', e1, c', sm, q⟩
theorem s_ret (h : EE X e env fun d env' => k4.rt (.d d) env') : S1 X (.Return (some e) pos) env k4 := .of (ps_ret pe_can) fun M0 B M σ c Dd h1 h2 h3 h4 => h M0 B M σ c _ fun v H p => h2 v H (.inl ⟨σ, p⟩)
theorem s_retM (h : EM X e env fun mo env' => k4.rt (.m mo) env') : S1 X (.Return (some e) pos) env k4 := .of (ps_ret pe_can) fun M0 B M σ c Dd h1 h2 h3 h4 => h M0 B M σ c _ fun v H p => h2 v H (.inr ⟨σ, p⟩)
/-- return x, x a thing of one's own -/
theorem s_retX (i : Nat) {p : Addr} {mo : MO} {x : Str} {pos' : Pos} (h : env[i]? = some (.mu p mo)) (q : k4.rt (.m mo) (env.set i .un)) (hN : X.N[i]? = some x := by rfl) (hv : Vis X.env.scope x := by first | exact Or.inl rfl | exact Or.inr (Or.inl rfl) | exact Or.inr (Or.inr rfl))
    (hd : (x == ("__debug__" : Str)) = false := by decide) (hcd : (x == ("__classdict__" : Str)) = false := by decide) : S1 X (.Return (some (.Name x pos')) pos) env k4 := .of (ps_ret (pe_var hN hv hd hcd)) fun M0 B M σ c Dd h1 h2 h3 h4 => by
  obtain ⟨o, ho, hr, e1, n1, hs, c1⟩ := c.take h
  refine ⟨.ref p, hs, h2 _ _ (.inr ⟨σ, p, mo, o, _, B, del M p, rfl, ?_, del_same, n1, c1, Same.refl B, hr, q⟩)⟩
  rw [← e1]
theorem s_retN (q : k4.rt (.d Nn) env) : S1 X (.Return none pos) env k4 := .of ps_retN fun M0 B M σ c Dd h1 h2 h3 h4 => h2 _ _ (.inl ⟨σ, .nowA c q⟩)
theorem s_if {A Bl : List Stmt} (h : EB X c env fun x env' => (x = true → SS X A env' k4) ∧ (x = false → SS X Bl env' k4)) : S1 X (.If c A Bl pos) env k4 := .of (ps_if pt_can pss_can pss_can) fun M0 B M σ cc Dd h1 h2 h3 h4 => h M0 B M σ cc _ fun x H p => by
  obtain ⟨env', B', M', rfl, c', sm, q1, q2⟩ := p
  have go : ∀ {sts : List Stmt}, SS X sts env' k4 → canSs X sts Dd σ (J B' M') := fun q => q M0 B' M' σ c' Dd (fun σ H p => h1 σ H (p.back sm)) (fun v H p => h2 v H (p.back sm)) (fun σ H p => h3 σ H (p.back sm)) (fun σ H p => h4 σ H (p.back sm))
  cases x with
  | true => rw [if_pos rfl]; exact go (q1 rfl)
  | false => rw [if_neg Bool.false_ne_true]; exact go (q2 rfl)
theorem s_pass (q : k4.nx env) : S1 X (.Pass pos) env k4 := .of ps_pass fun M0 B M σ c Dd h1 h2 h3 h4 => h1 _ _ (.now c q)
theorem s_brk (q : k4.bk env) : S1 X (.Break pos) env k4 := .of ps_break fun M0 B M σ c Dd h1 h2 h3 h4 => h3 _ _ (.now c q)
theorem s_ct (q : k4.ct env) : S1 X (.Continue pos) env k4 := .of ps_continue fun M0 B M σ c Dd h1 h2 h3 h4 => h4 _ _ (.now c q)
/-- code that isn't come to -/
theorem ss_never (h : False) : SS X sts env k4 := h.elim
/-- a state that can't be, a state told otherwise -/
theorem ss_frz (i : Nat) {p : Addr} {mo : MO} (hi : env[i]? = some (.mu p mo)) (h : SS X sts (env.set i (.dat mo.frz)) k4) : SS X sts env k4 := fun M0 B M σ c Dd h1 h2 h3 h4 => by
  obtain ⟨o, ho, hr, e1, n1, hs, c1⟩ := c.take hi
  have c2 := c1.new (o := o) del_same n1
  have r2 : Rp X.K (upd B p o) mo.frz (.ref p) := by
    cases mo with
    | lst ds =>
      obtain ⟨xs, rfl, hr⟩ := hr
      exact ⟨p, xs, rfl, SqL.of upd_same, hr.mono (same_new n1)⟩
    | dK kvs =>
      obtain ⟨xs, rfl, hr⟩ := hr
      exact ⟨p, xs, rfl, upd_same, hr.mono (same_new n1)⟩
  have c3 := c2.setU (i := i) (d := mo.frz) (v := .ref p) (fun a' mo' q => by
    rcases get_set q with ⟨e, _⟩ | ⟨hne, _⟩
    · cases e
    · exact hne rfl) r2
  rw [List.set_set] at c3
  have eσ : σ.set i (some (.ref p)) = σ := by
    refine List.ext_getElem? fun j => ?_
    by_cases hj : i = j
    · subst hj
      rw [List.getElem?_set_self (by exact (List.getElem?_eq_some_iff.mp hs).1), hs]
    · rw [List.getElem?_set_ne hj]
  rw [eσ] at c3
  have eH : J (upd B p o) (del M p) = J B M := J_del ho
  rw [← eH]
  have sm := same_new (o := o) n1
  exact h M0 _ _ σ c3 Dd (fun σ H p => h1 σ H (p.back sm)) (fun v H p => h2 v H (p.back sm)) (fun σ H p => h3 σ H (p.back sm)) (fun σ H p => h4 σ H (p.back sm))
/-- while -/
theorem s_while {body : List Stmt} (W : Nat → Env_ → Prop) (m0 : Nat) (h0 : W m0 env)
    (hs : ∀ m env', W m env' → EB X c env' fun x env1 => (x = true → SS X body env1 { nx := fun e => ∃ m', m' < m ∧ W m' e, rt := k4.rt, bk := k4.nx, ct := fun e => ∃ m', m' < m ∧ W m' e }) ∧ (x = false → k4.nx env1))
    (hp : PassesOwn (model X.prog X.w) X.A X.env X.xe := by exact PassesOwn.never) : S1 X (.While c body [] pos) env k4 := .of (ps_while hp pt_can pss_can) fun M0 B M σ cc Dd h1 h2 h3 h4 => by
  refine ⟨fun m σ H => PostS X.K M0 B (W m) σ H, ⟨m0, .now cc h0⟩, fun m σ1 H1 p => ?_⟩
  obtain ⟨env1, B1, M1, rfl, c1, s1, w1⟩ := p
  refine hs m env1 w1 M0 B1 M1 σ1 c1 _ fun x H p => ?_
  obtain ⟨env2, B2, M2, rfl, c2, s2, q1, q2⟩ := p
  have s12 := s1.trans s2
  cases x with
  | true =>
    rw [if_pos rfl]
    refine ⟨fun σ H => ∃ m', m' < m ∧ PostS X.K M0 B (W m') σ H, fun σ' H' z => z, q1 rfl M0 B2 M2 σ1 c2 _ (fun σ H p => ?_) (fun v H p => h2 v H (p.back s12)) (fun σ H p => h1 σ H (p.back s12)) (fun σ H p => ?_)⟩
    · obtain ⟨env3, B3, M3, e3, c3, s3, m', hm, w3⟩ := p
      exact ⟨m', hm, env3, B3, M3, e3, c3, s12.trans s3, w3⟩
    · obtain ⟨env3, B3, M3, e3, c3, s3, m', hm, w3⟩ := p
      exact ⟨m', hm, env3, B3, M3, e3, c3, s12.trans s3, w3⟩
  | false =>
    rw [if_neg Bool.false_ne_true]
    exact h1 _ _ ⟨env2, B2, M2, rfl, c2, s12, q2 rfl⟩
/-- target = e -/
theorem s_asg {tg : Expr} (h : EE X e env fun d env' => EG X tg d env' k4.nx) (hs : swapsWithSole [tg] e pos.line X.env = pure false := by rfl) (hw : swappedStores [tg] e X.env = pure none := by rfl)
    (h1 : (assignEach [tg] X.env).map (·.2) = [assign tg X.env] := by rfl) : S1 X (.Assign [tg] e pos) env k4 := .of (ps_asg pe_can pg_can hs hw h1) fun M0 B M σ c Dd h1 h2 h3 h4 =>
  h M0 B M σ c _ fun v H ⟨d, env', B', M', e1, c', sm, r, q⟩ => by
    subst e1
    exact q M0 B' M' σ c' v r _ fun σ H p => h1 σ H (p.back sm)
theorem EG.of {tg : Expr} {g : TG} {d : D} {kk : Env_ → Prop} (h : PG X tg g) (q : LG X.K g d env kk) : EG X tg d env kk := fun M0 B M σ c v r Q hQ pins s u I ru => h.run pins s σ _ v u Q I ru (q M0 B M σ c v r Q hQ)
theorem EGs.of {tgs : List Expr} {g : TGs} {ds : List D} {kk : Env_ → Prop} (h : PGs X tgs g) (q : LGs X.K g ds env kk) : EGs X tgs ds env kk := fun M0 B M σ c v r Q hQ pins s u I ru => h.run pins s σ _ v u Q I ru (q M0 B M σ c v r Q hQ)
theorem eg_name (i : Nat) {d : D} {x : Str} {kk : Env_ → Prop} (q : kk (env.set i (.dat d))) (hN : X.N.Nodup) (hi : X.N[i]? = some x := by rfl) (hx : Loc X.env.scope x := by first | exact Or.inl rfl | exact Or.inr rfl)
    (hf : X.fn x = true ∨ X.env.scope.names.lookup x = some .local := by first | exact .inl rfl | exact .inr rfl) : EG X (.Name x pos) d env kk := .of (pg_name hN hi hx hf) fun M0 B M σ c v r Q hQ => hQ _ _ (PostS.set c r q)
theorem egs_nil {kk : Env_ → Prop} (q : kk env) : EGs X [] [] env kk := .of pgs_nil fun M0 B M σ c v r Q hQ => by
  cases r
  exact ⟨rfl, hQ _ _ (.now c q)⟩
theorem egs_cons {tg : Expr} {tgs : List Expr} {d : D} {ds : List D} {kk : Env_ → Prop} (h : EG X tg d env fun env' => EGs X tgs ds env' kk) (hs : (assignEach (tg :: tgs) X.env).map (·.2) = assign tg X.env :: (assignEach tgs X.env).map (·.2) := by rfl) : EGs X (tg :: tgs) (d :: ds) env kk :=
  .of (pgs_cons pg_can pgs_can hs) fun M0 B M σ c vs r Q hQ => by
    obtain ⟨x, r', rfl, r1, r2⟩ := r
    refine ⟨x, r', rfl, h M0 B M σ c x r1 _ fun σ1 H1 p => ?_⟩
    obtain ⟨env', B', M', rfl, c', sm, q⟩ := p
    exact q M0 B' M' σ1 c' r' (r2.mono sm) Q fun σ H p => hQ σ H (p.back sm)
theorem eg_tup {tgs : List Expr} {ds : List D} {kk : Env_ → Prop} {k0 : Nat} (h : EGs X tgs ds env kk) (hc : X.calm = true := by rfl) (hn : (assignEach tgs X.env).length = ds.length := by rfl) (hst : (assignEach tgs X.env).findIdx? (·.1) = none := by rfl) : EG X (.Tuple tgs k0 pos) (.tup ds) env kk :=
  .of (pg_tup hc pgs_can hn hst) fun M0 B M σ c v r Q hQ => by
    obtain ⟨p, xs, rfl, hs, hr⟩ := r
    exact ⟨p, xs, rfl, sqT_same c.same hs.sq, hr.length, h M0 B M σ c xs hr Q hQ⟩
theorem eg_wt {tgs : List Expr} {ds : List D} {kk : Env_ → Prop} {k0 : Nat} (h : EGs X tgs ds env kk) (hc : X.calm = true := by rfl) (hn : (assignEach tgs X.env).length = ds.length := by rfl) (hst : (assignEach tgs X.env).findIdx? (·.1) = none := by rfl) : EG X (.Tuple tgs k0 pos) (.wt ds) env kk :=
  .of (pg_tup hc pgs_can hn hst) fun M0 B M σ c v r Q hQ => by
    obtain ⟨p, xs, rfl, hs, hr⟩ := r
    exact ⟨p, xs, rfl, sqT_same c.same hs, hr.length, h M0 B M σ c xs hr Q hQ⟩
end

/-! ### several at once: a, b = x, y -/
inductive TV where
  | d (d : D)
  | m (mo : MO)
/-- the values; those that are new stand aside: Mf is M0 and they -/
def TVs (K : PySem.W.Frag) (B : Hp) : Hp → Hp → List V → List TV → Prop
  | M0, Mf, vs, [] => vs = [] ∧ Mf = M0
  | M0, Mf, vs, .d d :: ts => ∃ v r, vs = v :: r ∧ Rp K B d v ∧ TVs K B M0 Mf r ts
  | M0, Mf, vs, .m mo :: ts => ∃ p o r, vs = .ref p :: r ∧ RpO K B mo o ∧ M0 p = none ∧ TVs K B (upd M0 p o) Mf r ts
theorem TVs.mono {K : PySem.W.Frag} {B B' : Hp} (e : Same B B') : ∀ {ts : List TV} {M0 Mf : Hp} {vs : List V}, TVs K B M0 Mf vs ts → TVs K B' M0 Mf vs ts
  | [], _, _, _, h => h
  | .d d :: ts, _, _, _, ⟨v, r, e1, h1, h2⟩ => ⟨v, r, e1, Rp.mono e d v h1, TVs.mono e h2⟩
  | .m mo :: ts, _, _, _, ⟨p, o, r, e1, h1, h2, h3⟩ => ⟨p, o, r, e1, h1.mono e, h2, TVs.mono e h3⟩
theorem TVs.up {K : PySem.W.Frag} {B : Hp} : ∀ {ts : List TV} {M0 Mf : Hp} {vs : List V} {p : Addr} {o : HO}, TVs K B M0 Mf vs ts → M0 p = some o → Mf p = some o
  | [], _, _, _, _, _, ⟨_, e⟩, h => by rw [e]; exact h
  | .d d :: ts, _, _, _, _, _, ⟨v, r, e1, h1, h2⟩, h => TVs.up h2 h
  | .m mo :: ts, _, _, _, _, _, ⟨p, o, r, e1, h1, h2, h3⟩, h => TVs.up h3 (by rw [upd_ne (ne_of_none h h2)]; exact h)
theorem TVs.del {K : PySem.W.Frag} {B : Hp} : ∀ {ts : List TV} {M0 Mf : Hp} {vs : List V} {p : Addr} {o : HO}, M0 p = none → TVs K B (upd M0 p o) Mf vs ts → TVs K B M0 (del Mf p) vs ts
  | [], M0, Mf, vs, p, o, h0, ⟨e1, e2⟩ => ⟨e1, by rw [e2, del_upd h0]⟩
  | .d d :: ts, M0, Mf, vs, p, o, h0, ⟨v, r, e1, h1, h2⟩ => ⟨v, r, e1, h1, TVs.del h0 h2⟩
  | .m mo :: ts, M0, Mf, vs, p, o, h0, ⟨q, u, r, e1, h1, h2, h3⟩ => by
    have hne : q ≠ p := fun z => by rw [z, upd_same] at h2; cases h2
    rw [upd_ne hne] at h2
    refine ⟨q, u, r, e1, h1, h2, TVs.del (o := o) (by rw [upd_ne (Ne.symm hne)]; exact h0) ?_⟩
    rw [← upd_comm (Ne.symm hne)]
    exact h3
def PostU (K : PySem.W.Frag) (M0 : Hp) (σ : L2.St) (B : Hp) (k : List TV → Env_ → Prop) : List V → Hp → Prop := fun vs H => ∃ ts env' B' M' Mf, H = J B' M' ∧ Conc K Mf env' B' M' σ ∧ Same B B' ∧ TVs K B' M0 Mf vs ts ∧ k ts env'
def LU (K : PySem.W.Frag) (t : TA) (env : Env_) (k : List TV → Env_ → Prop) : Prop := ∀ (M0 B M : Hp) (σ : L2.St), Conc K M0 env B M σ → ∀ Q : List V → Hp → Prop, (∀ vs H, PostU K M0 σ B k vs H → Q vs H) → t σ (J B M) Q
def EU (X : Cx) (es : List Expr) (env : Env_) (k : List TV → Env_ → Prop) : Prop := LU X.K (canA X es) env k
def Put : List Nat → List TV → Env_ → (Env_ → Prop) → Prop
  | [], [], env, k => k env
  | i :: is, .d d :: ts, env, k => Put is ts (env.set i (.dat d)) k
  | i :: is, .m mo :: ts, env, k => i < env.length ∧ ∀ p, Put is ts (env.set i (.mu p mo)) k
  | _, _, _, _ => False
def sets (σ : L2.St) : List Nat → List V → L2.St
  | i :: is, v :: vs => sets (σ.set i (some v)) is vs
  | _, _ => σ
section
variable {X : Cx} {K : PySem.W.Frag} {e a b c : Expr} {es rest : List Expr} {env : Env_} {k : List TV → Env_ → Prop} {k4 : K4} {pos : Pos}
variable {M0 B B1 M : Hp} {σ : L2.St}
theorem put_ok {kk : Env_ → Prop} : ∀ (ts : List TV) (is : List Nat) (vs : List V) (M0 Mf B M : Hp) (env : Env_) (σ : L2.St), Conc K Mf env B M σ → TVs K B M0 Mf vs ts → Put is ts env kk → PostS K M0 B kk (sets σ is vs) (J B M)
  | [], [], vs, M0, Mf, B, M, env, σ, c, ⟨e1, e2⟩, p => by
    subst e1 e2
    exact .now c p
  | .d d :: ts, i :: is, vs, M0, Mf, B, M, env, σ, c, ⟨v, r, e1, h1, h2⟩, p => by
    subst e1
    obtain ⟨B', M', e2, s2, c2⟩ := c.set i h1
    rw [← e2]
    exact (put_ok ts is r M0 Mf B' M' _ _ c2 (h2.mono s2) p).back s2
  | .m mo :: ts, i :: is, vs, M0, Mf, B, M, env, σ, c, ⟨q, o, r, e1, h1, h2, h3⟩, ⟨hl, p⟩ => by
    subst e1
    obtain ⟨B', M', e2, s2, c2⟩ := c.adopt (p := q) (o := o) (h3.up upd_same) h1 hl
    rw [← e2]
    exact (put_ok ts is r M0 (del Mf q) B' M' _ _ c2 ((TVs.del h2 h3).mono s2) (p q)).back s2
  | [], _ :: _, _, _, _, _, _, _, _, _, _, p => p.elim
  | .d _ :: _, [], _, _, _, _, _, _, _, _, _, p => p.elim
  | .m _ :: _, [], _, _, _, _, _, _, _, _, _, p => p.elim
theorem EU.of {t : TA} (h : PA X es t) (q : LU X.K t env k) : EU X es env k := fun M0 B M σ c Q hQ pos pins s I => h.run pos pins s σ _ Q I (q M0 B M σ c Q hQ)
theorem eu_nil (q : k [] env) : EU X [] env k := .of pa_nil fun M0 B M σ c Q hQ => hQ _ _ ⟨[], env, B, M, M0, rfl, c, Same.refl B, ⟨rfl, rfl⟩, q⟩
theorem eu_d (h : EE X a env fun d env1 => EU X es env1 fun ts env2 => k (.d d :: ts) env2) (hs : starEach (a :: es) X.env = (false, eval a X.env) :: starEach es X.env := by rfl) : EU X (a :: es) env k := .of (pa_cons pe_can pa_can hs) fun M0 B M σ c Q hQ =>
  h M0 B M σ c _ fun v H ⟨d, env', B', M', e1, c', sm, r, q⟩ => by
    subst e1
    refine q M0 B' M' σ c' _ fun vs H ⟨ts, env2, B2, M2, Mf, e2, c2, s2, r2, q2⟩ => ?_
    subst e2
    exact hQ _ _ ⟨.d d :: ts, env2, B2, M2, Mf, rfl, c2, sm.trans s2, ⟨v, vs, rfl, Rp.mono s2 d v r, r2⟩, q2⟩
theorem eu_m (h : EM X a env fun mo env1 => EU X es env1 fun ts env2 => k (.m mo :: ts) env2) (hs : starEach (a :: es) X.env = (false, eval a X.env) :: starEach es X.env := by rfl) : EU X (a :: es) env k := .of (pa_cons pe_can pa_can hs) fun M0 B M σ c Q hQ =>
  h M0 B M σ c _ fun v H ⟨p, mo, o, env', B', M', e0, e1, n1, n2, c', sm, r, q⟩ => by
    subst e0 e1
    have c'' := c'.hide (o := o) n1 n2
    refine q (upd M0 p o) B' (upd M' p o) σ c'' _ fun vs H ⟨ts, env2, B2, M2, Mf, e2, c2, s2, r2, q2⟩ => ?_
    subst e2
    refine hQ _ _ ⟨.m mo :: ts, env2, B2, M2, Mf, rfl, c2, sm.trans s2, ⟨p, o, vs, rfl, r.mono s2, ?_, r2⟩, q2⟩
    rw [← c'.frame p fun j mo' z => ?_]
    · exact n1
    · obtain ⟨s, _, _, u, hu, _⟩ := c'.slot j _ z
      rw [n1] at hu; cases hu
/-- a, b = x, y with plain local names -/
theorem s_par (i j : Nat) {x y : Str} {px py pt : Pos} {kt k2 pt2} (h : EU X [a, b] env fun ts env' => Put [i, j] ts env' k4.nx) (hN : X.N.Nodup) (hc : X.calm = true := by rfl) (hi : X.N[i]? = some x := by rfl) (hj : X.N[j]? = some y := by rfl) (hij : i ≠ j := by decide)
    (hx : X.env.scope.names.lookup x = some .local := by rfl) (hy : X.env.scope.names.lookup y = some .local := by rfl)
    (hw : swappedStores [.Tuple [.Name x px, .Name y py] kt pt] (.Tuple [a, b] k2 pt2) X.env = pure (some [x, y]) := by rfl)
    (hs : swapsWithSole [.Tuple [.Name x px, .Name y py] kt pt] (.Tuple [a, b] k2 pt2) pos.line X.env = pure false := by rfl) : S1 X (.Assign [.Tuple [.Name x px, .Name y py] kt pt] (.Tuple [a, b] k2 pt2) pos) env k4 :=
  .of (ps_par hc hN hi hj hij hx hy pa_can hw hs) fun M0 B M σ c Dd h1 h2 h3 h4 => h M0 B M σ c _ fun vs H ⟨ts, env2, B2, M2, Mf, e2, c2, s2, r2, q2⟩ => by
    subst e2
    obtain ⟨v, w, rfl⟩ : ∃ v w, vs = [v, w] := by
      match ts, r2, q2 with
      | [], _, q2 => exact q2.elim
      | [.d _], _, q2 => exact q2.elim
      | [.m _], _, q2 => exact (q2.2 0).elim
      | [.d _, .d _], ⟨v, r, e1, _, w, r', e2, _, e3, _⟩, _ => exact ⟨v, w, by rw [e1, e2, e3]⟩
      | [.d _, .m _], ⟨v, r, e1, _, w, o, r', e2, _, _, e3, _⟩, _ => exact ⟨v, _, by rw [e1, e2, e3]⟩
      | [.m _, .d _], ⟨v, o, r, e1, _, _, w, r', e2, _, e3, _⟩, _ => exact ⟨_, w, by rw [e1, e2, e3]⟩
      | [.m _, .m _], ⟨v, o, r, e1, _, _, w, o', r', e2, _, _, e3, _⟩, _ => exact ⟨_, _, by rw [e1, e2, e3]⟩
      | .d _ :: .d _ :: .d _ :: _, _, q2 => exact q2.elim
      | .d _ :: .d _ :: .m _ :: _, _, q2 => exact q2.elim
      | .d _ :: .m _ :: .d _ :: _, _, q2 => exact (q2.2 0).elim
      | .d _ :: .m _ :: .m _ :: _, _, q2 => exact (q2.2 0).elim
      | .m _ :: .d _ :: .d _ :: _, _, q2 => exact (q2.2 0).elim
      | .m _ :: .d _ :: .m _ :: _, _, q2 => exact (q2.2 0).elim
      | .m _ :: .m _ :: .d _ :: _, _, q2 => exact ((q2.2 0).2 0).elim
      | .m _ :: .m _ :: .m _ :: _, _, q2 => exact ((q2.2 0).2 0).elim
    exact ⟨v, w, rfl, h1 _ _ ((put_ok ts [i, j] [v, w] M0 Mf B2 M2 env2 σ c2 r2 q2).back s2)⟩
end
end Sy
namespace Sy
open PySem PySem.Spec PyProof.Rows L2

/-! ### arguments that are data -/
def PostDs (K : PySem.W.Frag) (M0 : Hp) (σ : L2.St) (B : Hp) (k : List D → Env_ → Prop) : List V → Hp → Prop := fun vs H => ∃ ds env' B' M', H = J B' M' ∧ Conc K M0 env' B' M' σ ∧ Same B B' ∧ RpA K B' ds vs ∧ k ds env'
def LDs (K : PySem.W.Frag) (t : TA) (env : Env_) (k : List D → Env_ → Prop) : Prop := ∀ (M0 B M : Hp) (σ : L2.St), Conc K M0 env B M σ → ∀ Q : List V → Hp → Prop, (∀ vs H, PostDs K M0 σ B k vs H → Q vs H) → t σ (J B M) Q
def ED (X : Cx) (es : List Expr) (env : Env_) (k : List D → Env_ → Prop) : Prop := LDs X.K (canA X es) env k
abbrev Dis (B M : Hp) : Prop := ∀ (a : Addr) (o : HO), M a = some o → B a = none
section
variable {X : Cx} {K : PySem.W.Frag} {e a b c : Expr} {es rest : List Expr} {env : Env_} {k : List D → Env_ → Prop} {ke : D → Env_ → Prop} {km : MO → Env_ → Prop} {kl : List D → Env_ → Prop} {k4 : K4} {pos p : Pos}
variable {M0 B B1 M : Hp} {σ : L2.St}
theorem ED.of {t : TA} (h : PA X es t) (q : LDs X.K t env k) : ED X es env k := fun M0 B M σ c Q hQ pos pins s I => h.run pos pins s σ _ Q I (q M0 B M σ c Q hQ)
theorem ed_nil (q : k [] env) : ED X [] env k := .of pa_nil fun M0 B M σ c Q hQ => hQ _ _ ⟨[], env, B, M, rfl, c, Same.refl B, rfl, q⟩
theorem ed_cons (h : EE X a env fun d env1 => ED X es env1 fun ds env2 => k (d :: ds) env2) (hs : starEach (a :: es) X.env = (false, eval a X.env) :: starEach es X.env := by rfl) : ED X (a :: es) env k := .of (pa_cons pe_can pa_can hs) fun M0 B M σ c Q hQ =>
  h M0 B M σ c _ fun v H ⟨d, env', B', M', e1, c', sm, r, q⟩ => by
    subst e1
    refine q M0 B' M' σ c' _ fun vs H ⟨ds, env2, B2, M2, e2, c2, s2, r2, q2⟩ => ?_
    subst e2
    exact hQ _ _ ⟨d :: ds, env2, B2, M2, rfl, c2, sm.trans s2, ⟨v, vs, rfl, Rp.mono s2 d v r, r2⟩, q2⟩

/-! ### promises -/
abbrev FSp := List D → (Res → Prop) → Prop
abbrev FSs := MO → List D → (Res → MO → Prop) → Prop
def RetOk (K : PySem.W.Frag) (B M : Hp) (Q : VK) : Res → Prop
  | .d d => ∀ v B', Same B B' → Dis B' M → Rp K B' d v → Q v (J B' M)
  | .m mo => ∀ a o B', Same B B' → Dis B' M → M a = none → B' a = none → RpO K B' mo o → Q (.ref a) (J B' (upd M a o))
def RetOkS (K : PySem.W.Frag) (B M : Hp) (a : Addr) (Q : VK) : Res → MO → Prop
  | .d d, mo => ∀ v B' o, Same B B' → Dis B' M → RpO K B' mo o → Rp K B' d v → Q v (J B' (upd M a o))
  | .m m, mo => ∀ p u B' o, Same B B' → Dis B' M → RpO K B' mo o → M p = none → B' p = none → RpO K B' m u → Q (.ref p) (J B' (upd (upd M a o) p u))
def spF (K : PySem.W.Frag) (F : FSp) : Sp := fun vs H Q _ => ∃ B M ds q, H = J B M ∧ Dis B M ∧ RpA K B ds vs ∧ F ds q ∧ ∀ r, q r → RetOk K B M Q r
def spS (K : PySem.W.Frag) (F : FSs) : Sp := fun vs H Q _ => ∃ B M a mo o ds vs' q, vs = .ref a :: vs' ∧ H = J B M ∧ Dis B M ∧ M a = some o ∧ RpO K B mo o ∧ RpA K B ds vs' ∧ F mo ds q ∧ ∀ r mo', q r mo' → RetOkS K B M a Q r mo'
variable {CX : CXT} {f : Addr} {fd : FuncData} {ps : List Str} {E : XK} {x : Str} {n : Nat}
/-- f(..) -/
theorem ee_call {F : FSp} (G : FnOk X.prog X.w X.K X.mg X.base CX n f fd ps (spF X.K F)) (hr : Room n X.A) (hm : X.mg x = some (.ref f)) (hk : PySem.W.keepIn X.K (.ref f) = true) (hb : Binds X.K fd ps []) (hx : Passes CX X E)
    (h : ED X (e :: es) env fun ds env' => F ds fun r => ∃ d, r = .d d ∧ ke d env') (hg : Gl X x := by rfl) (hdb : (x == ("__debug__" : Str)) = false := by decide) (he : starEach (e :: es) X.env = (false, eval e X.env) :: starEach es X.env := by rfl) (hpl : (backTo pos (starEach es X.env)).any (·.1) = false := by rfl) :
    EE X (.Call (.Name x p) (e :: es) [] pos) env ke := .of (pe_call G hr hg hm hk hb .nil hx pa_can hdb he hpl) fun M0 B M σ c Q hQ => h M0 B M σ c _ fun vs H ⟨ds, env', B', M', e1, c', sm, r, q⟩ => by
  subst e1
  refine ⟨B', M', ds, _, rfl, c'.dis, by rw [List.append_nil]; exact r, q, fun r h => ?_⟩
  obtain ⟨d, rfl, h⟩ := h
  intro v B2 s2 d2 r2
  exact hQ _ _ ⟨d, env', B2, M', rfl, c'.ext s2 d2, sm.trans s2, r2, h⟩
theorem em_call {F : FSp} (G : FnOk X.prog X.w X.K X.mg X.base CX n f fd ps (spF X.K F)) (hr : Room n X.A) (hm : X.mg x = some (.ref f)) (hk : PySem.W.keepIn X.K (.ref f) = true) (hb : Binds X.K fd ps []) (hx : Passes CX X E)
    (h : ED X (e :: es) env fun ds env' => F ds fun r => ∃ mo, r = .m mo ∧ km mo env') (hg : Gl X x := by rfl) (hdb : (x == ("__debug__" : Str)) = false := by decide) (he : starEach (e :: es) X.env = (false, eval e X.env) :: starEach es X.env := by rfl) (hpl : (backTo pos (starEach es X.env)).any (·.1) = false := by rfl) :
    EM X (.Call (.Name x p) (e :: es) [] pos) env km := .of (pe_call G hr hg hm hk hb .nil hx pa_can hdb he hpl) fun M0 B M σ c Q hQ => h M0 B M σ c _ fun vs H ⟨ds, env', B', M', e1, c', sm, r, q⟩ => by
  subst e1
  refine ⟨B', M', ds, _, rfl, c'.dis, by rw [List.append_nil]; exact r, q, fun r h => ?_⟩
  obtain ⟨mo, rfl, h⟩ := h
  intro a o B2 s2 d2 n1 n2 r2
  exact hQ _ _ ⟨a, mo, o, env', B2, M', rfl, rfl, n1, n2, c'.ext s2 d2, sm.trans s2, r2, h⟩
theorem ee_call0 {F : FSp} (G : FnOk X.prog X.w X.K X.mg X.base CX n f fd ps (spF X.K F)) (hr : Room n X.A) (hm : X.mg x = some (.ref f)) (hk : PySem.W.keepIn X.K (.ref f) = true) (hb : Binds X.K fd ps []) (hx : Passes CX X E)
    (h : F [] fun r => ∃ d, r = .d d ∧ ke d env) (hg : Gl X x := by rfl) (hdb : (x == ("__debug__" : Str)) = false := by decide) : EE X (.Call (.Name x p) [] [] pos) env ke := .of (pe_call0 G hr hg hm hk hb .nil hx hdb) fun M0 B M σ c Q hQ => by
  refine ⟨B, M, [], _, rfl, c.dis, rfl, h, fun r h => ?_⟩
  obtain ⟨d, rfl, h⟩ := h
  intro v B2 s2 d2 r2
  exact hQ _ _ ⟨d, env, B2, M, rfl, c.ext s2 d2, s2, r2, h⟩
theorem em_call0 {F : FSp} (G : FnOk X.prog X.w X.K X.mg X.base CX n f fd ps (spF X.K F)) (hr : Room n X.A) (hm : X.mg x = some (.ref f)) (hk : PySem.W.keepIn X.K (.ref f) = true) (hb : Binds X.K fd ps []) (hx : Passes CX X E)
    (h : F [] fun r => ∃ mo, r = .m mo ∧ km mo env) (hg : Gl X x := by rfl) (hdb : (x == ("__debug__" : Str)) = false := by decide) : EM X (.Call (.Name x p) [] [] pos) env km := .of (pe_call0 G hr hg hm hk hb .nil hx hdb) fun M0 B M σ c Q hQ => by
  refine ⟨B, M, [], _, rfl, c.dis, rfl, h, fun r h => ?_⟩
  obtain ⟨mo, rfl, h⟩ := h
  intro a o B2 s2 d2 n1 n2 r2
  exact hQ _ _ ⟨a, mo, o, env, B2, M, rfl, rfl, n1, n2, c.ext s2 d2, s2, r2, h⟩
/-- how a def of n positional values and the keywords ks binds -/
def KB (K : PySem.W.Frag) (fd : FuncData) (ps ks : List Str) (n : Nat) : Prop := ps ≠ [] ∧ ∀ (s : Shared) (us ws : List Value), K.In s.heap → us.length = n → ws.length = ks.length → BindsTo s fd ⟨us, ks.zip ws⟩ (ps.zip (us ++ ws))
def gK {α : Type} (n m : Nat) (us ws : List α) : List α := if us.length = n ∧ ws.length = m then us ++ ws else []
theorem KB.binds {ks : List Str} (h : KB K fd ps ks n) : KBinds K fd ps ks (gK n ks.length) (gK n ks.length) := ⟨fun s us ws hk hl => by
  unfold gK at hl ⊢
  by_cases c : us.length = n ∧ ws.length = ks.length
  · rw [if_pos c]
    exact h.2 s us ws hk c.1 c.2
  · rw [if_neg c] at hl
    exact absurd (List.length_eq_zero_iff.mp hl.symm) h.1, fun r1 r2 => by
  unfold gK
  rw [r1.length, r2.length]
  split
  · exact r1.append r2
  · exact .nil⟩
/-- f(e, .., k = v, ..) -/
theorem ee_callK {F : FSp} {ks : List Str} {kws : List Keyword} {np : Nat} (G : FnOk X.prog X.w X.K X.mg X.base CX n f fd ps (spF X.K F)) (hr : Room n X.A) (hm : X.mg x = some (.ref f)) (hk : PySem.W.keepIn X.K (.ref f) = true) (hb : KB X.K fd ps ks np) (hx : Passes CX X E)
    {tk : TA} (hkw : PK X kws tk)
    (h : ED X (e :: es) env fun ds env' => LDs X.K tk env' fun zs env2 => ds.length = np ∧ zs.length = ks.length ∧ F (ds ++ zs) fun r => ∃ d, r = .d d ∧ ke d env2) (hall : (backToKw pos (keywordEach kws X.env)).all (·.1.isSome) = true := by rfl) (hks : (backToKw pos (keywordEach kws X.env)).filterMap (·.1) = ks := by rfl)
    (hg : Gl X x := by rfl) (hdb : (x == ("__debug__" : Str)) = false := by decide) (he : starEach (e :: es) X.env = (false, eval e X.env) :: starEach es X.env := by rfl)
    (hpl : ((backTo pos (starEach (e :: es) X.env)).any (·.1) || (backToKw pos (keywordEach kws X.env)).any (·.1.isNone)) = false := by rfl) :
    EE X (.Call (.Name x p) (e :: es) kws pos) env ke := .of (pe_callK G hr hg hm hk hb.binds hx pa_can hkw hall hks hdb he hpl) fun M0 B M σ c Q hQ => h M0 B M σ c _ fun vs H ⟨ds, env', B', M', e1, c', sm, r, q⟩ => by
  subst e1
  refine q M0 B' M' σ c' _ fun zs H ⟨es', env2, B2, M2, e2, c2, s2, r2, q2⟩ => ?_
  subst e2
  obtain ⟨l1, l2, q2⟩ := q2
  refine ⟨B2, M2, ds ++ es', _, rfl, c2.dis, ?_, q2, fun r h => ?_⟩
  · unfold gK
    rw [if_pos ⟨r.length.trans l1, r2.length.trans l2⟩]
    exact RpA.append (r.mono s2) r2
  obtain ⟨d, rfl, h⟩ := h
  intro v B3 s3 d3 r3
  exact hQ _ _ ⟨d, env2, B3, M2, rfl, c2.ext s3 d3, (sm.trans s2).trans s3, r3, h⟩
/-- f(e, .., k = v, ..) -/
theorem em_callK {F : FSp} {ks : List Str} {kws : List Keyword} {np : Nat} (G : FnOk X.prog X.w X.K X.mg X.base CX n f fd ps (spF X.K F)) (hr : Room n X.A) (hm : X.mg x = some (.ref f)) (hk : PySem.W.keepIn X.K (.ref f) = true) (hb : KB X.K fd ps ks np) (hx : Passes CX X E)
    {tk : TA} (hkw : PK X kws tk)
    (h : ED X (e :: es) env fun ds env' => LDs X.K tk env' fun zs env2 => ds.length = np ∧ zs.length = ks.length ∧ F (ds ++ zs) fun r => ∃ mo, r = .m mo ∧ km mo env2) (hall : (backToKw pos (keywordEach kws X.env)).all (·.1.isSome) = true := by rfl) (hks : (backToKw pos (keywordEach kws X.env)).filterMap (·.1) = ks := by rfl)
    (hg : Gl X x := by rfl) (hdb : (x == ("__debug__" : Str)) = false := by decide) (he : starEach (e :: es) X.env = (false, eval e X.env) :: starEach es X.env := by rfl)
    (hpl : ((backTo pos (starEach (e :: es) X.env)).any (·.1) || (backToKw pos (keywordEach kws X.env)).any (·.1.isNone)) = false := by rfl) :
    EM X (.Call (.Name x p) (e :: es) kws pos) env km := .of (pe_callK G hr hg hm hk hb.binds hx pa_can hkw hall hks hdb he hpl) fun M0 B M σ c Q hQ => h M0 B M σ c _ fun vs H ⟨ds, env', B', M', e1, c', sm, r, q⟩ => by
  subst e1
  refine q M0 B' M' σ c' _ fun zs H ⟨es', env2, B2, M2, e2, c2, s2, r2, q2⟩ => ?_
  subst e2
  obtain ⟨l1, l2, q2⟩ := q2
  refine ⟨B2, M2, ds ++ es', _, rfl, c2.dis, ?_, q2, fun r h => ?_⟩
  · unfold gK
    rw [if_pos ⟨r.length.trans l1, r2.length.trans l2⟩]
    exact RpA.append (r.mono s2) r2
  obtain ⟨mo, rfl, h⟩ := h
  intro a o B3 s3 d3 n1 n2 r3
  exact hQ _ _ ⟨a, mo, o, env2, B3, M2, rfl, rfl, n1, n2, c2.ext s3 d3, (sm.trans s2).trans s3, r3, h⟩
theorem lds_nil (q : k [] env) : LDs K tNil env k := fun M0 B M σ c Q hQ => hQ _ _ ⟨[], env, B, M, rfl, c, Same.refl B, rfl, q⟩
theorem lds_cons {te : TE} {t : TA} (h : LE K te env fun d env1 => LDs K t env1 fun ds env2 => k (d :: ds) env2) : LDs K (tCons te t) env k := fun M0 B M σ c Q hQ =>
  h M0 B M σ c _ fun v H ⟨d, env', B', M', e1, c', sm, r, q⟩ => by
    subst e1
    refine q M0 B' M' σ c' _ fun vs H ⟨ds, env2, B2, M2, e2, c2, s2, r2, q2⟩ => ?_
    subst e2
    exact hQ _ _ ⟨d :: ds, env2, B2, M2, rfl, c2, sm.trans s2, ⟨v, vs, rfl, Rp.mono s2 d v r, r2⟩, q2⟩
/-- f(x, ..), x a thing of one's own in slot i that f may change -/
theorem ee_callS (i : Nat) {F : FSs} {y : Str} {py : Pos} {mo0 : MO} {a0 : Addr} (G : FnOk X.prog X.w X.K X.mg X.base CX n f fd ps (spS X.K F)) (hr : Room n X.A) (hm : X.mg x = some (.ref f)) (hk : PySem.W.keepIn X.K (.ref f) = true) (hb : Binds X.K fd ps []) (hx : Passes CX X E)
    (hi : env[i]? = some (.mu a0 mo0))
    (h : ED X es env fun ds env' => ∃ mo, env'[i]? = some (.mu a0 mo) ∧ F mo ds fun r mo' => ∃ d, r = .d d ∧ ke d (env'.set i (.mu a0 mo')))
    (hN : X.N[i]? = some y := by rfl) (hv : Vis X.env.scope y := by first | exact Or.inl rfl | exact Or.inr (Or.inl rfl) | exact Or.inr (Or.inr rfl)) (hd : (y == ("__debug__" : Str)) = false := by decide) (hcd : (y == ("__classdict__" : Str)) = false := by decide)
    (hg : Gl X x := by rfl) (hdb : (x == ("__debug__" : Str)) = false := by decide) (he : starEach (.Name y py :: es) X.env = (false, eval (.Name y py) X.env) :: starEach es X.env := by rfl) (hpl : (backTo pos (starEach es X.env)).any (·.1) = false := by rfl) :
    EE X (.Call (.Name x p) (.Name y py :: es) [] pos) env ke := .of (pe_call G hr hg hm hk hb .nil hx (pa_cons (pe_var hN hv hd hcd) pa_can he) hdb he hpl) fun M0 B M σ c Q hQ => by
  obtain ⟨s, hs, e1, o, ho, hr0⟩ := c.slot i _ hi
  refine ⟨.ref a0, by rw [hs, e1], h M0 B M σ c _ fun vs H ⟨ds, env', B', M', e1, c', sm, r, mo, hi', q⟩ => ?_⟩
  subst e1
  obtain ⟨s', hs', e2, o', ho', hr'⟩ := c'.slot i _ hi'
  refine ⟨B', M', a0, mo, o', ds, vs, _, by rw [List.append_nil], rfl, c'.dis, ho', hr', r, q, fun r mo' h => ?_⟩
  obtain ⟨d, rfl, h⟩ := h
  intro v B2 o2 s2 d2 r2 r3
  exact hQ _ _ ⟨d, _, B2, upd M' a0 o2, rfl, (c'.ext s2 d2).mut hi' r2, sm.trans s2, r3, h⟩
theorem em_callS (i : Nat) {F : FSs} {y : Str} {py : Pos} {mo0 : MO} {a0 : Addr} (G : FnOk X.prog X.w X.K X.mg X.base CX n f fd ps (spS X.K F)) (hr : Room n X.A) (hm : X.mg x = some (.ref f)) (hk : PySem.W.keepIn X.K (.ref f) = true) (hb : Binds X.K fd ps []) (hx : Passes CX X E)
    (hi : env[i]? = some (.mu a0 mo0))
    (h : ED X es env fun ds env' => ∃ mo, env'[i]? = some (.mu a0 mo) ∧ F mo ds fun r mo' => ∃ m, r = .m m ∧ km m (env'.set i (.mu a0 mo')))
    (hN : X.N[i]? = some y := by rfl) (hv : Vis X.env.scope y := by first | exact Or.inl rfl | exact Or.inr (Or.inl rfl) | exact Or.inr (Or.inr rfl)) (hd : (y == ("__debug__" : Str)) = false := by decide) (hcd : (y == ("__classdict__" : Str)) = false := by decide)
    (hg : Gl X x := by rfl) (hdb : (x == ("__debug__" : Str)) = false := by decide) (he : starEach (.Name y py :: es) X.env = (false, eval (.Name y py) X.env) :: starEach es X.env := by rfl) (hpl : (backTo pos (starEach es X.env)).any (·.1) = false := by rfl) :
    EM X (.Call (.Name x p) (.Name y py :: es) [] pos) env km := .of (pe_call G hr hg hm hk hb .nil hx (pa_cons (pe_var hN hv hd hcd) pa_can he) hdb he hpl) fun M0 B M σ c Q hQ => by
  obtain ⟨s, hs, e1, o, ho, hr0⟩ := c.slot i _ hi
  refine ⟨.ref a0, by rw [hs, e1], h M0 B M σ c _ fun vs H ⟨ds, env', B', M', e1, c', sm, r, mo, hi', q⟩ => ?_⟩
  subst e1
  obtain ⟨s', hs', e2, o', ho', hr'⟩ := c'.slot i _ hi'
  refine ⟨B', M', a0, mo, o', ds, vs, _, by rw [List.append_nil], rfl, c'.dis, ho', hr', r, q, fun r mo' h => ?_⟩
  obtain ⟨m, rfl, h⟩ := h
  intro p u B2 o2 s2 d2 r2 n1 n2 r3
  have hne : p ≠ a0 := fun z => by rw [z, ho'] at n1; cases n1
  exact hQ _ _ ⟨p, m, u, _, B2, upd M' a0 o2, rfl, rfl, by rw [upd_ne hne]; exact n1, n2, (c'.ext s2 d2).mut hi' r2, sm.trans s2, r3, h⟩
end

/-! ### a def keeps its promise -/
section
variable {P : Program} {w : World} {K : PySem.W.Frag} {mg : Str → Option Value} {base : Heap} {x qual : Str} {st : Stmt} {f : Addr} {fd : FuncData} {N ps : List Str} {n : Nat}
def env0 (N : List Str) (ds : List D) : Env_ := ds.map .dat ++ List.replicate (N.length - ds.length) .un
theorem conc_start {B M : Hp} {ds : List D} {vs : List V} (hd : Dis B M) (r : RpA K B ds vs) : Conc K M (env0 N ds) B M (start N vs) := by
  have hl := r.length
  have nomu : ∀ (i : Nat) (a : Addr) (mo : MO), (env0 N ds)[i]? ≠ some (.mu a mo) := fun i a mo q => by
    unfold env0 at q
    rw [List.getElem?_append] at q
    split at q
    · rw [List.getElem?_map] at q
      cases e : ds[i]? with
      | none => rw [e] at q; cases q
      | some d => rw [e] at q; cases q
    · rw [List.getElem?_replicate] at q
      split at q
      · cases q
      · cases q
  refine ⟨hd, ?_, fun i d q => ?_, fun i j a mo mo' q => (nomu i a mo q).elim, fun i a mo q => (nomu i a mo q).elim, fun a _ => rfl⟩
  · unfold env0 L2.start
    rw [List.length_append, List.length_append, List.length_map, List.length_map, List.length_replicate, List.length_replicate, hl]
  · unfold env0 at q
    rw [List.getElem?_append] at q
    split at q
    · rename_i hi
      rw [List.length_map] at hi
      rw [List.getElem?_map] at q
      cases e : ds[i]? with
      | none => rw [e] at q; cases q
      | some d' =>
        rw [e] at q
        obtain ⟨v, hv, hr⟩ := r.get e
        have e2 : Desc.dat d' = d := Option.some.inj q
        subst e2
        refine ⟨some v, ?_, v, rfl, hr⟩
        unfold L2.start
        rw [List.getElem?_append_left (by rw [List.length_map]; omega), List.getElem?_map, hv]
        rfl
    · rename_i hi
      rw [List.length_map] at hi
      rw [List.getElem?_replicate] at q
      split at q
      · rename_i hi2
        rw [List.length_map] at hi2
        have e2 : Desc.un = d := Option.some.inj q
        subst e2
        refine ⟨none, ?_, trivial⟩
        unfold L2.start
        rw [List.getElem?_append_right (by rw [List.length_map]; omega), List.getElem?_replicate, List.length_map, if_pos (by omega)]
      · cases q
theorem fn_F {F : FSp} (Fn : Fun K x qual st f fd) (S : FnScope N ps (defScope st)) (hlen : ∀ ds q, F ds q → ds.length = ps.length)
    (hb : ∀ (cdv : Value) (A : Around) (outer : List Env) (s : Shared) (H : Hp) (E : XK), Room n (A.deeper (envOfC qual (defScope st) s.heap.objs.size f cdv)) → ∀ ds q, F ds q →
      SS (cxOf CX0 P w K mg base N qual (defScope st) f cdv A outer s H E).nox (defBody st) (env0 N ds) { nx := fun _ => q (.d Nn), rt := fun r _ => q r }) : FnOk P w K mg base CX0 (n + 1) f fd ps (spF K F) := by
  refine Fn.ok S (fun vs H Q E h => ?_) (fun cdv A outer s H vs Q E hr h => ?_)
  · obtain ⟨B, M, ds, q, _, _, r, hF, _⟩ := h
    rw [r.length, hlen ds q hF]
  · obtain ⟨B, M, ds, q, rfl, hd, r, hF, hq⟩ := h
    refine ⟨_, pss_can, ?_⟩
    refine hb cdv A outer s _ E hr ds q hF M B M (start N vs) (conc_start hd r) _ (fun σ H p => ?_) (fun v H p => ?_) (fun σ H p => ?_) (fun σ H p => ?_)
    · obtain ⟨env', B', M', rfl, c, sm, z⟩ := p
      obtain ⟨B2, e2, s2, d2⟩ := c.out
      show Q .non (J B' M')
      rw [← e2]
      exact hq _ z .non B2 (sm.trans s2) d2 rfl
    · rcases p with ⟨σ', d, env', B', M', rfl, c, sm, r', z⟩ | ⟨σ', a, mo, o, env', B', M', rfl, rfl, n1, n2, c, sm, r', z⟩
      · obtain ⟨B2, e2, s2, d2⟩ := c.out
        show Q v (J B' M')
        rw [← e2]
        exact hq _ z v B2 (sm.trans s2) d2 (Rp.mono s2 d v r')
      · obtain ⟨B2, e2, s2, d2⟩ := c.out
        show Q (.ref a) (J B' (upd M' a o))
        have hn : J B2 M a = none := by rw [e2, J_B n1]; exact n2
        obtain ⟨h1, h2⟩ := J_none hn
        rw [← upd_JM, ← e2, upd_JM]
        exact hq _ z a o B2 (sm.trans s2) d2 h1 h2 (r'.mono s2)
    · obtain ⟨_, _, _, _, _, _, z⟩ := p; exact z.elim
    · obtain ⟨_, _, _, _, _, _, z⟩ := p; exact z.elim
def envS (N : List Str) (a : Addr) (mo : MO) (ds : List D) : Env_ := .mu a mo :: (ds.map .dat ++ List.replicate (N.length - (ds.length + 1)) .un)
theorem conc_startS {B M : Hp} {a : Addr} {mo : MO} {o : HO} {ds : List D} {vs : List V} (hd : Dis B M) (ha : M a = some o) (hr : RpO K B mo o) (r : RpA K B ds vs) : Conc K (del M a) (envS N a mo ds) B M (start N (.ref a :: vs)) := by
  have c0 : Conc K (del M a) (env0 N (Nn :: ds)) B (del M a) (start N (.non :: vs)) := conc_start (fun b u q => by
    by_cases hb : b = a
    · rw [hb, del_same] at q; cases q
    · rw [del_ne hb] at q; exact hd b u q) ⟨.non, vs, rfl, rfl, r⟩
  have c1 := c0.setM 0 (p := a) (mo := mo) (o := o) del_same (hd a o ha) hr (by unfold env0; simp)
  have nomu : ∀ (i : Nat) (a : Addr) (mo : MO), (env0 N (Nn :: ds))[i]? ≠ some (.mu a mo) := fun i a mo q => by
    unfold env0 at q
    rw [List.getElem?_append] at q
    split at q
    · rw [List.getElem?_map] at q
      cases e : (Nn :: ds)[i]? with
      | none => rw [e] at q; cases q
      | some d => rw [e] at q; cases q
    · rw [List.getElem?_replicate] at q
      split at q
      · cases q
      · cases q
  have tail : ∀ (i : Nat) (a' : Addr) (mo' : MO), (envS N a mo ds)[i]? = some (.mu a' mo') → i = 0 ∧ a' = a ∧ mo' = mo := fun i a' mo' q => by
    cases i with
    | zero =>
      have e : Desc.mu a mo = Desc.mu a' mo' := Option.some.inj q
      cases e
      exact ⟨rfl, rfl, rfl⟩
    | succ j =>
      exact (nomu (j + 1) a' mo' (by
        have q' : (ds.map Desc.dat ++ List.replicate (N.length - (ds.length + 1)) .un)[j]? = some (.mu a' mo') := q
        show (Desc.dat Nn :: (ds.map Desc.dat ++ List.replicate (N.length - (ds.length + 1)) .un))[j + 1]? = some (.mu a' mo')
        exact q')).elim
  refine ⟨hd, ?_, fun i d q => ?_, fun i j b mo1 mo2 q1 q2 => ?_, fun i b mo1 q => ?_, fun b hb => ?_⟩
  · have := c0.len
    unfold L2.start env0 at this
    unfold L2.start envS
    simp at this ⊢
    omega
  · cases i with
    | zero =>
      have e : Desc.mu a mo = d := Option.some.inj q
      subst e
      exact ⟨some (.ref a), rfl, rfl, o, ha, hr⟩
    | succ j =>
      obtain ⟨s, h1, h2⟩ := c0.slot (j + 1) d (show (Desc.dat Nn :: (ds.map Desc.dat ++ List.replicate (N.length - (ds.length + 1)) .un))[j + 1]? = some d from q)
      refine ⟨s, h1, ?_⟩
      cases d with
      | un => trivial
      | dat d => exact h2
      | mu b mo' => exact (nomu (j + 1) b mo' q).elim
  · rw [(tail i b mo1 q1).1, (tail j b mo2 q2).1]
  · rw [(tail i b mo1 q).2.1]; exact del_same
  · by_cases hba : b = a
    · exact (hb 0 mo (by rw [hba]; rfl)).elim
    · rw [del_ne hba]
theorem fn_S {F : FSs} (Fn : Fun K x qual st f fd) (S : FnScope N ps (defScope st)) (hlen : ∀ mo ds q, F mo ds q → ds.length + 1 = ps.length)
    (hb : ∀ (cdv : Value) (A : Around) (outer : List Env) (s : Shared) (H : Hp) (E : XK), Room n (A.deeper (envOfC qual (defScope st) s.heap.objs.size f cdv)) → ∀ a mo ds q, F mo ds q →
      SS (cxOf CX0 P w K mg base N qual (defScope st) f cdv A outer s H E).nox (defBody st) (envS N a mo ds) { nx := fun env' => ∃ mo', env'[0]? = some (.mu a mo') ∧ q (.d Nn) mo', rt := fun r env' => ∃ mo', env'[0]? = some (.mu a mo') ∧ q r mo' }) : FnOk P w K mg base CX0 (n + 1) f fd ps (spS K F) := by
  refine Fn.ok S (fun vs H Q E h => ?_) (fun cdv A outer s H vs Q E hr h => ?_)
  · obtain ⟨B, M, a, mo, o, ds, vs', q, rfl, _, _, _, _, r, hF, _⟩ := h
    rw [List.length_cons, r.length, hlen mo ds q hF]
  · obtain ⟨B, M, a, mo, o, ds, vs', q, rfl, rfl, hd, ha, hro, r, hF, hq⟩ := h
    refine ⟨_, pss_can, ?_⟩
    have fin : ∀ {env' : Env_} {B' M' : Hp} {σ' : L2.St} {mo' : MO}, Conc K (del M a) env' B' M' σ' → env'[0]? = some (.mu a mo') → ∃ B2 o', J B' M' = J B2 (upd M a o') ∧ Same B' B2 ∧ Dis B2 M ∧ RpO K B2 mo' o' := fun {env' B' M' σ' mo'} c hi => by
      obtain ⟨o', ho', hr', e1, n1, hs, c1⟩ := c.take hi
      obtain ⟨B2, e2, s2, d2⟩ := c1.out
      have eM : upd (del M a) a o' = upd M a o' := by
        funext b
        by_cases hba : b = a
        · rw [hba, upd_same, upd_same]
        · rw [upd_ne hba, upd_ne hba, del_ne hba]
      refine ⟨B2, o', ?_, s2, fun b u hbu => ?_, hr'.mono s2⟩
      · rw [e1, ← upd_JM, ← e2, upd_JM, eM]
      · by_cases hba : b = a
        · have z : J B2 (del M a) a = none := by rw [e2, J_B del_same]; exact n1
          rw [hba]
          exact (J_none z).2
        · exact d2 b u (by rw [del_ne hba]; exact hbu)
    refine hb cdv A outer s _ E hr a mo ds q hF (del M a) B M (start N (.ref a :: vs')) (conc_startS hd ha hro r) _ (fun σ H p => ?_) (fun v H p => ?_) (fun σ H p => ?_) (fun σ H p => ?_)
    · obtain ⟨env', B', M', rfl, c, sm, mo', hi, z⟩ := p
      obtain ⟨B2, o', e2, s2, d2, r2⟩ := fin c hi
      show Q .non (J B' M')
      rw [e2]
      exact hq _ _ z .non B2 o' (sm.trans s2) d2 r2 rfl
    · rcases p with ⟨σ', d, env', B', M', rfl, c, sm, r', mo', hi, z⟩ | ⟨σ', p, m, u, env', B', M', rfl, rfl, n1, n2, c, sm, r', mo', hi, z⟩
      · obtain ⟨B2, o', e2, s2, d2, r2⟩ := fin c hi
        show Q v (J B' M')
        rw [e2]
        exact hq _ _ z v B2 o' (sm.trans s2) d2 r2 (Rp.mono s2 d v r')
      · obtain ⟨B2, o', e2, s2, d2, r2⟩ := fin c hi
        show Q (.ref p) (J B' (upd M' p u))
        have hn : J B2 (upd M a o') p = none := by rw [← e2, J_B n1]; exact n2
        obtain ⟨h1, h2⟩ := J_none hn
        have hpa : p ≠ a := fun z => by rw [z, upd_same] at h1; cases h1
        rw [upd_ne hpa] at h1
        rw [← upd_JM, e2, upd_JM]
        exact hq _ _ z p u B2 o' (sm.trans s2) d2 r2 h1 h2 (r'.mono s2)
    · obtain ⟨_, _, _, _, _, _, z⟩ := p; exact z.elim
    · obtain ⟨_, _, _, _, _, _, z⟩ := p; exact z.elim
end
end Sy
/-! rules for tuples that are told whole -/
namespace PyProof.Rows
open PySem
section
variable {prog : Program} {w : World} {A : Around} {E : Value → Shared → Prop} {s : Shared}
theorem collect_tupleS {l : Addr} {vs : List Value} {Q : List Value → Shared → Prop} (hl : IsTup s.heap l vs.toArray)
    (h : Q vs { s with heap := (s.heap.push (seqObj "list" #[] 0)).update s.heap.objs.size (Obj.mapSeq (· ++ vs.toArray)) }) (hsz : vs.length ≤ sizeLine) :
    wpAny (model prog w) A (collect (.ref l)) Q E s := by
  obtain ⟨o, ho, hc, n, hd⟩ := id hl
  unfold collect
  refine wpAny_bind (wpAny_runValue (codeAny_builtin entry_proto_collect' ?_))
  show wpAny _ _ (do again (.builtin "list.__iadd__" ⟨[← newList [], .ref l], []⟩)) _ _ s
  refine wpAny_bind (wpAny_newList (wpAny_pure ⟨Code.quiet_builtin _ (by decide +kernel), codeAny_builtin entry_list_iadd' ?_⟩))
  show wpAny _ _ (Builtin.List.listExtendWith (.ref s.heap.objs.size) (.ref l) (.ref s.heap.objs.size)) _ _ { s with heap := s.heap.push (seqObj "list" #[] 0) }
  unfold Builtin.List.listExtendWith
  have ho' : (s.heap.push (seqObj "list" #[] 0)).get? l = some o := Heap.get?_push_of_some _ ho
  refine wpAny_bind (wpAny_typeOf (T := "tuple") ⟨o, ho', hc⟩ ?_)
  have ht : (Value.type "tuple" == Value.type "tuple") = true := by rfl
  rw [if_pos (by rw [ht]; simp)]
  refine wpAny_bind (listItems_at ho' hd ?_)
  refine wpAny_bind (listItems_at (xs := #[]) (n := 0) (Heap.get?_push_size _ rfl) rfl ?_)
  rw [if_neg (by simp)]
  refine wpAny_bind (listUpdate_at (xs := #[]) (n := 0) (Heap.get?_push_size _ rfl) rfl ?_ (Nat.zero_le _) (by show (#[] ++ vs.toArray).size ≤ sizeLine + 1; simp only [Array.size_append, List.size_toArray, List.length_nil]; omega))
  refine wpAny_pure ?_
  show wpAny (model prog w) A (do
      let o ← load s.heap.objs.size
      match o.data with
      | .seq xs _ => pure xs.toList
      | _ => unsupported "internal:collect") Q E { s with heap := (s.heap.push (seqObj "list" #[] 0)).update s.heap.objs.size (Obj.mapSeq (· ++ vs.toArray)) }
  refine wpAny_bind (wpAny_load (get?_update_seq (Heap.get?_push_size _ rfl) _) ?_)
  show wpAny _ _ (pure ((#[] : Array Value) ++ vs.toArray).toList) Q E _
  rw [show ((#[] : Array Value) ++ vs.toArray).toList = vs by simp]
  exact wpAny_pure h
theorem sorted_ints_tup {l : Addr} {vs : List Value} {ns : List Int} {Q : Value → Shared → Prop} (hl : IsTup s.heap l vs.toArray) (hI : IntsAre vs ns) (h64 : vs.length < 64)
    (h : ∀ (out : Array Value) (ns' : List Int), IntsAre out.toList ns' → ns'.Perm ns → ns'.Pairwise (· ≤ ·) → Q (.ref (s.heap.objs.size + 1)) { s with heap := sortedAll s.heap vs out }) :
    wpAny (model prog w) A (call (.builtin "sorted") [.ref l]) Q E s := by
  refine Calls.call_function_entry kind_sorted plain_sorted entry_sorted (args_sorted1 _) ?_
  unfold Builtin.«sorted»
  refine wpAny_bind (m := checkCount "sorted" 1 1 _) (wpAny_pure ?_)
  refine wpAny_bind (collect_tupleS hl ?_ (by rw [sizeLine_eq]; omega))
  refine wpAny_bind (wpAny_newList ?_)
  have hsz : ((s.heap.push (seqObj "list" #[] 0)).update s.heap.objs.size (Obj.mapSeq (· ++ vs.toArray))).objs.size = s.heap.objs.size + 1 := by
    rw [Heap.size_update, size_push']
  have hoL : (((s.heap.push (seqObj "list" #[] 0)).update s.heap.objs.size (Obj.mapSeq (· ++ vs.toArray))).push (seqObj "list" vs.toArray 0)).get? (s.heap.objs.size + 1) = some (seqObj "list" vs.toArray 0) := by
    rw [← hsz]; exact Heap.get?_push_size _ rfl
  show wpAny _ _ _ _ _ { s with heap := ((s.heap.push (seqObj "list" #[] 0)).update s.heap.objs.size (Obj.mapSeq (· ++ vs.toArray))).push (seqObj "list" vs.toArray 0) }
  rw [hsz]
  refine wpAny_bind (wpAny_holding (wpAny_call_entry slot_list_sort ⟨_, hoL, rfl⟩ entry_list_sort (list_sort_tree hoL hI h64 fun out ns' a1 a2 a3 => ⟨_, rfl, ?_⟩) (args_list_sort _)))
  exact wpAny_pure ⟨_, rfl, h out ns' a1 a2 a3⟩
end
end PyProof.Rows
namespace Sy
open PySem PySem.Spec PyProof.Rows L2

/-- what a new plain tuple of xs is handed on as -/
def NewT (Q : VK) (H : Hp) (xs : List V) : Prop := ∀ (p : Addr) (o : Obj), H p = none → o.cls = .type "tuple" → o.dict = none → Q (.ref p) (upd H p (.frz o (.tup xs)))
section
variable {X : Cx} {pins : List (Addr × Obj)} {σ : L2.St} {H : Hp} {s : Shared}
theorem ep_newT {xs : List V} {its : List Value} {Q : VK} {tk : Nat} (I : Inv X pins σ H s) (r : Vals xs its) (hz : xs.length ≤ sizeLine) (q : NewT Q H xs) :
    EP X pins σ Q (.ref s.heap.objs.size) { s with heap := s.heap.push { cls := .type "tuple", data := .seq its.toArray }, toks := tk } :=
  ⟨.ref s.heap.objs.size, upd H s.heap.objs.size (.frz { cls := .type "tuple", data := .seq its.toArray } (.tup xs)),
    I.laid (t' := tk) (fun b u e => Heap.get?_push_of_some _ e) (Nat.le_refl _) ⟨Heap.get?_push_size _ rfl, hz, its, r, IsTup.new _ _⟩, rfl, q _ _ (I.hok.fresh (Nat.le_refl _)) rfl rfl⟩
end
section
variable {X : Cx} {e a b : Expr} {es : List Expr} {te ta : TE} {t : TA} {pos p : Pos}
def tTupS (t : TA) : TE := fun σ H Q => t σ H fun xs H1 => xs.length ≤ sizeLine ∧ NewT Q H1 xs
theorem pe_tupS {x1} (h : PA X es t) : PE X (.Tuple es x1 pos) (tTupS t) := by
  refine ⟨fun pins s σ H Q I hq => ?_⟩
  refine wpAny_Tuple_spliced (thn (h.run pos pins s σ H _ I hq) fun us s1 ⟨xs, H1, I1, r, z, q⟩ => ⟨by rw [← r.length]; exact z, ?_⟩)
  exact ep_newT (tk := s1.toks) I1 r z q
def rTupleS (K : PySem.W.Frag) : List V → Hp → VK → Prop := fun xs H Q => ∃ p ys, xs = [.ref p] ∧ ((SqL K H p ys ∧ NewT Q H ys) ∨ (SqT K H p ys ∧ Q (.ref p) H))
theorem call_tupleS : CallR X (.type "tuple") (rTupleS X.K) := by
  intro pins s σ H xs us Q I r h
  obtain ⟨p, ys, rfl, h⟩ := h
  obtain ⟨u, rfl, rx⟩ := vals1 r
  cases rx
  rcases h with ⟨hq, q⟩ | ⟨hq, q⟩
  · obtain ⟨its, r', pl, hz⟩ := I.list hq
    have hlen := r'.length
    refine call_tuple_list pl.isList (fun h' kp => ?_) (by simp only [List.size_toArray] <;> omega)
    have I1 : Inv X pins σ H { s with heap := h' } := I.kept (t' := s.toks) kp
    exact ep_newT (tk := s.toks) I1 r' hz q
  · obtain ⟨its, r', pl, hz⟩ := I.tuple hq
    exact call_tuple_same pl ⟨.ref p, H, I, rfl, q⟩
def rCatS (K : PySem.W.Frag) : R2 := fun x y H Q => ∃ a b xs ys, x = .ref a ∧ y = .ref b ∧ SqT K H a xs ∧ SqT K H b ys ∧ xs.length + ys.length ≤ sizeLine ∧
  (xs = [] → Q (.ref b) H) ∧ (xs ≠ [] → ys = [] → Q (.ref a) H) ∧ (xs ≠ [] → ys ≠ [] → NewT Q H (xs ++ ys))
theorem op_catS : OpR X (binaryOp .Add) (rCatS X.K) := by
  intro pins s σ H x y v u Q I rx ry h
  obtain ⟨a, b, xs, ys, rfl, rfl, ha, hb, hz, q0, q1, q2⟩ := h
  cases rx
  cases ry
  obtain ⟨its, r1, p1, _⟩ := I.tuple ha
  obtain ⟨its2, r2, p2, _⟩ := I.tuple hb
  by_cases hx : xs = []
  · subst hx
    cases r1
    exact cat_tup0 p1 p2 ⟨.ref b, H, I, rfl, q0 rfl⟩
  · refine HT.cat_tup p1 p2 (fun z => hx (r1.nil_iff.mp z)) (fun z => ⟨.ref a, H, I, rfl, q1 hx (r2.nil_iff.mp z)⟩) (fun z => ?_) (by rw [← r1.length, ← r2.length]; exact hz)
    exact ep_newT (tk := s.toks) I (r1.append r2) (by rw [List.length_append]; exact hz) (q2 hx fun w => z (r2.nil_iff.mpr w))
def rSlS (K : PySem.W.Frag) : V → Option Int → Option Int → Hp → VK → Prop := fun x lo hi H Q => ∃ a xs, x = .ref a ∧ SqT K H a xs ∧
  (HT.sIx xs.length 0 lo = 0 ∧ HT.sIx xs.length xs.length hi = xs.length → Q (.ref a) H) ∧ (¬ (HT.sIx xs.length 0 lo = 0 ∧ HT.sIx xs.length xs.length hi = xs.length) → NewT Q H (cutV xs lo hi))
theorem sl_tupS : SlR X (rSlS X.K) := by
  intro pins s σ H x v vl vu lo hi sl Q I rx hs pl pu h
  obtain ⟨a, xs, rfl, hx, q1, q2⟩ := h
  by_cases hw : HT.sIx xs.length 0 lo = 0 ∧ HT.sIx xs.length xs.length hi = xs.length
  · cases rx
    obtain ⟨its, r, ht, hz⟩ := I.tuple hx
    have hlen : its.toArray.size = xs.length := by rw [List.size_toArray]; exact r.length.symm
    refine ⟨"tuple", _, PyProof.Rows.slot_tuple_getitem.lookup, ht.typeIs, ?_⟩
    exact getItem_tuple_whole ht hs pl pu (by rw [hlen]; exact hw) ⟨.ref a, H, I, rfl, q1 hw⟩
  · cases rx
    obtain ⟨its, r, ht, hz⟩ := I.tuple hx
    have hlen : its.toArray.size = xs.length := by rw [List.size_toArray]; exact r.length.symm
    refine ⟨"tuple", _, PyProof.Rows.slot_tuple_getitem.lookup, ht.typeIs, ?_⟩
    refine HT.getItem_tuple_cut ht hs pl pu (by rw [hlen]; exact hw) ?_ (by rw [hlen]; exact hz)
    rw [hlen]
    exact ep_newT (tk := s.toks) I ((r.drop (HT.sIx xs.length 0 lo)).take (HT.sIx xs.length xs.length hi - HT.sIx xs.length 0 lo)) (Nat.le_trans (cutV_length xs lo hi) hz) (q2 hw)
def rRepS (K : PySem.W.Frag) : R2 := fun x y H Q => ∃ l k xs, x = .ref l ∧ y = .int k ∧ SqT K H l xs ∧ xs ≠ [] ∧ 2 ≤ k ∧ k ≤ 1000 ∧ xs.length ≤ 1000 ∧ NewT Q H (List.replicate k.toNat xs).flatten
theorem op_repS : OpR X (binaryOp .Mult) (rRepS X.K) := by
  intro pins s σ H x y v u Q I rx ry h
  obtain ⟨l, k, xs, rfl, rfl, hT, hne, h1, h2, hz, q⟩ := h
  cases rx
  obtain ⟨t, rfl⟩ := ry
  obtain ⟨its, r, ⟨⟨cls, dd, data, sl⟩, ho, hc, n, hd⟩, hs⟩ := I.tuple hT
  simp only at hc hd
  subst hc hd
  have hle : its.length = xs.length := r.length.symm
  have hn : its ≠ [] := fun e => hne (by
    rw [e] at hle
    exact List.eq_nil_of_length_eq_zero hle.symm)
  have hi : its.toArray.isEmpty = false := by
    cases its with
    | nil => exact absurd rfl hn
    | cons a b => rfl
  have hsz0 : its.toArray.size = xs.length := by rw [List.size_toArray, hle]
  have hm : ((its.toArray.size : Nat) : Int) * k ≤ 1000000 := by
    rw [hsz0]
    have a1 : ((xs.length : Nat) : Int) * k ≤ 1000 * k := Int.mul_le_mul_of_nonneg_right (by omega) (by omega)
    omega
  have flen : (List.replicate k.toNat its).flatten.length ≤ sizeLine := by
    rw [PyProof.Rows.lm_len_rep_flat, hle, sizeLine_eq]
    have a1 : k.toNat * xs.length ≤ 1000 * 1000 := Nat.mul_le_mul (by omega) hz
    omega
  have c0 : (decide (k < -(2 ^ 63)) || decide (k ≥ 2 ^ 63)) = false := by
    rw [decide_eq_false (by omega), decide_eq_false (by omega)] <;> rfl
  have c1 : (its.toArray.isEmpty || k == 1) = false := by
    rw [hi, Bool.false_or]
    exact beq_eq_false_iff_ne.mpr (by omega)
  have c2 : (decide (k ≤ 0) || its.toArray.isEmpty) = false := by
    rw [hi, Bool.or_false]
    exact decide_eq_false (by omega)
  have c4 : Builtin.Tuple.tupleTooMany (((its.toArray.size : Nat) : Int) * k) = false := by
    unfold Builtin.Tuple.tupleTooMany
    rw [sizeLine_eq]
    exact decide_eq_false (by omega)
  refine wpAny_binaryOp_repeat_ref (T := "tuple") (U := "int") (by decide) ⟨_, ho, rfl⟩ (fun s' => typeIs_int s' k t) noFill_tuple_mul F.fills_int_mul F.slot_int_rmul repeat_tuple F.slot_int_index.lookup
    (call_meets F.slot_int_rmul (typeIs_int s k t) F.entry_int_rmul (F.args_int_rmul_2 _ _) (int_rmul_tuple k t l its.toArray n dd sl)
      ⟨ho, rfl, ⟨_, ho, rfl⟩, call_meets F.slot_tuple_mul ⟨_, ho, rfl⟩ F.entry_tuple_mul (F.args_tuple_mul_2 _ _) (tuple_mulW l its.toArray n dd sl k t c0 c1 c2 (by omega) c4 (by rw [size_rep, List.size_toArray]; exact flen)) ⟨ho, ?_⟩⟩)
  rw [size_rep]
  exact ep_newT (tk := s.toks) I (r.rep k.toNat) (by rw [PyProof.Rows.lm_len_rep_flat, sizeLine_eq]; have a1 : k.toNat * xs.length ≤ 1000 * 1000 := Nat.mul_le_mul (by omega) hz; omega) q
/-- t[::-1] -/
def tRevT (K : PySem.W.Frag) (te : TE) : TE := fun σ H Q => te σ H fun x H1 => ∃ a xs, x = .ref a ∧ SqT K H1 a xs ∧ NewT Q H1 xs.reverse
theorem pick_revT (its : List Value) : ((List.range its.length).filterMap fun (m : Nat) => its.toArray[(((its.length : Int) - 1) + (m : Int) * (-1)).toNat]?) = its.reverse := by
  refine List.ext_getElem? fun i => ?_
  have h : ∀ (l : List Nat), (∀ m ∈ l, m < its.length) → (l.filterMap fun (m : Nat) => its.toArray[(((its.length : Int) - 1) + (m : Int) * (-1)).toNat]?) = l.map fun m => its.reverse.getD m default := by
    intro l
    induction l with
    | nil => intro _; rfl
    | cons x r ih =>
      intro hl
      have hx := hl x List.mem_cons_self
      have e : its.toArray[(((its.length : Int) - 1) + (x : Int) * (-1)).toNat]? = some (its.reverse.getD x default) := by
        have e1 : (((its.length : Int) - 1) + (x : Int) * (-1)).toNat = its.length - 1 - x := by omega
        rw [e1, List.getElem?_toArray, List.getD_eq_getElem?_getD, List.getElem?_reverse hx, List.getElem?_eq_getElem (by omega)]
        rfl
      rw [List.filterMap_cons, e]
      show its.reverse.getD x default :: _ = _
      rw [ih fun m hm => hl m (List.mem_cons_of_mem _ hm), List.map_cons]
  rw [h _ fun m hm => List.mem_range.mp hm]
  by_cases hi : i < its.length
  · rw [List.getElem?_map, List.getElem?_range hi]
    show some (its.reverse.getD i default) = _
    rw [List.getD_eq_getElem?_getD, List.getElem?_eq_getElem (by rw [List.length_reverse]; exact hi)]
    rfl
  · rw [List.getElem?_eq_none (by rw [List.length_map, List.length_range]; omega), List.getElem?_eq_none (by rw [List.length_reverse]; omega)]
end
end Sy
namespace Sy
open PySem PySem.Spec PyProof.Rows L2 HT

section
variable {prog : Program} {w : World} {A : Around} {E : Value → Shared → Prop} {s : Shared}
theorem sliceApplied_rev {sl : Addr} {n : Nat} {vl vu vs : Value} {Q : Int × Int × Nat → Shared → Prop} (hs : s.heap.IsSliceOf sl vl vu vs) (pl : IsPart vl none) (pu : IsPart vu none) (ps : IsPart vs (some (-1)))
    (h : Q ((n : Int) - 1, -1, n) s) : wpAny (model prog w) A (Builtin.Slice.sliceApplied (.ref sl) (pure (n : Int))) Q E s := by
  obtain ⟨os, hos, hcs, hds⟩ := id hs
  unfold Builtin.Slice.sliceApplied Builtin.Slice.sliceFields
  refine wpAny_bind (wpAny_bind (wpAny_field hos hds (x := vl) rfl (wpAny_bind (wpAny_field hos hds (x := vu) rfl (wpAny_bind (wpAny_field hos hds (x := vs) rfl (wpAny_pure ?_)))))))
  refine wpAny_bind (slicePart_ ps ?_)
  show wpAny _ _ (if ((-1 : Int) == 0) = true then _ else _) _ _ s
  rw [if_neg (by decide)]
  refine wpAny_bind (slicePart_ pl (wpAny_bind (slicePart_ pu (wpAny_bind (wpAny_pure ?_)))))
  show wpAny _ _ (match Builtin.Slice.sliceAdjust none none (-1) (n : Int) with | (lo, hi) => pure (lo, (-1 : Int), Builtin.Slice.slicePlaces lo hi (-1))) _ _ s
  have e1 : Builtin.Slice.sliceAdjust none none (-1) (n : Int) = ((n : Int) - 1, -1) := by
    simp [Builtin.Slice.sliceAdjust]
  rw [e1]
  show wpAny _ _ (pure ((n : Int) - 1, (-1 : Int), Builtin.Slice.slicePlaces ((n : Int) - 1) (-1) (-1))) _ _ s
  have e2 : Builtin.Slice.slicePlaces ((n : Int) - 1) (-1) (-1) = n := by
    unfold Builtin.Slice.slicePlaces
    rw [if_neg (by decide)]
    by_cases hn : n = 0
    · subst hn
      decide
    · rw [if_pos (by omega)]
      have e3 : ((n : Int) - 1 - -1 - 1) / - -1 = (n : Int) - 1 := by
        rw [show (- -1 : Int) = 1 by decide, Int.ediv_one]
        omega
      rw [e3]
      omega
  rw [e2]
  exact wpAny_pure h
theorem getItem_tuple_rev {t sl : Addr} {its : List Value} {vl vu vs : Value} {Q : Value → Shared → Prop} (ht : IsTup s.heap t its.toArray) (hs : s.heap.IsSliceOf sl vl vu vs) (pl : IsPart vl none) (pu : IsPart vu none) (ps : IsPart vs (some (-1)))
    (h : Q (.ref s.heap.objs.size) { s with heap := s.heap.push { cls := .type "tuple", data := .seq its.reverse.toArray } })
    (hsz : its.length ≤ sizeLine) : wpAny (model prog w) A (getItem (.ref t) (.ref sl)) Q E s := by
  have htake : sizeOk (.seq its.reverse.toArray) := by
    show its.reverse.toArray.size ≤ sizeLine
    rw [List.size_toArray, List.length_reverse]
    omega
  obtain ⟨os, hos, hcs, hds⟩ := id hs
  have hTs : s.TypeIs (.ref sl) "slice" := ⟨os, hos, hcs⟩
  unfold getItem
  try with_reducible refine wpAny_holding ?_
  first | refine wpAny_bind (wpAny_pure ?_) | skip
  refine wpAny_bind (wpAny_sequenceKey ht.typeIs (by decide) ?_)
  refine wpAny_bind (wpAny_callSpecial?_slot (name := Str.ofString "__getitem__") ht.typeIs PyProof.Rows.slot_tuple_getitem
    (wpAny_call_entry PyProof.Rows.slot_tuple_getitem ht.typeIs entry_tuple_getitem ?_ (args_tuple_getitem _ _)))
  show wpAny _ _ (Builtin.Tuple.tupleItemsOf (.ref t) >>= _) _ _ s
  refine wpAny_bind (tupleItemsOf_ ht ?_)
  refine wpAny_bind (wpAny_typeOf hTs ?_)
  rw [if_pos (by decide)]
  refine wpAny_bind (sliceApplied_rev (n := its.toArray.size) hs pl pu ps ?_)
  have hno : ¬ ((((its.toArray.size : Nat) : Int) - 1 == 0 && (-1 : Int) == 1 && its.toArray.size == its.toArray.size) = true) := by
    intro q
    rw [Bool.and_eq_true, Bool.and_eq_true] at q
    exact absurd q.1.2 (by decide)
  show wpAny _ _ (if ((((its.toArray.size : Nat) : Int) - 1 == 0 && (-1 : Int) == 1 && its.toArray.size == its.toArray.size)) = true then _ else _) _ _ s
  rw [if_neg hno]
  have hp := pick_revT its
  rw [show its.length = its.toArray.size by rw [List.size_toArray]] at hp
  rw [hp]
  first
    | exact wpAny_bind (m := Builtin.Tuple.tupleExact _) (wpAny_newObj_type (wpAny_pure ⟨_, rfl, wpAny_pure h⟩) htake)
    | exact wpAny_bind (m := Builtin.Tuple.tupleExact _) (wpAny_newObj_type (wpAny_bind (wpAny_pure (wpAny_pure ⟨_, rfl, wpAny_pure h⟩))) htake)
    | exact wpAny_bind (wpAny_bind (m := Builtin.Tuple.tupleExact _) (wpAny_newObj_type (wpAny_pure (wpAny_pure ⟨_, rfl, wpAny_pure h⟩)) htake))
    | exact wpAny_bind (wpAny_bind (m := Builtin.Tuple.tupleExact _) (wpAny_newObj_type (wpAny_pure ⟨_, rfl, wpAny_pure h⟩) htake))
end
section
variable {X : Cx}
theorem pe_revT {e : Expr} {te : TE} {k : Nat} {p1 p2 p3 pos : Pos} (he : PE X e te) : PE X (.Subscript e (.Slice none none (some (.UnaryOp .USub (.Constant (.int 1) k p1) p2)) p3) pos) (tRevT X.K te) := by
  refine ⟨fun pins s σ H Q I h => ?_⟩
  refine Subscript_ (thn (he.run pins s σ H _ I h) fun v s1 ⟨x, H1, I1, r1, q1⟩ => ?_)
  obtain ⟨a, xs, ex, hx, q⟩ := q1
  subst ex
  cases r1
  have hst : PO X (some (.UnaryOp .USub (.Constant (.int 1) k p1) p2)) (tPart (tUn (rU fun i => .int (-i)) (tC (.int 1)))) := po_some (pe_un un_neg pe_int)
  refine wpAny_Slice (thn (po_none.run pins s1 σ H1 (fun o H2 => o = none ∧ H2 = H1) I1 ⟨rfl, rfl⟩) fun vl s2 ⟨l, H2, I2, pl, el, e2⟩ => ?_)
  subst el e2
  refine thn (po_none.run pins s2 σ H2 (fun o H3 => o = none ∧ H3 = H2) I2 ⟨rfl, rfl⟩) fun vu s3 ⟨u, H3, I3, pu, eu, e3⟩ => ?_
  subst eu e3
  refine thn (hst.run pins s3 σ H3 (fun o H4 => o = some (-1) ∧ H4 = H3) I3 ⟨1, rfl, -1, rfl, rfl, rfl⟩) fun vs s4 ⟨o, H4, I4, ps, eo, e4⟩ => ?_
  subst eo e4
  have I5 : Inv X pins σ H4 { s4 with heap := s4.heap.push { cls := .type "slice", data := .fields #[vl, vu, vs] } } := I4.kept (t' := s4.toks) fun b ob q => Heap.get?_push_of_some _ q
  obtain ⟨its, r, ht, hz⟩ := I5.tuple hx
  have hlen := r.length
  show wpAny (model X.prog X.w) X.A (subscriptTail e (.Slice none none (some (.UnaryOp .USub (.Constant (.int 1) k p1) p2)) p3) (.ref a) (.ref s4.heap.objs.size)) (EP X pins σ Q) X.xe { s4 with heap := s4.heap.push { cls := .type "slice", data := .fields #[vl, vu, vs] } }
  refine tail_any (ops := [.ref a, .ref s4.heap.objs.size]) ht.typeIs (PyProof.Rows.slot_tuple_getitem.lookup) ?_ (by with_unfolding_all rfl)
  refine getItem_tuple_rev ht (Heap.IsSliceOf.new _ vl vu vs) pl pu ps ?_ (by omega)
  exact ep_newT (tk := s4.toks) I5 r.reverse (by rw [List.length_reverse]; exact hz) q
end

/-! ### a tuple's own methods -/
theorem Inv.plT {X : Cx} {pins : List (Addr × Obj)} {σ : L2.St} {H : Hp} {s : Shared} {a : Addr} {xs : List V} (I : Inv X pins σ H s) (h : PlT X.K H a xs) : ∃ (o : Obj) (its : List Value) (n : Nat), s.heap.get? a = some o ∧ o.cls = .type "tuple" ∧ o.dict = none ∧ o.data = .seq its.toArray n ∧ Vals xs its ∧ xs.length ≤ sizeLine := by
  rcases h with ⟨o, h, h1, h2⟩ | ⟨o, its, n, hk, h1, h2, h3, h4, h5⟩
  · obtain ⟨e, hz, its, r, o', e', c', n, d'⟩ := I.hok a _ h
    rw [e] at e'
    cases e'
    exact ⟨o, its, n, e, h1, h2, d', r, hz⟩
  · refine ⟨o, its.toList, n, I.kIn a o hk, h1, h2, by simpa using h3, h5, ?_⟩
    have e := h5.length
    simp only [Array.length_toList] at e
    omega
section
variable {X : Cx} {o e : Expr} {es : List Expr} {to ta : TE} {t : TA} {name : Str} {apos cpos : Pos} {id : String} {r : V → List V → Hp → VK → Prop}
def tBMT (K : PySem.W.Frag) (r : V → List V → Hp → VK → Prop) (to : TE) (t : TA) : TE := fun σ H Q => to σ H fun x H1 => (∃ p xs, x = .ref p ∧ PlT K H1 p xs) ∧ t σ H1 fun vs H2 => r x vs H2 Q
theorem pe_bmT (slot : Slot "tuple" name id) (hty : typeOf (.builtin id) = pure (.type "method_descriptor")) (hm : MtR X id r) (ho : PE X o to) (ha : PA X (e :: es) t)
    (hbase : attributeBase o name X.env (eval o X.env) = eval o X.env := by rfl)
    (hfew : ((backTo cpos (starEach (e :: es) X.env)).all (fun x => !x.1) && (backToKw cpos (keywordEach [] X.env)).all (fun x => x.1.isSome)
      && decide ((e :: es).length + ([] : List Keyword).length + (if ([] : List Keyword).isEmpty then 0 else 1) < 30)) = true := by rfl)
    (hline : (apos.endLine == cpos.line) = true := by rfl) (hs : starEach (e :: es) X.env = (false, eval e X.env) :: starEach es X.env := by rfl) (hplain : (backTo cpos (starEach es X.env)).any (·.1) = false := by rfl) :
    PE X (.Call (.Attribute o name apos) (e :: es) [] cpos) (tBMT X.K r to t) := by
  refine ⟨fun pins s σ H Q I h => ?_⟩
  refine wpAny_Call_method_late hbase hfew hline rfl (thn (ho.run pins s σ H _ I h) fun v s1 ⟨x, H1, I1, r1, ty, q1⟩ => ?_)
  obtain ⟨p, xs, rfl, hp⟩ := ty
  cases r1
  obtain ⟨ob, its, n, hob, hc, hd, hdat, _, _⟩ := Inv.plT I1 hp
  refine ⟨"tuple", id, PySem.F.plainAttrs_tuple, slot, hty, ⟨ob, hob, hc⟩, fun a ea => ⟨ob, by cases ea; exact hob, hd⟩, ?_⟩
  have hA := ha.run cpos pins s1 σ H1 _ I1 q1
  rw [hs] at hA ⊢
  refine Calls.callWith_builtin (by show (false || (backTo cpos (starEach es X.env)).any (·.1)) = false; rw [hplain] <;> rfl) (Calls.evalArgs_plain ?_)
  exact thn hA fun us s2 ⟨vs, H2, I2, r2, q2⟩ => hm pins s2 σ H2 (.ref p) vs (.ref p) us Q I2 rfl r2 q2
/-- t.index(i), ints -/
def rIndexT (K : PySem.W.Frag) : V → List V → Hp → VK → Prop := fun x vs H Q => ∃ (a : Addr) (ns : List Int) (i : Int), x = .ref a ∧ vs = [.int i] ∧ SqT K H a (ns.map V.int) ∧ i ∈ ns ∧ Q (.int ((ns.idxOf i : Nat) : Int)) H
theorem mt_indexT (hu : X.A.units + 1 < cLine) : MtR X "tuple.index" (rIndexT X.K) := by
  intro pins s σ H x vs v us Q I rx rv h
  obtain ⟨a, ns, i, rfl, rfl, ha, hi, q⟩ := h
  cases rx
  obtain ⟨u, rfl, ru⟩ := vals1 rv
  obtain ⟨t, rfl⟩ := ru
  obtain ⟨its, r, ht, hz⟩ := I.tuple ha
  refine PySem.W.index_tuple_datum (α := Int) (xs := ns) (vs := its) (x := i) (show s.heap.IsTuple a its.toArray from ht) (.of_ints (Vals.ints r)) (PySem.W.holds_int i t) (by show X.A.units + 1 + 0 < cLine; omega) hi ?_
  exact ⟨.int _, H, I.tok _, ⟨_, rfl⟩, q⟩
theorem minOf_int (x : Int) (xs : List Int) : PySem.W.minOf x xs ∈ x :: xs ∧ ∀ y ∈ x :: xs, PySem.W.minOf x xs ≤ y := by
  unfold PySem.W.minOf
  induction xs generalizing x with
  | nil => exact ⟨List.mem_cons_self, fun y hy => by rw [List.mem_singleton.mp hy]; exact Int.le_refl _⟩
  | cons z r ih =>
    rw [List.foldl_cons]
    have e : (if PySem.W.DatumOrd.lt z x = true then z else x) = (if z < x then z else x) := by
      show (if decide (z < x) = true then z else x) = _
      by_cases h : z < x
      · rw [if_pos (decide_eq_true h), if_pos h]
      · rw [if_neg (by rw [decide_eq_false h]; exact Bool.false_ne_true), if_neg h]
    rw [e]
    obtain ⟨h1, h2⟩ := ih (if z < x then z else x)
    constructor
    · rcases List.mem_cons.mp h1 with h | h
      · rw [h]
        split
        · exact List.mem_cons_of_mem _ List.mem_cons_self
        · exact List.mem_cons_self
      · exact List.mem_cons_of_mem _ (List.mem_cons_of_mem _ h)
    · intro y hy
      have h3 := h2 _ List.mem_cons_self
      rcases List.mem_cons.mp hy with h | h
      · rw [h]
        refine Int.le_trans h3 ?_
        split <;> omega
      · rcases List.mem_cons.mp h with h | h
        · rw [h]
          refine Int.le_trans h3 ?_
          split <;> omega
        · exact h2 y (List.mem_cons_of_mem _ h)
theorem maxOf_int (x : Int) (xs : List Int) : PySem.W.maxOf x xs ∈ x :: xs ∧ ∀ y ∈ x :: xs, y ≤ PySem.W.maxOf x xs := by
  unfold PySem.W.maxOf
  induction xs generalizing x with
  | nil => exact ⟨List.mem_cons_self, fun y hy => by rw [List.mem_singleton.mp hy]; exact Int.le_refl _⟩
  | cons z r ih =>
    rw [List.foldl_cons]
    have e : (if PySem.W.DatumOrd.lt x z = true then z else x) = (if x < z then z else x) := by
      show (if decide (x < z) = true then z else x) = _
      by_cases h : x < z
      · rw [if_pos (decide_eq_true h), if_pos h]
      · rw [if_neg (by rw [decide_eq_false h]; exact Bool.false_ne_true), if_neg h]
    rw [e]
    obtain ⟨h1, h2⟩ := ih (if x < z then z else x)
    constructor
    · rcases List.mem_cons.mp h1 with h | h
      · rw [h]
        split
        · exact List.mem_cons_of_mem _ List.mem_cons_self
        · exact List.mem_cons_self
      · exact List.mem_cons_of_mem _ (List.mem_cons_of_mem _ h)
    · intro y hy
      have h3 := h2 _ List.mem_cons_self
      rcases List.mem_cons.mp hy with h | h
      · rw [h]
        refine Int.le_trans ?_ h3
        split <;> omega
      · rcases List.mem_cons.mp h with h | h
        · rw [h]
          refine Int.le_trans ?_ h3
          split <;> omega
        · exact h2 y (List.mem_cons_of_mem _ h)
def rMinT (K : PySem.W.Frag) : List V → Hp → VK → Prop := fun vs H Q => ∃ (a : Addr) (ns : List Int), vs = [V.ref a] ∧ SqT K H a (ns.map V.int) ∧ ns ≠ [] ∧ ∀ m, m ∈ ns → (∀ y, y ∈ ns → m ≤ y) → Q (.int m) H
def rMaxT (K : PySem.W.Frag) : List V → Hp → VK → Prop := fun vs H Q => ∃ (a : Addr) (ns : List Int), vs = [V.ref a] ∧ SqT K H a (ns.map V.int) ∧ ns ≠ [] ∧ ∀ m, m ∈ ns → (∀ y, y ∈ ns → y ≤ m) → Q (.int m) H
def rSumT (K : PySem.W.Frag) : List V → Hp → VK → Prop := fun vs H Q => ∃ (a : Addr) (ns : List Int), vs = [V.ref a] ∧ SqT K H a (ns.map V.int) ∧ Q (.int ns.sum) H
def rSortedT (K : PySem.W.Frag) : List V → Hp → VK → Prop := fun vs H Q => ∃ (a : Addr) (ns : List Int), vs = [V.ref a] ∧ SqT K H a (ns.map V.int) ∧ ns.length < 64 ∧
  ∀ (ns' : List Int) (p : Addr), ns'.Perm ns → ns'.Pairwise (· ≤ ·) → H p = none → Q (.ref p) (upd H p (.lst (ns'.map V.int)))
theorem cr_minT (hc : X.calm = true) (hu : X.A.units + 1 < cLine) : CallR X (.builtin "min") (rMinT X.K) := by
  intro pins s σ H vs us Q I r h
  obtain ⟨a, ns, rfl, hs, hne, q⟩ := h
  obtain ⟨its, rv, hl, _⟩ := I.tuple hs
  rw [Vals.ref1 r]
  obtain ⟨x, xs, rfl⟩ : ∃ x xs, ns = x :: xs := by
    cases ns with
    | nil => exact absurd rfl hne
    | cons x xs => exact ⟨x, xs, rfl⟩
  refine PySem.W.min_tuple_datum (α := Int) (x := x) (xs := xs) (vs := its.toArray) (I.ok.hd hc) (show s.heap.IsTuple a its.toArray from hl) (.of_ints (Vals.ints rv)) (by show X.A.units + 1 + 0 < cLine; omega) fun i v h' tk _ hv hk => ?_
  obtain ⟨t, rfl⟩ := PySem.W.int_of_holds hv
  obtain ⟨h1, h2⟩ := minOf_int x xs
  exact ⟨.int _, H, I.kept hk, ⟨_, rfl⟩, q _ h1 h2⟩
theorem cr_maxT (hc : X.calm = true) (hu : X.A.units + 1 < cLine) : CallR X (.builtin "max") (rMaxT X.K) := by
  intro pins s σ H vs us Q I r h
  obtain ⟨a, ns, rfl, hs, hne, q⟩ := h
  obtain ⟨its, rv, hl, _⟩ := I.tuple hs
  rw [Vals.ref1 r]
  obtain ⟨x, xs, rfl⟩ : ∃ x xs, ns = x :: xs := by
    cases ns with
    | nil => exact absurd rfl hne
    | cons x xs => exact ⟨x, xs, rfl⟩
  refine PySem.W.max_tuple_datum (α := Int) (x := x) (xs := xs) (vs := its.toArray) (I.ok.hd hc) (show s.heap.IsTuple a its.toArray from hl) (.of_ints (Vals.ints rv)) (by show X.A.units + 1 + 0 < cLine; omega) fun i v h' tk _ hv hk => ?_
  obtain ⟨t, rfl⟩ := PySem.W.int_of_holds hv
  obtain ⟨h1, h2⟩ := maxOf_int x xs
  exact ⟨.int _, H, I.kept hk, ⟨_, rfl⟩, q _ h1 h2⟩
theorem cr_sumT (hc : X.calm = true) : CallR X (.builtin "sum") (rSumT X.K) := by
  intro pins s σ H vs us Q I r h
  obtain ⟨a, ns, rfl, hs, q⟩ := h
  obtain ⟨its, rv, hl, _⟩ := I.tuple hs
  rw [Vals.ref1 r]
  have hi := Vals.ints rv
  obtain ⟨xs, hx⟩ := hi.allInts.items
  have hn : numsOf (intItems xs).toList = ns := by rw [← hx]; exact hi.numsOf
  rw [nums_intItems] at hn
  have hl' : s.heap.IsTuple a its.toArray := hl
  rw [hx] at hl'
  refine PySem.W.ktm_sumG (I.ok.hd hc) hl' fun h' tk t' hk => ?_
  rw [PySem.preSum_eq, List.take_of_length_le (by simp), hn]
  exact ⟨.int _, H, I.kept hk, ⟨_, rfl⟩, q⟩
theorem cr_sortedT : CallR X (.builtin "sorted") (rSortedT X.K) := by
  intro pins s σ H vs us Q I r h
  obtain ⟨a, ns, rfl, hs, h64, q⟩ := h
  obtain ⟨its, rv, hl, _⟩ := I.tuple hs
  rw [Vals.ref1 r]
  have hi := Vals.ints rv
  refine PyProof.Rows.sorted_ints_tup hl hi (by rw [hi.length]; exact h64) fun out ns' h1 h2 h3 => ?_
  obtain ⟨ep, he'⟩ := PyProof.Rows.sortedAll_at s.heap its out
  have hlen : (ns'.map V.int).length ≤ sizeLine := by rw [List.length_map, h2.length_eq]; exact small64 h64
  exact ⟨.ref _, upd H (s.heap.objs.size + 1) (.lst (ns'.map V.int)), I.laid (t' := s.toks) (fun _ _ => PyProof.Rows.sortedAll_old) (Nat.le_succ _) ⟨hlen, out.toList, ep, vals_of_ints h1, he'⟩, rfl, q ns' _ h2 h3 (I.hok.fresh (Nat.le_succ _))⟩
end

/-! ### enumerate of a tuple -/
theorem meets_enumerate_newT (l : Addr) (items : Array Value) (n : Nat) (dct : Option Addr) (sl : Array (Option Value)) :
    Meets (Builtin.«enumerate.__new__» ⟨[.type "enumerate", .ref l], []⟩) (fun _ R s => s.heap.get? l = some { cls := .type "tuple", dict := dct, data := .seq items n, slots := sl } ∧
      R (.ok (.ret (.ref (s.heap.push { cls := .type "tuple_iterator", data := .fields #[.ref l, .int 0 0] }).objs.size)))
        { s with heap := (s.heap.push { cls := .type "tuple_iterator", data := .fields #[.ref l, .int 0 0] }).push { cls := .type "enumerate", data := .fields #[.none, .bool false, .ref s.heap.objs.size, rawInt 0, .none, .none] } }) :=
  .of_wp fun prog w A R s h => by
    obtain ⟨hp, g, d, tk, os⟩ := s; obtain ⟨hl, h⟩ := h
    have hsub := sub_enumerate
    have hL : Heap.IsTuple (Shared.heap ⟨hp, g, d, tk, os⟩) l items := ⟨_, hl, rfl, n, rfl⟩
    wp_walk using AutoSeq1.wpAny_loadPart' hl
    refine wpAny_stack_any fun st => wpAny_pure ?_
    split
    · rename_i c _ _ _ _ _
      cases (c == Value.type "enumerate")
      · wp_walk using AutoSeq1.wpAny_loadPart' hl, wpAny_pyIter_tuple hL
        exact ⟨_, rfl, h⟩
      · wp_walk using AutoSeq1.wpAny_loadPart' hl, wpAny_pyIter_tuple hL
        exact ⟨_, rfl, h⟩
    · wp_walk using AutoSeq1.wpAny_loadPart' hl, wpAny_pyIter_tuple hL
      exact ⟨_, rfl, h⟩
theorem call_enumerate_tuple {prog : Program} {w : World} {A : Around} {E : Value → Shared → Prop} {s : Shared} {l : Addr} {items : Array Value} {Q : Value → Shared → Prop} (hL : IsTup s.heap l items)
    (h : ∀ h', IsEnum h' (s.heap.objs.size + 1) s.heap.objs.size 0 .none → h'.IsTupleIter s.heap.objs.size l 0 → h'.objs.size = s.heap.objs.size + 2 →
      (∀ b o, s.heap.get? b = some o → h'.get? b = some o) → Q (.ref (s.heap.objs.size + 1)) { s with heap := h' }) :
    wpAny (model prog w) A (call (.type "enumerate") [.ref l]) Q E s := by
  obtain ⟨⟨c, dct, dt, sl⟩, hl, hc, n, hd⟩ := hL
  replace hc : c = .type "tuple" := hc
  replace hd : dt = .seq items n := hd
  subst hc hd
  refine callType_new F.called_enumerate (by decide) (F.typeCall_enumerate_1 _) (F.newCall_enumerate_1 _) (fun obj => F.args_object_init_2 obj _) F.entry_enumerate_new
    (meets_enumerate_newT l items n dct sl) ⟨hl, ?_⟩
  have hz : (s.heap.push { cls := .type "tuple_iterator", data := .fields #[.ref l, .int 0 0] }).objs.size = s.heap.objs.size + 1 := Heap.size_push ..
  show _ ∧ _
  rw [hz]
  have he : IsEnum ((s.heap.push { cls := .type "tuple_iterator", data := .fields #[.ref l, .int 0 0] }).push
      { cls := .type "enumerate", data := .fields #[.none, .bool false, .ref s.heap.objs.size, rawInt 0, .none, .none] }) (s.heap.objs.size + 1) s.heap.objs.size 0 .none := by
    have := Heap.get?_push_size (s.heap.push { cls := .type "tuple_iterator", data := .fields #[.ref l, .int 0 0] })
      (o := { cls := .type "enumerate", data := .fields #[.none, .bool false, .ref s.heap.objs.size, rawInt 0, .none, .none] }) rfl
    rw [hz] at this; exact this
  refine ⟨⟨_, he, rfl⟩, h _ he ⟨_, Heap.get?_push_of_some _ (Heap.get?_push_size _ rfl), rfl, rfl⟩ (by rw [Heap.size_push, hz]) fun b o x => Heap.get?_push_of_some _ (Heap.get?_push_of_some _ x)⟩
/-- the tuple at a, each item in a new pair -/
def IteT (K : PySem.W.Frag) (a : Addr) : It :=
  ⟨fun i H => ∃ (xs : List V) (x : V), SqT K H a xs ∧ xs[i]? = some x, fun i H v H' => ∃ T x, v = .ref T ∧ H T = none ∧ H' = upd H T (.tup [.int (i : Nat), x]) ∧ ∀ xs, SqT K H a xs → xs[i]? = some x, fun i H => ∃ xs : List V, SqT K H a xs ∧ xs.length ≤ i⟩
theorem turn_enumT {P : Program} {w : World} {K : PySem.W.Frag} {elts : List Expr} {kk : Nat} {tpos : Pos} (a e it : Addr) :
    Turn P w K (.Tuple elts kk tpos) (IteT K a) [e, it] e (fun i h => (∃ old, IsEnum h e it ((i : Nat) : Int) old) ∧ h.IsTupleIter it a i ∧ e ≠ it ∧ a ≠ it ∧ e ≠ a) where
  mem := by simp
  obj := fun i h st b hb => by
    obtain ⟨⟨old, he⟩, ⟨o, ho, hc, hd⟩, _⟩ := st
    have e' : b = e ∨ b = it := by simpa using hb
    rcases e' with z | z
    · rw [z]; exact ⟨_, he, fun v q => nomatch q⟩
    · rw [z]; exact ⟨o, ho, fun v q => by rw [hd] at q; cases q⟩
  keep := fun i h h' st k => let ⟨⟨old, he⟩, hi, hne, hna⟩ := st; ⟨⟨old, k e (by simp) _ he⟩, hi.at fun o q => k it (by simp) o q, hne, hna⟩
  item := by
    intro X hP hw hK hc i pins s σ H E I hf st hg
    subst hP hw hK
    obtain ⟨⟨old, he⟩, hit, hne, hna, hea⟩ := st
    obtain ⟨xs, x, hq, hx⟩ := hg
    obtain ⟨its, rv, p, hz⟩ := I.tuple hq
    obtain ⟨u, hu, ru⟩ := rv.get hx
    have hel : e < s.heap.objs.size := Heap.lt_size he
    have hil : it < s.heap.objs.size := by obtain ⟨_, q, _⟩ := hit; exact Heap.lt_size q
    have hlt : i < its.toArray.size := by
      rw [List.size_toArray, ← rv.length]
      exact (List.getElem?_eq_some_iff.mp hx).1
    refine wpAny_pyNext_enum_itemD (Draws.tuple (A := X.A.in1) (I.ok.hd hc) it a hna its.toArray) he ⟨hit, show s.heap.IsTuple a its.toArray from p⟩ hlt hne (by intro z; rcases List.mem_cons.mp z with z | z; exact hne z; exact hea (List.mem_singleton.mp z)) fun u' h' tk hu' ho hit' hT hsz hk => ?_
    obtain ⟨hit', _⟩ := hit'
    have eu : u' = u := by
      have h1 : its.toArray[i]? = some u := by simpa using hu
      rw [h1] at hu'
      exact (Option.some.inj hu').symm
    subst eu
    refine ⟨_, rfl, wpAny_letOwnedTupleGo_enum (s := { s with heap := h', toks := tk + 1 }) ho fun h'' he' sb => ?_⟩
    have hT2 : h''.get? s.heap.objs.size = some { cls := .type "tuple", data := .seq #[.int i tk, u'] } := (sb.2 _ (Nat.ne_of_gt hel)).trans hT
    have new : ObjOk X.prog X.w (upd H s.heap.objs.size (.tup [.int (i : Nat), x])) h'' s.heap.objs.size (.tup [.int (i : Nat), x]) :=
      ⟨by show 2 ≤ sizeLine; decide, [.int i tk, u'], .cons ⟨_, rfl⟩ (.cons ru .nil), ⟨_, hT2, rfl, _, rfl⟩⟩
    have I1 : Inv X pins σ (upd H s.heap.objs.size (.tup [.int (i : Nat), x])) { s with heap := h'', toks := tk + 1 } :=
      I.turnedNew (ch := [e, it]) (fun b ob hb q => (sb.2 b (fun z => hb (by simp [z]))).trans (hk b ob (fun z => hb (by simp [z])) (fun z => hb (by simp [z])) q)) hf (Nat.le_refl _) new
    refine ⟨.ref s.heap.objs.size, _, I1, rfl, ⟨_, x, rfl, I.hok.fresh (Nat.le_refl _), rfl, fun ys hy => by rw [I.tuple_inj hy hq]; exact hx⟩, ⟨⟨u', ?_⟩, hit'.at fun o q => (sb.2 it (Ne.symm hne)).trans q, hne, hna, hea⟩, fun b hb => ?_⟩
    · have e1 : ((i + 1 : Nat) : Int) = (i : Int) + 1 := by omega
      rw [e1]; exact he'
    · have hb' : b < s.heap.objs.size := by
        have e' : b = e ∨ b = it := by simpa using hb
        rcases e' with z | z
        · rw [z]; exact hel
        · rw [z]; exact hil
      rw [upd_ne (Nat.ne_of_lt hb')]
      exact (hf b hb).1
  done := by
    intro X hP hw hK hc i pins s σ H E I hf st hg
    subst hP hw hK
    obtain ⟨⟨old, he⟩, hit, hne, hna, hea⟩ := st
    obtain ⟨xs, hq, hx⟩ := hg
    obtain ⟨its, rv, p, hz⟩ := I.tuple hq
    obtain ⟨f0, f1, f2, f3, f4, f5⟩ := hf it (by simp)
    have hl := rv.length
    have hT : s.TypeIs (.ref e) "enumerate" := ⟨_, he, rfl⟩
    unfold pyNext
    refine wpAny_bind (wpAny_attempt (wpAny_callSpecial?_slot (name := Str.ofString "__next__") hT F.slot_enumerate_next
      (wpAny_call_entry F.slot_enumerate_next hT F.entry_enumerate_next ?_ (F.args_enumerate_next_1 _))))
    show wpAny _ _ (field (.ref e) 2 >>= _) _ _ _
    refine wpAny_bind (wpAny_field he rfl (x := .ref it) rfl ?_)
    refine wpAny_bind (wpAny_nextOf_tuple_end (I.ok.hd hc) hit (show s.heap.IsTuple a its.toArray from p) (by simp; omega) fun h' x he' hx' => ?_)
    obtain ⟨o, ho, hcx⟩ := hx'
    refine wpAny_bind (wpAny_isInstance (T := "StopIteration") (b := true) ⟨o, ho, hcx⟩ isSubtype_stop ?_)
    exact wpAny_pure ⟨rfl, I.turned (t' := s.toks) (fun b o hb q => he' b o hb q) f0 f1 f3 f4 f5⟩
  self := fun A i s Q E st h => let ⟨⟨_, he⟩, _⟩ := st; wpAny_pyIter_enum he h
def iEnumT (K : PySem.W.Frag) (ta : TA) : TI := fun σ H R => ta σ H fun vs H1 => ∃ a xs, vs = [.ref a] ∧ SqT K H1 a xs ∧ R (IteT K a) H1
theorem pi_enumT {X : Cx} {e : Expr} {ta : TA} {p pos tpos : Pos} {elts : List Expr} {kk : Nat} (hg : Gl X "enumerate") (hm : X.mg "enumerate" = none) (ha : PA X [e] ta) (hs : starEach [e] X.env = [(false, eval e X.env)] := by rfl) :
    PI X (.Tuple elts kk tpos) (.Call (.Name "enumerate" p) [e] [] pos) (iEnumT X.K ta) := by
  refine ⟨fun pins s σ H R I h => ?_⟩
  refine Call_ (ld_blt I hg hm boot_enumerate (PyProof.Rows.callWith_type1 (thn (ha.run pos pins s σ H _ I h) fun us s1 ⟨vs, H1, I1, r1, q1⟩ => ?_) hs rfl))
  obtain ⟨a, xs, ex, hq, q⟩ := q1
  subst ex
  cases r1 with
  | cons r rr =>
    cases rr
    cases r
    obtain ⟨its, rv, p', hz⟩ := I1.tuple hq
    refine call_enumerate_tuple p' fun h' he hit hsz hk => wpAny_pyIter_enum he ?_
    have I2 : Inv X pins σ H1 { s1 with heap := h' } := I1.kept (t' := s1.toks) hk
    have hal : a < s1.heap.objs.size := p'.lt
    refine ⟨s1.heap.objs.size + 1, [s1.heap.objs.size + 1, s1.heap.objs.size], _, _, H1, rfl, I2, turn_enumT a (s1.heap.objs.size + 1) s1.heap.objs.size, ⟨⟨.none, he⟩, hit, Nat.succ_ne_self _, Nat.ne_of_lt hal, Nat.ne_of_gt (Nat.lt_succ_of_lt hal)⟩, fun b hb => ?_, q⟩
    have e' : b = s1.heap.objs.size + 1 ∨ b = s1.heap.objs.size := by simpa using hb
    have hle : s1.heap.objs.size ≤ b := by
      rcases e' with z | z
      · rw [z]; exact Nat.le_add_right _ _
      · rw [z]; exact Nat.le_refl _
    exact I1.fpOk hle (I1.hok.fresh hle)
end Sy
namespace Sy
open PySem PySem.Spec PyProof.Rows L2

/-! ### sequences -/
def cutD (xs : List D) (lo hi : Option Int) : List D := (xs.drop (HT.sIx xs.length 0 lo)).take (HT.sIx xs.length xs.length hi - HT.sIx xs.length 0 lo)
def PostO (K : PySem.W.Frag) (M0 : Hp) (σ : L2.St) (B : Hp) (k : Option Int → Env_ → Prop) : Option Int → Hp → Prop := fun v H => ∃ env' B' M', H = J B' M' ∧ Conc K M0 env' B' M' σ ∧ Same B B' ∧ k v env'
def LO (K : PySem.W.Frag) (t : TO) (env : Env_) (k : Option Int → Env_ → Prop) : Prop := ∀ (M0 B M : Hp) (σ : L2.St), Conc K M0 env B M σ → ∀ Q : Option Int → Hp → Prop, (∀ v H, PostO K M0 σ B k v H → Q v H) → t σ (J B M) Q
/-- a slice's part -/
def EO (X : Cx) (e : Option Expr) (env : Env_) (k : Option Int → Env_ → Prop) : Prop := ∃ t, PO X e t ∧ LO X.K t env k
section
variable {X : Cx} {K : PySem.W.Frag} {e a b c : Expr} {es rest : List Expr} {env : Env_} {k : D → Env_ → Prop} {kb : Bool → Env_ → Prop} {km : MO → Env_ → Prop} {kl : List D → Env_ → Prop} {ko : Option Int → Env_ → Prop} {k4 : K4} {pos p : Pos}
variable {M0 B B1 M : Hp} {σ : L2.St}
theorem cut_len {xs : List V} {ds : List D} (h : xs.length = ds.length) (lo hi : Option Int) {B : Hp} (r : RpA K B ds xs) : RpA K B (cutD ds lo hi) (cutV xs lo hi) := by
  unfold cutD cutV
  rw [h]
  exact (r.drop _).take _
theorem PostD.newT {ds : List D} {xs : List V} {q : Addr} {o : Obj} (c : Conc K M0 env B M σ) (hp : J B M q = none) (h1 : o.cls = .type "tuple") (h2 : o.dict = none) (r : RpA K B ds xs) (z : k (.tup ds) env) : PostD K M0 σ B k (.ref q) (upd (J B M) q (.frz o (.tup xs))) :=
  .new (d := .tup ds) c hp ⟨q, xs, rfl, .inl ⟨o, upd_same, h1, h2⟩, r.mono (same_new (J_none hp).2)⟩ z
theorem PostM.newL {ds : List D} {xs : List V} {q : Addr} (c : Conc K M0 env B M σ) (hp : J B M q = none) (r : RpA K B ds xs) (z : km (.lst ds) env) : PostM K M0 σ B km (.ref q) (upd (J B M) q (.lst xs)) := .new (mo := .lst ds) c hp ⟨xs, rfl, r⟩ z
theorem PostD.mutL {d : D} {i : Nat} {ad : Addr} {mo : MO} {ds : List D} {xs : List V} {v : V} (c : Conc K M0 env B M σ) (hi : env[i]? = some (.mu ad mo)) (hr : RpA K B ds xs) (r : Rp K B d v) (q : k d (env.set i (.mu ad (.lst ds)))) : PostD K M0 σ B k v (upd (J B M) ad (.lst xs)) :=
  ⟨d, _, B, upd M ad (.lst xs), upd_JM, c.mut (mo' := .lst ds) hi ⟨xs, rfl, hr⟩, Same.refl B, r, q⟩
theorem eo_none (q : ko none env) : EO X none env ko := ⟨_, po_none, fun M0 B M σ c Q hQ => hQ _ _ ⟨env, B, M, rfl, c, Same.refl B, q⟩⟩
theorem eo_some (h : EE X e env fun d env' => ∃ i, d = I i ∧ ko (some i) env') : EO X (some e) env ko := ⟨_, po_some pe_can, fun M0 B M σ c Q hQ => h M0 B M σ c _ fun v H ⟨d, env', B', M', e1, c', sm, r, i, e2, q⟩ => by
  subst e1 e2; cases r
  exact ⟨i, rfl, hQ _ _ ⟨env', B', M', rfl, c', sm, q⟩⟩⟩
/-- t[lo:hi] -/
theorem ee_sliceT {lo hi : Option Expr} {p2 : Pos} (h : EE X a env fun d env1 => ∃ ds, d = .tup ds ∧ EO X lo env1 fun l env2 => EO X hi env2 fun u env3 => k (.tup (cutD ds l u)) env3) : EE X (.Subscript a (.Slice lo hi none p2) pos) env k := fun M0 B M σ c Q hQ pins s I =>
  (pe_slice (r := fun x l u H Q => rSlS X.K x l u H Q) sl_tupS pe_can (lo := lo) (hi := hi) (tl := fun σ H Q => ∀ pins s, Inv X pins σ H s → wpAny (model X.prog X.w) X.A (evalPart lo X.env) (fun u s' => ∃ o H', Inv X pins σ H' s' ∧ IsPart u o ∧ Q o H') X.xe s) (th := fun σ H Q => ∀ pins s, Inv X pins σ H s → wpAny (model X.prog X.w) X.A (evalPart hi X.env) (fun u s' => ∃ o H', Inv X pins σ H' s' ∧ IsPart u o ∧ Q o H') X.xe s)
    ⟨fun pins s σ H Q I h => h pins s I⟩ ⟨fun pins s σ H Q I h => h pins s I⟩).run pins s σ _ Q I (h M0 B M σ c _ fun v H ⟨d, env', B', M', e1, c', sm, r, ds, e2, t1, po1, q1⟩ => by
      subst e1 e2
      intro pins s I
      refine po1.run pins s σ _ _ I (q1 M0 B' M' σ c' _ fun l H ⟨env2, B2, M2, e1, c2, s2, t2, po2, q2⟩ => ?_)
      subst e1
      intro pins s I
      refine po2.run pins s σ _ _ I (q2 M0 B2 M2 σ c2 _ fun u H ⟨env3, B3, M3, e1, c3, s3, q3⟩ => ?_)
      subst e1
      obtain ⟨ad, xs, rfl, hs, hr⟩ := Rp.mono (s2.trans s3) _ _ r
      have hl := hr.length
      refine ⟨ad, xs, rfl, sqT_same c3.same hs.sq, fun hw => ?_, fun hw p o hp h1 h2 => ?_⟩
      · refine hQ _ _ ⟨.tup (cutD ds l u), env3, B3, M3, rfl, c3, (sm.trans s2).trans s3, ⟨ad, xs, rfl, hs, ?_⟩, q3⟩
        have ec := cut_len hl l u hr
        have : cutV xs l u = xs := by
          unfold cutV
          rw [hw.1, hw.2, List.drop_zero, Nat.sub_zero, List.take_length]
        rw [this] at ec
        exact ec
      · exact hQ _ _ ((PostD.newT c3 hp h1 h2 (cut_len hl l u hr) q3).back ((sm.trans s2).trans s3)))
/-- xs[lo:hi], a list that stands still: a new list -/
theorem em_sliceL {lo hi : Option Expr} {p2 : Pos} (h : EE X a env fun d env1 => ∃ ds, d = .lst ds ∧ EO X lo env1 fun l env2 => EO X hi env2 fun u env3 => km (.lst (cutD ds l u)) env3) : EM X (.Subscript a (.Slice lo hi none p2) pos) env km := fun M0 B M σ c Q hQ pins s I =>
  (pe_slice (r := fun x l u H Q => rSlL X.K x l u H Q) sl_list pe_can (lo := lo) (hi := hi) (tl := fun σ H Q => ∀ pins s, Inv X pins σ H s → wpAny (model X.prog X.w) X.A (evalPart lo X.env) (fun u s' => ∃ o H', Inv X pins σ H' s' ∧ IsPart u o ∧ Q o H') X.xe s) (th := fun σ H Q => ∀ pins s, Inv X pins σ H s → wpAny (model X.prog X.w) X.A (evalPart hi X.env) (fun u s' => ∃ o H', Inv X pins σ H' s' ∧ IsPart u o ∧ Q o H') X.xe s)
    ⟨fun pins s σ H Q I h => h pins s I⟩ ⟨fun pins s σ H Q I h => h pins s I⟩).run pins s σ _ Q I (h M0 B M σ c _ fun v H ⟨d, env', B', M', e1, c', sm, r, ds, e2, t1, po1, q1⟩ => by
      subst e1 e2
      intro pins s I
      refine po1.run pins s σ _ _ I (q1 M0 B' M' σ c' _ fun l H ⟨env2, B2, M2, e1, c2, s2, t2, po2, q2⟩ => ?_)
      subst e1
      intro pins s I
      refine po2.run pins s σ _ _ I (q2 M0 B2 M2 σ c2 _ fun u H ⟨env3, B3, M3, e1, c3, s3, q3⟩ => ?_)
      subst e1
      obtain ⟨ad, xs, rfl, hs, hr⟩ := Rp.mono (s2.trans s3) _ _ r
      refine ⟨ad, xs, rfl, sqL_same c3.same hs, fun p hp => ?_⟩
      exact hQ _ _ ((PostM.newL c3 hp (cut_len hr.length l u hr) q3).back ((sm.trans s2).trans s3)))
/-- xs[lo:hi], a list of one's own in slot i -/
theorem em_sliceX (i : Nat) {lo hi : Option Expr} {p2 pn : Pos} {x : Str} {ad : Addr} {mo0 : MO} (hi0 : env[i]? = some (.mu ad mo0)) (h : EO X lo env fun l env2 => EO X hi env2 fun u env3 => ∃ ds, env3[i]? = some (.mu ad (.lst ds)) ∧ km (.lst (cutD ds l u)) env3)
    (hN : X.N[i]? = some x := by rfl) (hv : Vis X.env.scope x := by first | exact Or.inl rfl | exact Or.inr (Or.inl rfl) | exact Or.inr (Or.inr rfl)) (hd : (x == ("__debug__" : Str)) = false := by decide) (hcd : (x == ("__classdict__" : Str)) = false := by decide) :
    EM X (.Subscript (.Name x pn) (.Slice lo hi none p2) pos) env km := fun M0 B M σ c Q hQ pins s I =>
  (pe_slice (r := fun x l u H Q => rSlL X.K x l u H Q) sl_list (pe_var hN hv hd hcd) (lo := lo) (hi := hi) (tl := fun σ H Q => ∀ pins s, Inv X pins σ H s → wpAny (model X.prog X.w) X.A (evalPart lo X.env) (fun u s' => ∃ o H', Inv X pins σ H' s' ∧ IsPart u o ∧ Q o H') X.xe s) (th := fun σ H Q => ∀ pins s, Inv X pins σ H s → wpAny (model X.prog X.w) X.A (evalPart hi X.env) (fun u s' => ∃ o H', Inv X pins σ H' s' ∧ IsPart u o ∧ Q o H') X.xe s)
    ⟨fun pins s σ H Q I h => h pins s I⟩ ⟨fun pins s σ H Q I h => h pins s I⟩).run pins s σ _ Q I (by
      obtain ⟨s0, hs0, es0, o0, ho0, hr0⟩ := c.slot i _ hi0
      refine ⟨.ref ad, by rw [hs0, es0], ?_⟩
      obtain ⟨t1, po1, q1⟩ := h
      intro pins s I
      refine po1.run pins s σ _ _ I (q1 M0 B M σ c _ fun l H ⟨env2, B2, M2, e1, c2, s2, t2, po2, q2⟩ => ?_)
      subst e1
      intro pins s I
      refine po2.run pins s σ _ _ I (q2 M0 B2 M2 σ c2 _ fun u H ⟨env3, B3, M3, e1, c3, s3, ds, hi3, q3⟩ => ?_)
      subst e1
      obtain ⟨s1, hs1, es1, o1, ho1, xs, rfl, hr⟩ := c3.slot i _ hi3
      refine ⟨ad, xs, rfl, SqL.of (J_M ho1), fun p hp => ?_⟩
      exact hQ _ _ ((PostM.newL c3 hp (cut_len hr.length l u hr) q3).back (s2.trans s3)))
/-- t[::-1] -/
theorem ee_revT {k0 : Nat} {p1 p2 p3 : Pos} (h : EE X a env fun d env1 => ∃ ds, d = .tup ds ∧ k (.tup ds.reverse) env1) : EE X (.Subscript a (.Slice none none (some (.UnaryOp .USub (.Constant (.int 1) k0 p1) p2)) p3) pos) env k := .of (pe_revT pe_can) fun M0 B M σ c Q hQ =>
  h M0 B M σ c _ fun v H ⟨d, env', B', M', e1, c', sm, r, ds, e2, q⟩ => by
    subst e1 e2
    obtain ⟨ad, xs, rfl, hs, hr⟩ := r
    exact ⟨ad, xs, rfl, sqT_same c'.same hs.sq, fun p o hp h1 h2 => hQ _ _ ((PostD.newT c' hp h1 h2 hr.reverse q).back sm)⟩
/-- xs[::-1] of a list -/
theorem em_revL {k0 : Nat} {p1 p2 p3 : Pos} (h : EL X a env fun ds env1 => km (.lst ds.reverse) env1) : EM X (.Subscript a (.Slice none none (some (.UnaryOp .USub (.Constant (.int 1) k0 p1) p2)) p3) pos) env km := .of (pe_revL pe_can) fun M0 B M σ c Q hQ =>
  h M0 B M σ c _ fun v H ⟨ad, xs, ds, env', B', M', e1, e2, c', sm, hs, hr, q⟩ => by
    subst e1 e2
    exact ⟨ad, xs, rfl, hs, fun p hp => hQ _ _ ((PostM.newL c' hp (hr.reverse) q).back sm)⟩

/-! ### displays -/
theorem ee_tup {x1} (h : ED X es env fun ds env' => ds.length ≤ 1000 ∧ k (.tup ds) env') : EE X (.Tuple es x1 pos) env k := .of (pe_tupS pa_can) fun M0 B M σ c Q hQ => h M0 B M σ c _ fun vs H ⟨ds, env', B', M', e1, c', sm, r, hl, q⟩ => by
  subst e1
  exact ⟨by rw [r.length, sizeLine_eq]; omega, fun p o hp h1 h2 => hQ _ _ ((PostD.newT c' hp h1 h2 r q).back sm)⟩
theorem em_lst (h : ED X es env fun ds env' => ds.length ≤ 1000 ∧ km (.lst ds) env') : EM X (.List es pos) env km := .of (pe_lst pa_can) fun M0 B M σ c Q hQ => h M0 B M σ c _ fun vs H ⟨ds, env', B', M', e1, c', sm, r, hl, q⟩ => by
  subst e1
  exact ⟨by rw [r.length, sizeLine_eq]; omega, fun p hp => hQ _ _ ((PostM.newL c' hp (r) q).back sm)⟩

/-! ### built-in functions of one list, one tuple -/
theorem ee_lenL (hm : X.mg "len" = none) (h : EL X e env fun ds env' => k (I ds.length) env') (hg : Gl X "len" := by rfl) (he : starEach (e :: []) X.env = (false, eval e X.env) :: starEach [] X.env := by rfl) (hpl : (backTo pos (starEach [] X.env)).any (·.1) = false := by rfl) : EE X (.Call (.Name "len" p) [e] [] pos) env k :=
  .of (pe_callB call_len_seq hg hm PySem.boot_len (pa_cons pe_can pa_nil he) (by decide) (by decide) he hpl) fun M0 B M σ c Q hQ => h M0 B M σ c _ fun v H ⟨ad, xs, ds, env', B', M', e1, e2, c', sm, hs, hr, q⟩ => by
    subst e1 e2
    refine ⟨ad, xs, rfl, .inl hs, hQ _ _ ((PostD.nowA c' ?_).back sm)⟩
    rw [hr.length]
    exact q
theorem ee_lenT (hm : X.mg "len" = none) (h : EE X e env fun d env' => ∃ ds, d = .tup ds ∧ k (I ds.length) env') (hg : Gl X "len" := by rfl) (he : starEach (e :: []) X.env = (false, eval e X.env) :: starEach [] X.env := by rfl) (hpl : (backTo pos (starEach [] X.env)).any (·.1) = false := by rfl) : EE X (.Call (.Name "len" p) [e] [] pos) env k :=
  .of (pe_callB call_len_seq hg hm PySem.boot_len (pa_cons pe_can pa_nil he) (by decide) (by decide) he hpl) fun M0 B M σ c Q hQ => h M0 B M σ c _ fun v H ⟨d, env', B', M', e1, c', sm, r, ds, e2, q⟩ => by
    subst e1 e2
    obtain ⟨ad, xs, rfl, hs, hr⟩ := r
    refine ⟨ad, xs, rfl, .inr (sqT_same c'.same hs.sq), hQ _ _ ((PostD.nowA c' ?_).back sm)⟩
    rw [hr.length]
    exact q
/-- a call of a built-in function or type r on one list, on one tuple -/
def CL (K : PySem.W.Frag) (r : List V → Hp → VK → Prop) (ds : List D) (env : Env_) (P : (L2.St → Hp → Hp → VK) → Prop) : Prop := True
theorem le_cb1 {r : List V → Hp → VK → Prop} {te : TE} (h : ∀ (M0 B M : Hp) (σ : L2.St), Conc K M0 env B M σ → ∀ Q : VK, (∀ v H, PostD K M0 σ B k v H → Q v H) → te σ (J B M) fun x H => r [x] H Q) : LE K (tCB r (tCons te tNil)) env k := h
theorem ee_sumL (hm : X.mg "sum" = none) (h : EL X e env fun ds env' => ∃ ns : List Int, ds = ns.map I ∧ k (I ns.sum) env') (hc : X.calm = true := by rfl) (hg : Gl X "sum" := by rfl) (he : starEach (e :: []) X.env = (false, eval e X.env) :: starEach [] X.env := by rfl) (hpl : (backTo pos (starEach [] X.env)).any (·.1) = false := by rfl) : EE X (.Call (.Name "sum" p) [e] [] pos) env k :=
  .of (pe_callB (cr_sum hc) hg hm (by decide +kernel) (pa_cons pe_can pa_nil he) (by decide) (by decide) he hpl) fun M0 B M σ c Q hQ => h M0 B M σ c _ fun v H ⟨ad, xs, ds, env', B', M', e1, e2, c', sm, hs, hr, ns, e3, q⟩ => by
    subst e1 e2 e3
    rw [hr.ints_eq] at hs
    exact ⟨ad, ns, rfl, hs, hQ _ _ ((PostD.nowA c' q).back sm)⟩
theorem ee_sumT (hm : X.mg "sum" = none) (h : EE X e env fun d env' => ∃ ns : List Int, d = .tup (ns.map I) ∧ k (I ns.sum) env') (hc : X.calm = true := by rfl) (hg : Gl X "sum" := by rfl) (he : starEach (e :: []) X.env = (false, eval e X.env) :: starEach [] X.env := by rfl) (hpl : (backTo pos (starEach [] X.env)).any (·.1) = false := by rfl) : EE X (.Call (.Name "sum" p) [e] [] pos) env k :=
  .of (pe_callB (cr_sumT hc) hg hm (by decide +kernel) (pa_cons pe_can pa_nil he) (by decide) (by decide) he hpl) fun M0 B M σ c Q hQ => h M0 B M σ c _ fun v H ⟨d, env', B', M', e1, c', sm, r, ns, e3, q⟩ => by
    subst e1 e3
    obtain ⟨ad, xs, rfl, hs, hr⟩ := r
    rw [hr.ints_eq] at hs
    exact ⟨ad, ns, rfl, sqT_same c'.same hs.sq, hQ _ _ ((PostD.nowA c' q).back sm)⟩
theorem ee_minT (hm : X.mg "min" = none) (hu : X.A.units + 1 < cLine) (h : EE X e env fun d env' => ∃ ns : List Int, d = .tup (ns.map I) ∧ ns ≠ [] ∧ ∀ m, m ∈ ns → (∀ y, y ∈ ns → m ≤ y) → k (I m) env') (hc : X.calm = true := by rfl) (hg : Gl X "min" := by rfl) (he : starEach (e :: []) X.env = (false, eval e X.env) :: starEach [] X.env := by rfl) (hpl : (backTo pos (starEach [] X.env)).any (·.1) = false := by rfl) : EE X (.Call (.Name "min" p) [e] [] pos) env k :=
  .of (pe_callB (cr_minT hc hu) hg hm (by decide +kernel) (pa_cons pe_can pa_nil he) (by decide) (by decide) he hpl) fun M0 B M σ c Q hQ => h M0 B M σ c _ fun v H ⟨d, env', B', M', e1, c', sm, r, ns, e3, hne, q⟩ => by
    subst e1 e3
    obtain ⟨ad, xs, rfl, hs, hr⟩ := r
    rw [hr.ints_eq] at hs
    exact ⟨ad, ns, rfl, sqT_same c'.same hs.sq, hne, fun m h1 h2 => hQ _ _ ((PostD.nowA c' (q m h1 h2)).back sm)⟩
theorem ee_maxT (hm : X.mg "max" = none) (hu : X.A.units + 1 < cLine) (h : EE X e env fun d env' => ∃ ns : List Int, d = .tup (ns.map I) ∧ ns ≠ [] ∧ ∀ m, m ∈ ns → (∀ y, y ∈ ns → y ≤ m) → k (I m) env') (hc : X.calm = true := by rfl) (hg : Gl X "max" := by rfl) (he : starEach (e :: []) X.env = (false, eval e X.env) :: starEach [] X.env := by rfl) (hpl : (backTo pos (starEach [] X.env)).any (·.1) = false := by rfl) : EE X (.Call (.Name "max" p) [e] [] pos) env k :=
  .of (pe_callB (cr_maxT hc hu) hg hm (by decide +kernel) (pa_cons pe_can pa_nil he) (by decide) (by decide) he hpl) fun M0 B M σ c Q hQ => h M0 B M σ c _ fun v H ⟨d, env', B', M', e1, c', sm, r, ns, e3, hne, q⟩ => by
    subst e1 e3
    obtain ⟨ad, xs, rfl, hs, hr⟩ := r
    rw [hr.ints_eq] at hs
    exact ⟨ad, ns, rfl, sqT_same c'.same hs.sq, hne, fun m h1 h2 => hQ _ _ ((PostD.nowA c' (q m h1 h2)).back sm)⟩
theorem ee_minL (hm : X.mg "min" = none) (h : EL X e env fun ds env' => ∃ ns : List Int, ds = ns.map I ∧ 0 < ns.length ∧ ∀ m, m ∈ ns → (∀ y, y ∈ ns → m ≤ y) → k (I m) env') (hc : X.calm = true := by rfl) (hg : Gl X "min" := by rfl) (he : starEach (e :: []) X.env = (false, eval e X.env) :: starEach [] X.env := by rfl) (hpl : (backTo pos (starEach [] X.env)).any (·.1) = false := by rfl) : EE X (.Call (.Name "min" p) [e] [] pos) env k :=
  .of (pe_callB (cr_min hc) hg hm (by decide +kernel) (pa_cons pe_can pa_nil he) (by decide) (by decide) he hpl) fun M0 B M σ c Q hQ => h M0 B M σ c _ fun v H ⟨ad, xs, ds, env', B', M', e1, e2, c', sm, hs, hr, ns, e3, hne, q⟩ => by
    subst e1 e2 e3
    rw [hr.ints_eq] at hs
    exact ⟨ad, ns, rfl, hs, hne, fun m h1 h2 => hQ _ _ ((PostD.nowA c' (q m h1 h2)).back sm)⟩
theorem ee_maxL (hm : X.mg "max" = none) (h : EL X e env fun ds env' => ∃ ns : List Int, ds = ns.map I ∧ 0 < ns.length ∧ ∀ m, m ∈ ns → (∀ y, y ∈ ns → y ≤ m) → k (I m) env') (hc : X.calm = true := by rfl) (hg : Gl X "max" := by rfl) (he : starEach (e :: []) X.env = (false, eval e X.env) :: starEach [] X.env := by rfl) (hpl : (backTo pos (starEach [] X.env)).any (·.1) = false := by rfl) : EE X (.Call (.Name "max" p) [e] [] pos) env k :=
  .of (pe_callB (cr_max hc) hg hm (by decide +kernel) (pa_cons pe_can pa_nil he) (by decide) (by decide) he hpl) fun M0 B M σ c Q hQ => h M0 B M σ c _ fun v H ⟨ad, xs, ds, env', B', M', e1, e2, c', sm, hs, hr, ns, e3, hne, q⟩ => by
    subst e1 e2 e3
    rw [hr.ints_eq] at hs
    exact ⟨ad, ns, rfl, hs, hne, fun m h1 h2 => hQ _ _ ((PostD.nowA c' (q m h1 h2)).back sm)⟩
theorem em_sortedT (hm : X.mg "sorted" = none) (h : EE X e env fun d env' => ∃ ns : List Int, d = .tup (ns.map I) ∧ ns.length < 64 ∧ ∀ ns' : List Int, ns'.Perm ns → ns'.Pairwise (· ≤ ·) → km (.lst (ns'.map I)) env') (hg : Gl X "sorted" := by rfl) (he : starEach (e :: []) X.env = (false, eval e X.env) :: starEach [] X.env := by rfl) (hpl : (backTo pos (starEach [] X.env)).any (·.1) = false := by rfl) : EM X (.Call (.Name "sorted" p) [e] [] pos) env km :=
  .of (pe_callB cr_sortedT hg hm (by decide +kernel) (pa_cons pe_can pa_nil he) (by decide) (by decide) he hpl) fun M0 B M σ c Q hQ => h M0 B M σ c _ fun v H ⟨d, env', B', M', e1, c', sm, r, ns, e3, hl, q⟩ => by
    subst e1 e3
    obtain ⟨ad, xs, rfl, hs, hr⟩ := r
    rw [hr.ints_eq] at hs
    exact ⟨ad, ns, rfl, sqT_same c'.same hs.sq, hl, fun ns' p h1 h2 hp => hQ _ _ ((PostM.newL c' hp (RpA.ints) (q ns' h1 h2)).back sm)⟩
theorem em_sortedL (hm : X.mg "sorted" = none) (h : EL X e env fun ds env' => ∃ ns : List Int, ds = ns.map I ∧ ns.length < 64 ∧ ∀ ns' : List Int, ns'.Perm ns → ns'.Pairwise (· ≤ ·) → km (.lst (ns'.map I)) env') (hg : Gl X "sorted" := by rfl) (he : starEach (e :: []) X.env = (false, eval e X.env) :: starEach [] X.env := by rfl) (hpl : (backTo pos (starEach [] X.env)).any (·.1) = false := by rfl) : EM X (.Call (.Name "sorted" p) [e] [] pos) env km :=
  .of (pe_callB cr_sorted hg hm (by decide +kernel) (pa_cons pe_can pa_nil he) (by decide) (by decide) he hpl) fun M0 B M σ c Q hQ => h M0 B M σ c _ fun v H ⟨ad, xs, ds, env', B', M', e1, e2, c', sm, hs, hr, ns, e3, hl, q⟩ => by
    subst e1 e2 e3
    rw [hr.ints_eq] at hs
    exact ⟨ad, ns, rfl, hs, hl, fun ns' p h1 h2 hp => hQ _ _ ((PostM.newL c' hp (RpA.ints) (q ns' h1 h2)).back sm)⟩
/-- tuple(xs) of a list, list(t), list(xs) -/
theorem ee_tupleL (hm : X.mg "tuple" = none) (h : EL X e env fun ds env' => k (.tup ds) env') (hg : Gl X "tuple" := by rfl) (he : starEach (e :: []) X.env = (false, eval e X.env) :: starEach [] X.env := by rfl) (hpl : (backTo pos (starEach [] X.env)).any (·.1) = false := by rfl) : EE X (.Call (.Name "tuple" p) [e] [] pos) env k :=
  .of (pe_callTy call_tupleS hg hm (by decide +kernel) (pa_cons pe_can pa_nil he) (by decide) (by decide) he hpl) fun M0 B M σ c Q hQ => h M0 B M σ c _ fun v H ⟨ad, xs, ds, env', B', M', e1, e2, c', sm, hs, hr, q⟩ => by
    subst e1 e2
    exact ⟨ad, xs, rfl, .inl ⟨hs, fun p o hp h1 h2 => hQ _ _ ((PostD.newT c' hp h1 h2 hr q).back sm)⟩⟩
theorem em_listT (hm : X.mg "list" = none) (h : EE X e env fun d env' => ∃ ds, d = .tup ds ∧ km (.lst ds) env') (hg : Gl X "list" := by rfl) (he : starEach (e :: []) X.env = (false, eval e X.env) :: starEach [] X.env := by rfl) (hpl : (backTo pos (starEach [] X.env)).any (·.1) = false := by rfl) : EM X (.Call (.Name "list" p) [e] [] pos) env km :=
  .of (pe_callTy call_list_of hg hm (by decide +kernel) (pa_cons pe_can pa_nil he) (by decide) (by decide) he hpl) fun M0 B M σ c Q hQ => h M0 B M σ c _ fun v H ⟨d, env', B', M', e1, c', sm, r, ds, e3, q⟩ => by
    subst e1 e3
    obtain ⟨ad, xs, rfl, hs, hr⟩ := r
    exact ⟨ad, xs, rfl, .inr (sqT_same c'.same hs.sq), fun p hp => hQ _ _ ((PostM.newL c' hp (hr) q).back sm)⟩
theorem em_listL (hm : X.mg "list" = none) (h : EL X e env fun ds env' => km (.lst ds) env') (hg : Gl X "list" := by rfl) (he : starEach (e :: []) X.env = (false, eval e X.env) :: starEach [] X.env := by rfl) (hpl : (backTo pos (starEach [] X.env)).any (·.1) = false := by rfl) : EM X (.Call (.Name "list" p) [e] [] pos) env km :=
  .of (pe_callTy call_list_of hg hm (by decide +kernel) (pa_cons pe_can pa_nil he) (by decide) (by decide) he hpl) fun M0 B M σ c Q hQ => h M0 B M σ c _ fun v H ⟨ad, xs, ds, env', B', M', e1, e2, c', sm, hs, hr, q⟩ => by
    subst e1 e2
    exact ⟨ad, xs, rfl, .inl hs, fun p hp => hQ _ _ ((PostM.newL c' hp (hr) q).back sm)⟩
/-- int(b) -/
theorem ee_intB (hm : X.mg "int" = none) (h : EE X e env fun d env' => ∃ b, d = Bl b ∧ k (I (if b then 1 else 0)) env') (hg : Gl X "int" := by rfl) (he : starEach (e :: []) X.env = (false, eval e X.env) :: starEach [] X.env := by rfl) (hpl : (backTo pos (starEach [] X.env)).any (·.1) = false := by rfl) : EE X (.Call (.Name "int" p) [e] [] pos) env k :=
  .of (pe_callTy call_int1 hg hm (by decide +kernel) (pa_cons pe_can pa_nil he) (by decide) (by decide) he hpl) fun M0 B M σ c Q hQ => h M0 B M σ c _ fun v H ⟨d, env', B', M', e1, c', sm, r, b, e3, q⟩ => by
    subst e1 e3
    cases r
    exact .inr ⟨b, rfl, hQ _ _ ((PostD.nowA c' q).back sm)⟩
/-- all(xs), any(xs) of a list of bools -/
theorem ee_all (hm : X.mg "all" = none) (h : EL X e env fun ds env' => ∃ bs : List Bool, ds = bs.map Bl ∧ k (Bl (bs.all id)) env') (hc : X.calm = true := by rfl) (hg : Gl X "all" := by rfl) (he : starEach (e :: []) X.env = (false, eval e X.env) :: starEach [] X.env := by rfl) (hpl : (backTo pos (starEach [] X.env)).any (·.1) = false := by rfl) : EE X (.Call (.Name "all" p) [e] [] pos) env k :=
  .of (pe_callB (cr_all hc) hg hm (by decide +kernel) (pa_cons pe_can pa_nil he) (by decide) (by decide) he hpl) fun M0 B M σ c Q hQ => h M0 B M σ c _ fun v H ⟨ad, xs, ds, env', B', M', e1, e2, c', sm, hs, hr, bs, e3, q⟩ => by
    subst e1 e2 e3
    have e : bs.map Bl = (bs.map V.bl).map D.v := by rw [List.map_map]; rfl
    rw [e] at hr
    rw [hr.atoms_eq] at hs
    exact ⟨ad, bs, rfl, hs, hQ _ _ ((PostD.nowA c' q).back sm)⟩
theorem ee_any (hm : X.mg "any" = none) (h : EL X e env fun ds env' => ∃ bs : List Bool, ds = bs.map Bl ∧ k (Bl (bs.any id)) env') (hc : X.calm = true := by rfl) (hg : Gl X "any" := by rfl) (he : starEach (e :: []) X.env = (false, eval e X.env) :: starEach [] X.env := by rfl) (hpl : (backTo pos (starEach [] X.env)).any (·.1) = false := by rfl) : EE X (.Call (.Name "any" p) [e] [] pos) env k :=
  .of (pe_callB (cr_any hc) hg hm (by decide +kernel) (pa_cons pe_can pa_nil he) (by decide) (by decide) he hpl) fun M0 B M σ c Q hQ => h M0 B M σ c _ fun v H ⟨ad, xs, ds, env', B', M', e1, e2, c', sm, hs, hr, bs, e3, q⟩ => by
    subst e1 e2 e3
    have e : bs.map Bl = (bs.map V.bl).map D.v := by rw [List.map_map]; rfl
    rw [e] at hr
    rw [hr.atoms_eq] at hs
    exact ⟨ad, bs, rfl, hs, hQ _ _ ((PostD.nowA c' q).back sm)⟩
/-- min(i, j), max(i, j) -/
theorem ee_min2 (hm : X.mg "min" = none) (h : ED X (a :: b :: []) env fun ds env' => ∃ i j, ds = [I i, I j] ∧ k (I (if j < i then j else i)) env') (hc : X.calm = true := by rfl) (hg : Gl X "min" := by rfl) (he : starEach (a :: [b]) X.env = (false, eval a X.env) :: starEach [b] X.env := by rfl) (hpl : (backTo pos (starEach [b] X.env)).any (·.1) = false := by rfl) : EE X (.Call (.Name "min" p) [a, b] [] pos) env k :=
  .of (pe_callB (call_min2 hc) hg hm (by decide +kernel) pa_can (by decide) (by decide) he hpl) fun M0 B M σ c Q hQ => h M0 B M σ c _ fun vs H ⟨ds, env', B', M', e1, c', sm, r, i, j, e3, q⟩ => by
    subst e1 e3
    obtain ⟨x, r', rfl, rx, y, r'', rfl, ry, rz⟩ := r
    cases rx; cases ry; cases rz
    exact ⟨i, j, rfl, hQ _ _ ((PostD.nowA c' q).back sm)⟩
theorem ee_max2 (hm : X.mg "max" = none) (h : ED X (a :: b :: []) env fun ds env' => ∃ i j, ds = [I i, I j] ∧ k (I (if j > i then j else i)) env') (hc : X.calm = true := by rfl) (hg : Gl X "max" := by rfl) (he : starEach (a :: [b]) X.env = (false, eval a X.env) :: starEach [b] X.env := by rfl) (hpl : (backTo pos (starEach [b] X.env)).any (·.1) = false := by rfl) : EE X (.Call (.Name "max" p) [a, b] [] pos) env k :=
  .of (pe_callB (call_max2 hc) hg hm (by decide +kernel) pa_can (by decide) (by decide) he hpl) fun M0 B M σ c Q hQ => h M0 B M σ c _ fun vs H ⟨ds, env', B', M', e1, c', sm, r, i, j, e3, q⟩ => by
    subst e1 e3
    obtain ⟨x, r', rfl, rx, y, r'', rfl, ry, rz⟩ := r
    cases rx; cases ry; cases rz
    exact ⟨i, j, rfl, hQ _ _ ((PostD.nowA c' q).back sm)⟩
/-- list(range(..)), tuple(range(..)) -/
def rgD (a b : Int) : List D := (List.range (b - a).toNat).map fun i => I (a + (i : Nat))
theorem rg_rp {x y : Int} : RpA K B (rgD x y) (rgV x y) := by
  have e : rgD x y = (rgV x y).map D.v := by
    unfold rgD rgV
    rw [List.map_map]
    rfl
  rw [e]
  exact RpA.atoms
theorem em_listRg1 {p2 pos2 : Pos} (hm : X.mg "list" = none) (hm2 : X.mg "range" = none) (h : EE X a env fun d env' => ∃ n, d = I n ∧ RgOk 0 n ∧ km (.lst (rgD 0 n)) env') (hc : X.calm = true := by rfl) (hg : Gl X "list" := by rfl) (hg2 : Gl X "range" := by rfl)
    (na : starEach [a] X.env = (false, eval a X.env) :: starEach [] X.env := by rfl) (na2 : starEach [.Call (.Name "range" p2) [a] [] pos2] X.env = (false, eval (.Call (.Name "range" p2) [a] [] pos2) X.env) :: starEach [] X.env := by rfl) : EM X (.Call (.Name "list" p) [.Call (.Name "range" p2) [a] [] pos2] [] pos) env km :=
  .of (pe_listRg hc hg hm (prg_1 hg2 hm2 pe_can na) na2) fun M0 B M σ c Q hQ => h M0 B M σ c _ fun v H ⟨d, env', B', M', e1, c', sm, r, n, e3, ok, q⟩ => by
    subst e1 e3; cases r
    exact ⟨n, rfl, ok, fun p hp => hQ _ _ ((PostM.newL c' hp (rg_rp) q).back sm)⟩
theorem em_listRg2 {p2 pos2 : Pos} (hm : X.mg "list" = none) (hm2 : X.mg "range" = none) (h : EE X a env fun d env' => EE X b env' fun d2 env2 => ∃ x y, d = I x ∧ d2 = I y ∧ RgOk x y ∧ km (.lst (rgD x y)) env2) (hc : X.calm = true := by rfl) (hg : Gl X "list" := by rfl) (hg2 : Gl X "range" := by rfl)
    (na : starEach [a, b] X.env = (false, eval a X.env) :: starEach [b] X.env := by rfl) (nb : starEach [b] X.env = (false, eval b X.env) :: starEach [] X.env := by rfl) (hp : (backTo pos2 (starEach [b] X.env)).any (·.1) = false := by rfl)
    (na2 : starEach [.Call (.Name "range" p2) [a, b] [] pos2] X.env = (false, eval (.Call (.Name "range" p2) [a, b] [] pos2) X.env) :: starEach [] X.env := by rfl) : EM X (.Call (.Name "list" p) [.Call (.Name "range" p2) [a, b] [] pos2] [] pos) env km :=
  .of (pe_listRg hc hg hm (prg_2 hg2 hm2 pe_can pe_can na nb hp) na2) fun M0 B M σ c Q hQ => h M0 B M σ c _ fun v H ⟨d, env', B', M', e1, c', sm, r, q⟩ => by
    subst e1
    refine q M0 B' M' σ c' _ fun v2 H ⟨d2, env2, B2, M2, e2, c2, s2, r2, x, y, e3, e4, ok, q2⟩ => ?_
    subst e2 e3 e4; cases r; cases r2
    exact ⟨x, y, rfl, rfl, ok, fun p hp => hQ _ _ ((PostM.newL c2 hp (rg_rp) q2).back (sm.trans s2))⟩

/-! ### methods of lists, of tuples -/
theorem PostD.mut {d : D} {i : Nat} {ad : Addr} {mo mo' : MO} {o' : HO} {v : V} (c : Conc K M0 env B M σ) (hi : env[i]? = some (.mu ad mo)) (hr : RpO K B mo' o') (r : Rp K B d v) (q : k d (env.set i (.mu ad mo'))) : PostD K M0 σ B k v (upd (J B M) ad o') :=
  ⟨d, _, B, upd M ad o', upd_JM, c.mut hi hr, Same.refl B, r, q⟩
/-- x.append(e), x a list of one's own in slot i -/
theorem ee_append (i : Nat) {x : Str} {pn apos : Pos} {ad : Addr} {ds0 : List D} (hi0 : env[i]? = some (.mu ad (.lst ds0))) (h : EE X e env fun d env1 => ∃ ds, env1[i]? = some (.mu ad (.lst ds)) ∧ ds.length ≤ 1000000 ∧ k Nn (env1.set i (.mu ad (.lst (ds ++ [d])))))
    (hN : X.N[i]? = some x := by rfl) (hv : Vis X.env.scope x := by first | exact Or.inl rfl | exact Or.inr (Or.inl rfl) | exact Or.inr (Or.inr rfl)) (hd : (x == ("__debug__" : Str)) = false := by decide) (hcd : (x == ("__classdict__" : Str)) = false := by decide)
    (hb : attributeBase (.Name x pn) "append" X.env (eval (.Name x pn) X.env) = eval (.Name x pn) X.env := by rfl)
    (hfew : ((backTo pos (starEach (e :: []) X.env)).all (fun x => !x.1) && (backToKw pos (keywordEach [] X.env)).all (fun x => x.1.isSome)
      && decide ((e :: ([] : List Expr)).length + ([] : List Keyword).length + (if ([] : List Keyword).isEmpty then 0 else 1) < 30)) = true := by rfl)
    (hline : (apos.endLine == pos.line) = true := by rfl) (hs : starEach (e :: []) X.env = (false, eval e X.env) :: starEach [] X.env := by rfl) (hpl : (backTo pos (starEach [] X.env)).any (·.1) = false := by rfl) :
    EE X (.Call (.Attribute (.Name x pn) "append" apos) [e] [] pos) env k := .of (pe_bm PySem.F.plainAttrs_list PySem.F.slot_list_append PySem.F.type_list_append mt_append (pe_var hN hv hd hcd) (pa_cons pe_can pa_nil hs) hb hfew hline hs hpl) fun M0 B M σ c Q hQ => by
  obtain ⟨s0, hs0, es0, o0, ho0, hr0⟩ := c.slot i _ hi0
  refine ⟨.ref ad, by rw [hs0, es0], ?_, h M0 B M σ c _ fun v H ⟨d, env1, B1, M1, e1, c1, s1, r, ds, hi1, hl, q⟩ => ?_⟩
  · obtain ⟨xs, rfl, _⟩ := hr0
    exact .inl ⟨rfl, xs, SqL.of (J_M ho0)⟩
  · subst e1
    obtain ⟨s2, hs2, es2, o2, ho2, xs, rfl, hr⟩ := c1.slot i _ hi1
    exact ⟨ad, xs, v, rfl, rfl, J_M ho2, by rw [hr.length, sizeLine_eq]; omega, hQ _ _ ((PostD.mutL (d := Nn) c1 hi1 (hr.append (show RpA X.K B1 [d] [v] from ⟨v, [], rfl, r, rfl⟩)) rfl q).back s1)⟩
end
end Sy
namespace Sy
open PySem PySem.Spec PyProof.Rows L2

/-! ### data that are compared -/
mutual
def D.py : D → PyData
  | .v .non => .none
  | .v (.bl b) => .bool b
  | .v (.int i) => .int i
  | .v (.str x) => .str x
  | .v _ => .none
  | .tup ds => .tuple (pyA ds)
  | .wt ds => .tuple (pyA ds)
  | .lst ds => .list (pyA ds)
  | .dct _ => .none
def pyA : List D → List PyData
  | [] => []
  | d :: ds => d.py :: pyA ds
end
/-! plain data without truth values: == tells them apart by what they are -/
mutual
def D.eqk : D → Prop
  | .v .non => True
  | .v (.int _) => True
  | .v (.str x) => PyData.strOk x = true
  | .v _ => False
  | .tup ds => eqkA ds
  | .lst ds => eqkA ds
  | .wt _ => False
  | .dct _ => False
def eqkA : List D → Prop
  | [] => True
  | d :: ds => d.eqk ∧ eqkA ds
end
mutual
def D.dep : D → Nat
  | .v _ => 0
  | .tup ds => depA ds + 1
  | .wt ds => depA ds + 1
  | .lst ds => depA ds + 1
  | .dct _ => 0
def depA : List D → Nat
  | [] => 0
  | d :: ds => max d.dep (depA ds)
end
section
variable {K : PySem.W.Frag} {B H : Hp}
mutual
theorem Rp.dp (e : Same B H) : ∀ (d : D) (v : V), d.eqk → Rp K B d v → Dp K H v d.py
  | .v .non, v, _, h => by cases h; exact .non
  | .v (.int i), v, _, h => by cases h; exact .int i
  | .v (.str x), v, _, h => by cases h; exact .str x
  | .v (.bl _), v, k, h => k.elim
  | .v (.byt _), v, k, h => k.elim
  | .v (.flt _), v, k, h => k.elim
  | .v (.ref _), v, k, h => k.elim
  | .v (.ty _), v, k, h => k.elim
  | .tup ds, v, k, h => by
    obtain ⟨a, xs, rfl, h1, h2⟩ := h
    exact .tup (sqT_same e h1.sq) (RpA.dp e ds xs k h2)
  | .lst ds, v, k, h => by
    obtain ⟨a, xs, rfl, h1, h2⟩ := h
    exact .lst (sqL_same e h1) (RpA.dp e ds xs k h2)
  | .wt _, v, k, h => k.elim
  | .dct _, v, k, h => k.elim
theorem RpA.dp (e : Same B H) : ∀ (ds : List D) (vs : List V), eqkA ds → RpA K B ds vs → DpAll K H vs (pyA ds)
  | [], vs, _, h => by cases h; exact .nil
  | d :: ds, vs, k, h => by
    obtain ⟨x, r, rfl, h1, h2⟩ := h
    exact .cons (Rp.dp e d x k.1 h1) (RpA.dp e ds r k.2 h2)
end
mutual
theorem eqk_lay : ∀ d : D, d.eqk → d.py.canLay0 = true
  | .v .non, _ => by simp [D.py, PyData.canLay0]
  | .v (.int i), _ => by simp [D.py, PyData.canLay0]
  | .v (.str x), h => by
    have h' : PyData.strOk x = true := h
    simpa [D.py, PyData.canLay0] using h'
  | .v (.bl _), k => k.elim
  | .v (.byt _), k => k.elim
  | .v (.flt _), k => k.elim
  | .v (.ref _), k => k.elim
  | .v (.ty _), k => k.elim
  | .tup ds, k => by
    have := eqk_layA ds k
    simpa [D.py, PyData.canLay0] using this
  | .lst ds, k => by
    have := eqk_layA ds k
    simpa [D.py, PyData.canLay0] using this
  | .wt _, k => k.elim
  | .dct _, k => k.elim
theorem eqk_layA : ∀ ds : List D, eqkA ds → PyData.canLayAll0 (pyA ds) = true
  | [], _ => by simp [pyA, PyData.canLayAll0]
  | d :: ds, k => by
    have h1 := eqk_lay d k.1
    have h2 := eqk_layA ds k.2
    simp [pyA, PyData.canLayAll0, h1, h2]
end
mutual
theorem dep_le : ∀ d : D, d.py.depth ≤ d.dep
  | .v .non => by simp [D.py, PyData.depth]
  | .v (.int i) => by simp [D.py, PyData.depth]
  | .v (.str x) => by simp [D.py, PyData.depth]
  | .v (.bl _) => by simp [D.py, PyData.depth]
  | .v (.byt _) => by simp [D.py, PyData.depth]
  | .v (.flt _) => by simp [D.py, PyData.depth]
  | .v (.ref _) => by simp [D.py, PyData.depth]
  | .v (.ty _) => by simp [D.py, PyData.depth]
  | .tup ds => by
    have := dep_leA ds
    simp [D.py, PyData.depth, D.dep]
    omega
  | .lst ds => by
    have := dep_leA ds
    simp [D.py, PyData.depth, D.dep]
    omega
  | .wt ds => by
    have := dep_leA ds
    simp [D.py, PyData.depth, D.dep]
    omega
  | .dct _ => by simp [D.py, PyData.depth]
theorem dep_leA : ∀ ds : List D, PyData.depthAll (pyA ds) ≤ depA ds
  | [] => by simp [pyA, PyData.depthAll]
  | d :: ds => by
    have h1 := dep_le d
    have h2 := dep_leA ds
    simp [pyA, PyData.depthAll, depA]
    omega
end
theorem eqk_shaped {d : D} (k : d.eqk) (h : d.dep ≤ 64) : SeqAt.shaped d.py = true := by
  unfold SeqAt.shaped
  rw [eqk_lay d k, Bool.true_and]
  exact decide_eq_true (Nat.le_trans (dep_le d) h)
mutual
theorem eqv_iff : ∀ d e : D, d.eqk → e.eqk → (PyData.eqv d.py e.py = true ↔ d = e)
  | .v .non, .v .non, _, _ => by simp [D.py, PyData.eqv]
  | .v .non, .v (.int _), _, _ => by simp [D.py, PyData.eqv]
  | .v .non, .v (.str _), _, _ => by simp [D.py, PyData.eqv]
  | .v .non, .tup _, _, _ => by simp [D.py, PyData.eqv]
  | .v .non, .lst _, _, _ => by simp [D.py, PyData.eqv]
  | .v (.int _), .v .non, _, _ => by simp [D.py, PyData.eqv]
  | .v (.int i), .v (.int j), _, _ => by simp [D.py, PyData.eqv]
  | .v (.int _), .v (.str _), _, _ => by simp [D.py, PyData.eqv]
  | .v (.int _), .tup _, _, _ => by simp [D.py, PyData.eqv]
  | .v (.int _), .lst _, _, _ => by simp [D.py, PyData.eqv]
  | .v (.str _), .v .non, _, _ => by simp [D.py, PyData.eqv]
  | .v (.str _), .v (.int _), _, _ => by simp [D.py, PyData.eqv]
  | .v (.str x), .v (.str y), _, _ => by simp [D.py, PyData.eqv]
  | .v (.str _), .tup _, _, _ => by simp [D.py, PyData.eqv]
  | .v (.str _), .lst _, _, _ => by simp [D.py, PyData.eqv]
  | .tup _, .v .non, _, _ => by simp [D.py, PyData.eqv]
  | .tup _, .v (.int _), _, _ => by simp [D.py, PyData.eqv]
  | .tup _, .v (.str _), _, _ => by simp [D.py, PyData.eqv]
  | .tup ds, .tup es, k1, k2 => by
    have := eqv_iffA ds es k1 k2
    simp [D.py, PyData.eqv, this]
  | .tup _, .lst _, _, _ => by simp [D.py, PyData.eqv]
  | .lst _, .v .non, _, _ => by simp [D.py, PyData.eqv]
  | .lst _, .v (.int _), _, _ => by simp [D.py, PyData.eqv]
  | .lst _, .v (.str _), _, _ => by simp [D.py, PyData.eqv]
  | .lst _, .tup _, _, _ => by simp [D.py, PyData.eqv]
  | .lst ds, .lst es, k1, k2 => by
    have := eqv_iffA ds es k1 k2
    simp [D.py, PyData.eqv, this]
  | .v (.bl _), _, k, _ => k.elim
  | .v (.byt _), _, k, _ => k.elim
  | .v (.flt _), _, k, _ => k.elim
  | .v (.ref _), _, k, _ => k.elim
  | .v (.ty _), _, k, _ => k.elim
  | .wt _, _, k, _ => k.elim
  | .dct _, _, k, _ => k.elim
  | _, .v (.bl _), _, k => k.elim
  | _, .v (.byt _), _, k => k.elim
  | _, .v (.flt _), _, k => k.elim
  | _, .v (.ref _), _, k => k.elim
  | _, .v (.ty _), _, k => k.elim
  | _, .wt _, _, k => k.elim
  | _, .dct _, _, k => k.elim
theorem eqv_iffA : ∀ ds es : List D, eqkA ds → eqkA es → (PyData.eqvAll (pyA ds) (pyA es) = true ↔ ds = es)
  | [], [], _, _ => by simp [pyA, PyData.eqvAll]
  | [], e :: es, _, _ => by simp [pyA, PyData.eqvAll]
  | d :: ds, [], _, _ => by simp [pyA, PyData.eqvAll]
  | d :: ds, e :: es, k1, k2 => by
    have h1 := eqv_iff d e k1.1 k2.1
    have h2 := eqv_iffA ds es k1.2 k2.2
    simp [pyA, PyData.eqvAll, h1, h2]
end
end
theorem eqkA_ints : ∀ ns : List Int, eqkA (ns.map I)
  | [] => trivial
  | _ :: r => ⟨trivial, eqkA_ints r⟩
theorem depA_ints : ∀ ns : List Int, depA (ns.map I) = 0
  | [] => rfl
  | _ :: r => by
    show max 0 (depA (r.map I)) = 0
    rw [depA_ints r]; rfl
theorem I_inj {a b : Int} (h : I a = I b) : a = b := V.int.inj (D.v.inj h)
theorem mapI_inj : ∀ {ns ms : List Int}, ns.map I = ms.map I → ns = ms
  | [], [], _ => rfl
  | [], _ :: _, h => by cases h
  | _ :: _, [], h => by cases h
  | a :: r, b :: q, h => by
    rw [List.map_cons, List.map_cons] at h
    injection h with h1 h2
    rw [I_inj h1, mapI_inj h2]
section
variable {X : Cx} {K : PySem.W.Frag} {e a b c : Expr} {es rest : List Expr} {env : Env_} {k : D → Env_ → Prop} {kb : Bool → Env_ → Prop} {km : MO → Env_ → Prop} {kl : List D → Env_ → Prop} {k4 : K4} {pos p : Pos}
variable {M0 B B1 M : Hp} {σ : L2.St}
/-- == of plain data -/
theorem co_eqD {d1 d2 : D} (hu : X.A.units + 64 < cLine) (k1 : d1.eqk) (k2 : d2.eqk) (h1 : d1.dep ≤ 64) (h2 : d2.dep ≤ 64) (q : ∀ x, (x = true ↔ d1 = d2) → k (Bl x) env) : CO X .Eq d1 d2 env k := .of (op_eqD hu) fun M0 B M σ c v1 v2 r1 r2 Q hQ =>
  ⟨d1.py, d2.py, Rp.dp c.same d1 v1 k1 r1, Rp.dp c.same d2 v2 k2 r2, eqk_shaped k1 h1, eqk_shaped k2 h2, hQ _ _ (.nowA c (q _ (eqv_iff d1 d2 k1 k2)))⟩
theorem co_neD {d1 d2 : D} (hu : X.A.units + 64 < cLine) (k1 : d1.eqk) (k2 : d2.eqk) (h1 : d1.dep ≤ 64) (h2 : d2.dep ≤ 64) (q : ∀ x, (x = true ↔ d1 ≠ d2) → k (Bl x) env) : CO X .NotEq d1 d2 env k := .of (op_neD hu) fun M0 B M σ c v1 v2 r1 r2 Q hQ =>
  ⟨d1.py, d2.py, Rp.dp c.same d1 v1 k1 r1, Rp.dp c.same d2 v2 k2 r2, eqk_shaped k1 h1, eqk_shaped k2 h2, hQ _ _ (.nowA c (q _ (by
    have := eqv_iff d1 d2 k1 k2
    cases z : PyData.eqv d1.py d2.py with
    | true => exact ⟨fun w => (by cases w), fun w => (w (this.mp z)).elim⟩
    | false => exact ⟨fun _ w => (by rw [this.mpr w] at z; cases z), fun _ => rfl⟩)))⟩
/-- t + u -/
theorem bo_cat {ds es : List D} (hl : ds.length + es.length ≤ 1000000) (q : k (.tup (ds ++ es)) env) : BO X .Add (.tup ds) (.tup es) env k := .of op_catS fun M0 B M σ c v1 v2 r1 r2 Q hQ => by
  obtain ⟨a1, xs, rfl, hs1, hr1⟩ := r1
  obtain ⟨a2, ys, rfl, hs2, hr2⟩ := r2
  refine ⟨a1, a2, xs, ys, rfl, rfl, sqT_same c.same hs1.sq, sqT_same c.same hs2.sq, by rw [hr1.length, hr2.length, sizeLine_eq]; omega, fun h => ?_, fun _ h => ?_, fun _ _ p o hp h1 h2 => hQ _ _ (.newT c hp h1 h2 (hr1.append hr2) q)⟩
  · subst h
    have e1 : ds = [] := List.eq_nil_of_length_eq_zero (by rw [← hr1.length]; rfl)
    rw [e1, List.nil_append] at q
    exact hQ _ _ (PostD.now (d := .tup es) c ⟨a2, ys, rfl, hs2, hr2⟩ q)
  · subst h
    have e1 : es = [] := List.eq_nil_of_length_eq_zero (by rw [← hr2.length]; rfl)
    rw [e1, List.append_nil] at q
    exact hQ _ _ (PostD.now (d := .tup ds) c ⟨a1, xs, rfl, hs1, hr1⟩ q)
/-- x in t, x not in t (ints, in a tuple, a list that stands still) -/
theorem inV_ints (i : Int) (ns : List Int) : inV (.int i) (ns.map V.int) = decide (i ∈ ns) := by
  unfold inV
  induction ns with
  | nil => rfl
  | cons a r ih =>
    rw [List.map_cons, List.any_cons, ih]
    show ((a == i) || decide (i ∈ r)) = decide (i ∈ a :: r)
    by_cases h : a = i
    · subst h; simp
    · have h1 : (a == i) = false := beq_eq_false_iff_ne.mpr h
      rw [h1, Bool.false_or]
      by_cases h2 : i ∈ r
      · rw [decide_eq_true h2, decide_eq_true (List.mem_cons_of_mem _ h2)]
      · rw [decide_eq_false h2, decide_eq_false]
        intro h3
        rcases List.mem_cons.mp h3 with h4 | h4
        · exact h h4.symm
        · exact h2 h4
theorem flat_ints (ns : List Int) : (ns.map V.int).all flatV = true := by
  rw [List.all_eq_true]
  intro x hx
  obtain ⟨i, _, rfl⟩ := List.mem_map.mp hx
  rfl
theorem co_inT {i : Int} {ns : List Int} (q : k (Bl (decide (i ∈ ns))) env) : CO X .In (I i) (.tup (ns.map I)) env k := .of op_in_seq fun M0 B M σ c v1 v2 r1 r2 Q hQ => by
  cases r1
  obtain ⟨a2, ys, rfl, hs2, hr2⟩ := r2
  have ey := hr2.ints_eq
  subst ey
  exact ⟨a2, _, rfl, .inr (sqT_same c.same hs2.sq), rfl, flat_ints ns, hQ _ _ (.nowA c (by
    show k (Bl (if false = true then !inV (.int i) (ns.map V.int) else inV (.int i) (ns.map V.int))) env
    rw [if_neg Bool.false_ne_true, inV_ints]; exact q))⟩
theorem co_niT {i : Int} {ns : List Int} (q : k (Bl (!decide (i ∈ ns))) env) : CO X .NotIn (I i) (.tup (ns.map I)) env k := .of op_notIn_seq fun M0 B M σ c v1 v2 r1 r2 Q hQ => by
  cases r1
  obtain ⟨a2, ys, rfl, hs2, hr2⟩ := r2
  have ey := hr2.ints_eq
  subst ey
  exact ⟨a2, _, rfl, .inr (sqT_same c.same hs2.sq), rfl, flat_ints ns, hQ _ _ (.nowA c (by
    show k (Bl (if true = true then !inV (.int i) (ns.map V.int) else inV (.int i) (ns.map V.int))) env
    rw [if_pos rfl, inV_ints]; exact q))⟩
theorem co_inL {i : Int} {ns : List Int} (q : k (Bl (decide (i ∈ ns))) env) : CO X .In (I i) (.lst (ns.map I)) env k := .of op_in_seq fun M0 B M σ c v1 v2 r1 r2 Q hQ => by
  cases r1
  obtain ⟨a2, ys, rfl, hs2, hr2⟩ := r2
  have ey := hr2.ints_eq
  subst ey
  exact ⟨a2, _, rfl, .inl (sqL_same c.same hs2), rfl, flat_ints ns, hQ _ _ (.nowA c (by
    show k (Bl (if false = true then !inV (.int i) (ns.map V.int) else inV (.int i) (ns.map V.int))) env
    rw [if_neg Bool.false_ne_true, inV_ints]; exact q))⟩
theorem co_niL {i : Int} {ns : List Int} (q : k (Bl (!decide (i ∈ ns))) env) : CO X .NotIn (I i) (.lst (ns.map I)) env k := .of op_notIn_seq fun M0 B M σ c v1 v2 r1 r2 Q hQ => by
  cases r1
  obtain ⟨a2, ys, rfl, hs2, hr2⟩ := r2
  have ey := hr2.ints_eq
  subst ey
  exact ⟨a2, _, rfl, .inl (sqL_same c.same hs2), rfl, flat_ints ns, hQ _ _ (.nowA c (by
    show k (Bl (if true = true then !inV (.int i) (ns.map V.int) else inV (.int i) (ns.map V.int))) env
    rw [if_pos rfl, inV_ints]; exact q))⟩

/-! ### items -/
theorem atI_rp {ds : List D} {xs : List V} {i : Int} {d : D} (r : RpA K B ds xs) (h : atI ds i = some d) : ∃ v, atI xs i = some v ∧ Rp K B d v := by
  unfold atI at h ⊢
  rw [r.length]
  cases e : ixN ds.length i with
  | none => rw [e] at h; cases h
  | some j =>
    rw [e] at h
    exact r.get h
theorem IxR.of_or {r r' : R2} (h : IxR X r) (h' : IxR X r') : IxR X (fun x y H Q => r x y H Q ∨ r' x y H Q) := h.or h'
/-- a[b], a data -/
theorem ee_ix (h : EE X a env fun d1 env1 => EE X b env1 fun d2 env2 => ∃ ds i d, (d1 = .tup ds ∨ d1 = .lst ds) ∧ d2 = I i ∧ atI ds i = some d ∧ k d env2) (hs : PlainIx b := by exact fun _ _ => rfl) : EE X (.Subscript a b pos) env k :=
  .of (pe_ix (ix_list.or ix_tup) pe_can pe_can hs) fun M0 B M σ c Q hQ => h M0 B M σ c _ fun v H ⟨d1, env1, B1, M1, e1, c1, s1, r1, q1⟩ => by
    subst e1
    refine q1 M0 B1 M1 σ c1 _ fun v2 H ⟨d2, env2, B2, M2, e2, c2, s2, r2, ds, i, d, hd, e3, hi, q2⟩ => ?_
    subst e2 e3; cases r2
    have r1' := Rp.mono s2 _ _ r1
    rcases hd with rfl | rfl
    · obtain ⟨ad, xs, rfl, hs, hr⟩ := r1'
      obtain ⟨v, hv, rv⟩ := atI_rp hr hi
      exact .inr ⟨ad, xs, i, v, rfl, rfl, sqT_same c2.same hs.sq, hv, hQ _ _ ((PostD.now c2 rv q2).back (s1.trans s2))⟩
    · obtain ⟨ad, xs, rfl, hs, hr⟩ := r1'
      obtain ⟨v, hv, rv⟩ := atI_rp hr hi
      exact .inl ⟨ad, xs, i, v, rfl, rfl, sqL_same c2.same hs, hv, hQ _ _ ((PostD.now c2 rv q2).back (s1.trans s2))⟩
/-- x[b], x a list of one's own in slot i -/
theorem ee_ixX (i : Nat) {x : Str} {pn : Pos} {ad : Addr} {mo0 : MO} (hi0 : env[i]? = some (.mu ad mo0)) (h : EE X b env fun d2 env2 => ∃ ds j d, env2[i]? = some (.mu ad (.lst ds)) ∧ d2 = I j ∧ atI ds j = some d ∧ k d env2) (hs : PlainIx b := by exact fun _ _ => rfl)
    (hN : X.N[i]? = some x := by rfl) (hv : Vis X.env.scope x := by first | exact Or.inl rfl | exact Or.inr (Or.inl rfl) | exact Or.inr (Or.inr rfl)) (hd : (x == ("__debug__" : Str)) = false := by decide) (hcd : (x == ("__classdict__" : Str)) = false := by decide) : EE X (.Subscript (.Name x pn) b pos) env k :=
  .of (pe_ix ix_list (pe_var hN hv hd hcd) pe_can hs) fun M0 B M σ c Q hQ => by
    obtain ⟨s0, hs0, es0, o0, ho0, hr0⟩ := c.slot i _ hi0
    refine ⟨.ref ad, by rw [hs0, es0], h M0 B M σ c _ fun v2 H ⟨d2, env2, B2, M2, e2, c2, s2, r2, ds, j, d, hi2, e3, hj, q2⟩ => ?_⟩
    subst e2 e3; cases r2
    obtain ⟨s1, hs1, es1, o1, ho1, xs, rfl, hr⟩ := c2.slot i _ hi2
    obtain ⟨v, hv, rv⟩ := atI_rp hr hj
    exact ⟨ad, xs, j, v, rfl, rfl, SqL.of (J_M ho1), hv, hQ _ _ ((PostD.now c2 rv q2).back s2)⟩
/-- x[b] = e, x a list of one's own in slot i -/
theorem s_setIx (i : Nat) {x : Str} {pn p2 : Pos} {ad : Addr} {mo0 : MO} (hi0 : env[i]? = some (.mu ad mo0)) (h : EE X e env fun d env1 => ∃ mo1, env1[i]? = some (.mu ad mo1) ∧ EE X b env1 fun d2 env2 => ∃ ds j m, env2[i]? = some (.mu ad (.lst ds)) ∧ d2 = I j ∧ ixN ds.length j = some m ∧ k4.nx (env2.set i (.mu ad (.lst (ds.set m d)))))
    (hN : X.N[i]? = some x := by rfl) (hv : Vis X.env.scope x := by first | exact Or.inl rfl | exact Or.inr (Or.inl rfl) | exact Or.inr (Or.inr rfl)) (hd : (x == ("__debug__" : Str)) = false := by decide) (hcd : (x == ("__classdict__" : Str)) = false := by decide)
    (ha : ∀ v, assign (.Subscript (.Name x pn) b p2) X.env v = (do
      let ov ← holding [v] (eval (.Name x pn) X.env)
      let iv ← holding [v, ov] (eval b X.env)
      standAt p2
      holding [v, ov, iv] (setItem ov iv v)
      release [v, ov, iv] []) := by intro _; rfl)
    (hs : swapsWithSole [.Subscript (.Name x pn) b p2] e pos.line X.env = pure false := by rfl) (hw : swappedStores [.Subscript (.Name x pn) b p2] e X.env = pure none := by rfl)
    (h1 : (assignEach [.Subscript (.Name x pn) b p2] X.env).map (·.2) = [assign (.Subscript (.Name x pn) b p2) X.env] := by rfl) : S1 X (.Assign [.Subscript (.Name x pn) b p2] e pos) env k4 :=
  .of (ps_asg pe_can (pg_sub (pe_var hN hv hd hcd) pe_can set_list ha) hs hw h1) fun M0 B M σ c Dd q1 q2 q3 q4 => h M0 B M σ c _ fun v H ⟨d, env1, B1, M1, e1, c1, s1, r1, mo1, hi1, h2⟩ => by
    subst e1
    obtain ⟨s0, hs0, es0, o0, ho0, hr0⟩ := c1.slot i _ hi1
    refine ⟨.ref ad, by rw [hs0, es0], h2 M0 B1 M1 σ c1 _ fun v2 H ⟨d2, env2, B2, M2, e2, c2, s2, r2, ds, j, m, hi2, e3, hj, z⟩ => ?_⟩
    subst e2 e3; cases r2
    obtain ⟨s3, hs3, es3, o1, ho1, xs, rfl, hr⟩ := c2.slot i _ hi2
    refine ⟨ad, xs, j, m, rfl, rfl, J_M ho1, by rw [hr.length]; exact hj, ?_⟩
    rw [upd_JM]
    exact q1 _ _ ⟨_, B2, _, rfl, c2.mut (mo' := .lst (ds.set m d)) hi2 ⟨_, rfl, hr.set m (Rp.mono s2 d v r1)⟩, s1.trans s2, z⟩
/-- x.insert(a, b) -/
theorem ee_insert (i : Nat) {x : Str} {pn apos : Pos} {ad : Addr} {ds0 : List D} (hi0 : env[i]? = some (.mu ad (.lst ds0))) (h : ED X [a, b] env fun as env1 => ∃ ds j d, as = [I j, d] ∧ env1[i]? = some (.mu ad (.lst ds)) ∧ ds.length ≤ 1000000 ∧ 0 ≤ j ∧ j < 2 ^ 63 ∧ k Nn (env1.set i (.mu ad (.lst (ds.take j.toNat ++ [d] ++ ds.drop j.toNat)))))
    (hN : X.N[i]? = some x := by rfl) (hv : Vis X.env.scope x := by first | exact Or.inl rfl | exact Or.inr (Or.inl rfl) | exact Or.inr (Or.inr rfl)) (hd : (x == ("__debug__" : Str)) = false := by decide) (hcd : (x == ("__classdict__" : Str)) = false := by decide)
    (hb : attributeBase (.Name x pn) "insert" X.env (eval (.Name x pn) X.env) = eval (.Name x pn) X.env := by rfl)
    (hfew : ((backTo pos (starEach (a :: [b]) X.env)).all (fun x => !x.1) && (backToKw pos (keywordEach [] X.env)).all (fun x => x.1.isSome)
      && decide ((a :: [b]).length + ([] : List Keyword).length + (if ([] : List Keyword).isEmpty then 0 else 1) < 30)) = true := by rfl)
    (hline : (apos.endLine == pos.line) = true := by rfl) (hs : starEach (a :: [b]) X.env = (false, eval a X.env) :: starEach [b] X.env := by rfl) (hpl : (backTo pos (starEach [b] X.env)).any (·.1) = false := by rfl) :
    EE X (.Call (.Attribute (.Name x pn) "insert" apos) [a, b] [] pos) env k := .of (pe_bm PySem.F.plainAttrs_list PySem.F.slot_list_insert PySem.F.type_list_insert mt_insert (pe_var hN hv hd hcd) pa_can hb hfew hline hs hpl) fun M0 B M σ c Q hQ => by
  obtain ⟨s0, hs0, es0, o0, ho0, xs0, rfl, hr0⟩ := c.slot i _ hi0
  refine ⟨.ref ad, by rw [hs0, es0], .inl ⟨rfl, xs0, SqL.of (J_M ho0)⟩, h M0 B M σ c _ fun vs H ⟨as, env1, B1, M1, e1, c1, s1, r, ds, j, d, e2, hi1, hl, h0, h1, q⟩ => ?_⟩
  subst e1 e2
  obtain ⟨vj, r1, rfl, rj, vd, r2, rfl, rd, rn⟩ := r
  cases rj; cases rn
  obtain ⟨s2, hs2, es2, o2, ho2, xs, rfl, hr⟩ := c1.slot i _ hi1
  exact ⟨ad, xs, j, vd, rfl, rfl, J_M ho2, by rw [hr.length, sizeLine_eq]; omega, h0, h1, hQ _ _ ((PostD.mutL (d := Nn) c1 hi1 (((hr.take _).append (show RpA X.K B1 [d] [vd] from ⟨vd, [], rfl, rd, rfl⟩)).append (hr.drop _)) rfl q).back s1)⟩
/-- x.pop() -/
theorem ee_pop (i : Nat) {x : Str} {pn apos : Pos} {ad : Addr} {ds : List D} {d : D} (hi0 : env[i]? = some (.mu ad (.lst ds))) (hl : ds[ds.length - 1]? = some d) (q : k d (env.set i (.mu ad (.lst ds.dropLast))))
    (hN : X.N[i]? = some x := by rfl) (hv : Vis X.env.scope x := by first | exact Or.inl rfl | exact Or.inr (Or.inl rfl) | exact Or.inr (Or.inr rfl)) (hd : (x == ("__debug__" : Str)) = false := by decide) (hcd : (x == ("__classdict__" : Str)) = false := by decide)
    (hb : attributeBase (.Name x pn) "pop" X.env (eval (.Name x pn) X.env) = eval (.Name x pn) X.env := by rfl) (hline : (apos.endLine == pos.line) = true := by rfl) :
    EE X (.Call (.Attribute (.Name x pn) "pop" apos) [] [] pos) env k := .of (pe_bm0 PySem.F.plainAttrs_list PySem.F.slot_list_pop PySem.F.type_list_pop mt_pop (pe_var hN hv hd hcd) hb hline) fun M0 B M σ c Q hQ => by
  obtain ⟨s0, hs0, es0, o0, ho0, xs, rfl, hr⟩ := c.slot i _ hi0
  obtain ⟨v, hv2, rv⟩ := hr.get hl
  refine ⟨.ref ad, by rw [hs0, es0], .inl ⟨rfl, xs, SqL.of (J_M ho0)⟩, ad, xs, v, rfl, rfl, J_M ho0, by rw [hr.length]; exact hv2, hQ _ _ (PostD.mutL c hi0 ?_ rv q)⟩
  rw [List.dropLast_eq_take, List.dropLast_eq_take, hr.length]
  exact hr.take _
/-- x.pop(a) -/
theorem ee_popAt (i : Nat) {x : Str} {pn apos : Pos} {ad : Addr} {ds0 : List D} (hi0 : env[i]? = some (.mu ad (.lst ds0))) (h : EE X a env fun d1 env1 => ∃ ds j m d, d1 = I j ∧ env1[i]? = some (.mu ad (.lst ds)) ∧ -(2 ^ 63) ≤ j ∧ j < 2 ^ 63 ∧ seqIndex? j ds.length = some m ∧ ds[m]? = some d ∧ k d (env1.set i (.mu ad (.lst (ds.eraseIdx m)))))
    (hN : X.N[i]? = some x := by rfl) (hv : Vis X.env.scope x := by first | exact Or.inl rfl | exact Or.inr (Or.inl rfl) | exact Or.inr (Or.inr rfl)) (hd : (x == ("__debug__" : Str)) = false := by decide) (hcd : (x == ("__classdict__" : Str)) = false := by decide)
    (hb : attributeBase (.Name x pn) "pop" X.env (eval (.Name x pn) X.env) = eval (.Name x pn) X.env := by rfl)
    (hfew : ((backTo pos (starEach (a :: []) X.env)).all (fun x => !x.1) && (backToKw pos (keywordEach [] X.env)).all (fun x => x.1.isSome)
      && decide ((a :: ([] : List Expr)).length + ([] : List Keyword).length + (if ([] : List Keyword).isEmpty then 0 else 1) < 30)) = true := by rfl)
    (hline : (apos.endLine == pos.line) = true := by rfl) (hs : starEach (a :: []) X.env = (false, eval a X.env) :: starEach [] X.env := by rfl) (hpl : (backTo pos (starEach [] X.env)).any (·.1) = false := by rfl) :
    EE X (.Call (.Attribute (.Name x pn) "pop" apos) [a] [] pos) env k := .of (pe_bm PySem.F.plainAttrs_list PySem.F.slot_list_pop PySem.F.type_list_pop mt_popAt (pe_var hN hv hd hcd) (pa_cons pe_can pa_nil hs) hb hfew hline hs hpl) fun M0 B M σ c Q hQ => by
  obtain ⟨s0, hs0, es0, o0, ho0, xs0, rfl, hr0⟩ := c.slot i _ hi0
  refine ⟨.ref ad, by rw [hs0, es0], .inl ⟨rfl, xs0, SqL.of (J_M ho0)⟩, h M0 B M σ c _ fun v H ⟨d1, env1, B1, M1, e1, c1, s1, r, ds, j, m, d, e2, hi1, h1, h2, hj, hm, q⟩ => ?_⟩
  subst e1 e2
  cases r
  obtain ⟨s2, hs2, es2, o2, ho2, xs, rfl, hr⟩ := c1.slot i _ hi1
  obtain ⟨v, hv2, rv⟩ := hr.get hm
  exact ⟨ad, xs, j, m, v, rfl, rfl, J_M ho2, h1, h2, by rw [hr.length]; exact hj, hv2, hQ _ _ ((PostD.mutL c1 hi1 (hr.eraseIdx m) rv q).back s1)⟩
/-- t.index(i) of a tuple of ints -/
theorem ee_indexT {apos : Pos} (hu : X.A.units + 1 < cLine) (h : EE X a env fun d1 env1 => ∃ ns : List Int, d1 = .tup (ns.map I) ∧ EE X b env1 fun d2 env2 => ∃ i : Int, d2 = I i ∧ i ∈ ns ∧ k (I ((ns.idxOf i : Nat) : Int)) env2)
    (hb : attributeBase a "index" X.env (eval a X.env) = eval a X.env := by rfl)
    (hfew : ((backTo pos (starEach (b :: []) X.env)).all (fun x => !x.1) && (backToKw pos (keywordEach [] X.env)).all (fun x => x.1.isSome)
      && decide ((b :: ([] : List Expr)).length + ([] : List Keyword).length + (if ([] : List Keyword).isEmpty then 0 else 1) < 30)) = true := by rfl)
    (hline : (apos.endLine == pos.line) = true := by rfl) (hs : starEach (b :: []) X.env = (false, eval b X.env) :: starEach [] X.env := by rfl) (hpl : (backTo pos (starEach [] X.env)).any (·.1) = false := by rfl) :
    EE X (.Call (.Attribute a "index" apos) [b] [] pos) env k := .of (pe_bmT PySem.F.slot_tuple_index PySem.F.type_tuple_index (mt_indexT hu) pe_can (pa_cons pe_can pa_nil hs) hb hfew hline hs hpl) fun M0 B M σ c Q hQ => h M0 B M σ c _ fun v H ⟨d1, env1, B1, M1, e1, c1, s1, r1, ns, e0, q1⟩ => by
    subst e1 e0
    obtain ⟨ad, xs, rfl, hs, hr⟩ := r1
    have ex := hr.ints_eq
    subst ex
    refine ⟨⟨ad, _, rfl, hs.mono c1.same⟩, q1 M0 B1 M1 σ c1 _ fun v2 H ⟨d2, env2, B2, M2, e2, c2, s2, r2, i, e3, hi, q2⟩ => ?_⟩
    subst e2 e3; cases r2
    exact ⟨ad, ns, i, rfl, rfl, sqT_same c2.same (hs.mono s2).sq, hi, hQ _ _ ((PostD.nowA c2 q2).back (s1.trans s2))⟩
/-- x.index(i) of a list of ints (x any expression that is data) -/
theorem ee_indexL {apos : Pos} (h : EE X a env fun d1 env1 => ∃ ns : List Int, d1 = .lst (ns.map I) ∧ EE X b env1 fun d2 env2 => ∃ i : Int, d2 = I i ∧ i ∈ ns ∧ k (I ((ns.idxOf i : Nat) : Int)) env2)
    (hb : attributeBase a "index" X.env (eval a X.env) = eval a X.env := by rfl)
    (hfew : ((backTo pos (starEach (b :: []) X.env)).all (fun x => !x.1) && (backToKw pos (keywordEach [] X.env)).all (fun x => x.1.isSome)
      && decide ((b :: ([] : List Expr)).length + ([] : List Keyword).length + (if ([] : List Keyword).isEmpty then 0 else 1) < 30)) = true := by rfl)
    (hline : (apos.endLine == pos.line) = true := by rfl) (hs : starEach (b :: []) X.env = (false, eval b X.env) :: starEach [] X.env := by rfl) (hpl : (backTo pos (starEach [] X.env)).any (·.1) = false := by rfl) :
    EE X (.Call (.Attribute a "index" apos) [b] [] pos) env k := .of (pe_bm PySem.F.plainAttrs_list PySem.F.slot_list_index PySem.F.type_list_index mt_index pe_can (pa_cons pe_can pa_nil hs) hb hfew hline hs hpl) fun M0 B M σ c Q hQ => h M0 B M σ c _ fun v H ⟨d1, env1, B1, M1, e1, c1, s1, r1, ns, e0, q1⟩ => by
    subst e1 e0
    obtain ⟨ad, xs, rfl, hs, hr⟩ := r1
    have ex := hr.ints_eq
    subst ex
    refine ⟨.inl ⟨rfl, _, sqL_same c1.same hs⟩, q1 M0 B1 M1 σ c1 _ fun v2 H ⟨d2, env2, B2, M2, e2, c2, s2, r2, i, e3, hi, q2⟩ => ?_⟩
    subst e2 e3; cases r2
    have hix : ns.idxOf i < ns.length := List.idxOf_lt_length_iff.mpr hi
    refine ⟨ad, ns.map V.int, .int i, ns.idxOf i, .int i, rfl, rfl, sqL_same c2.same (sqL_same s2 hs), rfl, flat_ints ns, ?_, ?_, fun m z hm hz => ?_, hQ _ _ ((PostD.nowA c2 q2).back (s1.trans s2))⟩
    · rw [List.getElem?_map, List.getElem?_eq_getElem hix, List.getElem_idxOf]
      rfl
    · show (i == i) = true
      exact beq_self_eq_true i
    · rw [List.getElem?_map] at hz
      cases e : ns[m]? with
      | none => rw [e] at hz; cases hz
      | some w =>
        rw [e] at hz
        have e4 : V.int w = z := Option.some.inj hz
        subst e4
        show (w == i) = false
        refine beq_eq_false_iff_ne.mpr fun e5 => ?_
        subst e5
        have hml : m < ns.length := (List.getElem?_eq_some_iff.mp e).1
        have := List.not_of_lt_findIdx (p := (· == w)) (xs := ns) (i := m) (by exact hm)
        rw [List.getElem?_eq_getElem hml] at e
        simp at this
        exact this (Option.some.inj e)
end
end Sy
namespace Sy
open PySem PySem.Spec PyProof.Rows L2

/-! ### what is walked -/
/-- at turn i it gives the i-th of ds, while Gd is known of the state -/
def WalkD (K : PySem.W.Frag) (W : It) (ds : List D) (B : Hp) (Gd : Env_ → Prop) : Prop := ∀ (M0 : Hp) (env2 : Env_) (B2 M2 : Hp) (σ2 : L2.St), Same B B2 → Conc K M0 env2 B2 M2 σ2 → Gd env2 →
  (∀ i, i < ds.length → W.go i (J B2 M2)) ∧ W.stop ds.length (J B2 M2) ∧ ∀ i d x H', ds[i]? = some d → W.yld i (J B2 M2) x H' → ∃ B3, H' = J B3 M2 ∧ Same B2 B3 ∧ Dis B3 M2 ∧ Rp K B3 d x
def PostI (K : PySem.W.Frag) (M0 : Hp) (σ : L2.St) (B : Hp) (k : List D → (Env_ → Prop) → Env_ → Prop) : It → Hp → Prop := fun W H => ∃ ds Gd env' B' M', H = J B' M' ∧ Conc K M0 env' B' M' σ ∧ Same B B' ∧ WalkD K W ds B' Gd ∧ k ds Gd env'
def LI (K : PySem.W.Frag) (t : TI) (env : Env_) (k : List D → (Env_ → Prop) → Env_ → Prop) : Prop := ∀ (M0 B M : Hp) (σ : L2.St), Conc K M0 env B M σ → ∀ R : It → Hp → Prop, (∀ W H, PostI K M0 σ B k W H → R W H) → t σ (J B M) R
def canI (X : Cx) (tg iter : Expr) : TI := fun σ H R => ∀ pins s, Inv X pins σ H s → wpAny (model X.prog X.w) X.A (eval iter X.env) (fun v s1 => wpAny (model X.prog X.w) X.A (pyIter v) (PIE X pins σ tg R) X.xe s1) X.xe s
theorem pi_can {X : Cx} {tg iter : Expr} : PI X tg iter (canI X tg iter) := ⟨fun pins s σ H R I h => h pins s I⟩
def EI (X : Cx) (tg iter : Expr) (env : Env_) (k : List D → (Env_ → Prop) → Env_ → Prop) : Prop := LI X.K (canI X tg iter) env k
abbrev Still : Env_ → Prop := fun _ => True
section
variable {X : Cx} {K : PySem.W.Frag} {e a b c tg iter : Expr} {es rest : List Expr} {env : Env_} {k : List D → (Env_ → Prop) → Env_ → Prop} {k4 : K4} {pos p : Pos}
variable {M0 B B1 M : Hp} {σ : L2.St}
theorem EI.of {t : TI} (h : PI X tg iter t) (q : LI X.K t env k) : EI X tg iter env k := fun M0 B M σ c R hR pins s I => h.run pins s σ _ R I (q M0 B M σ c R hR)
theorem ei_list (h : EE X e env fun d env' => ∃ ds, d = .lst ds ∧ k ds Still env') : EI X tg e env k := .of (pi_list pe_can) fun M0 B M σ c R hR => h M0 B M σ c _ fun v H ⟨d, env', B', M', e1, c', sm, r, ds, e2, q⟩ => by
  subst e1 e2
  obtain ⟨ad, xs, rfl, hs, hr⟩ := r
  refine ⟨ad, rfl, ⟨xs, sqL_same c'.same hs⟩, hR _ _ ⟨ds, Still, env', B', M', rfl, c', sm, fun M0 env2 B2 M2 σ2 s2 c2 _ => ⟨fun i hi => ?_, ?_, fun i d x H' hd hy => ?_⟩, q⟩⟩
  · rw [← hr.length] at hi
    exact ⟨xs, xs[i], sqL_same (s2.trans c2.same) hs, List.getElem?_eq_getElem hi⟩
  · exact ⟨xs, sqL_same (s2.trans c2.same) hs, Nat.le_of_eq hr.length⟩
  · obtain ⟨rfl, fx⟩ := hy
    obtain ⟨v, hv, rv⟩ := (hr.mono s2).get hd
    rw [fx xs (sqL_same (s2.trans c2.same) hs)] at hv
    cases hv
    exact ⟨B2, rfl, Same.refl B2, c2.dis, rv⟩
theorem ei_tup (h : EE X e env fun d env' => ∃ ds, d = .tup ds ∧ k ds Still env') : EI X tg e env k := .of (pi_tup pe_can) fun M0 B M σ c R hR => h M0 B M σ c _ fun v H ⟨d, env', B', M', e1, c', sm, r, ds, e2, q⟩ => by
  subst e1 e2
  obtain ⟨ad, xs, rfl, hs0, hr⟩ := r
  have hs := hs0.sq
  refine ⟨ad, rfl, ⟨xs, sqT_same c'.same hs⟩, hR _ _ ⟨ds, Still, env', B', M', rfl, c', sm, fun M0 env2 B2 M2 σ2 s2 c2 _ => ⟨fun i hi => ?_, ?_, fun i d x H' hd hy => ?_⟩, q⟩⟩
  · rw [← hr.length] at hi
    exact ⟨xs, xs[i], sqT_same (s2.trans c2.same) hs, List.getElem?_eq_getElem hi⟩
  · exact ⟨xs, sqT_same (s2.trans c2.same) hs, Nat.le_of_eq hr.length⟩
  · obtain ⟨rfl, fx⟩ := hy
    obtain ⟨v, hv, rv⟩ := (hr.mono s2).get hd
    rw [fx xs (sqT_same (s2.trans c2.same) hs)] at hv
    cases hv
    exact ⟨B2, rfl, Same.refl B2, c2.dis, rv⟩
/-- a list of one's own in slot i, walked where it lies -/
theorem ei_slot (i : Nat) {ad : Addr} {ds : List D} {x : Str} (hi : env[i]? = some (.mu ad (.lst ds))) (q : k ds (fun e => e[i]? = some (.mu ad (.lst ds))) env) (hN : X.N[i]? = some x := by rfl) (hv : Vis X.env.scope x := by first | exact Or.inl rfl | exact Or.inr (Or.inl rfl) | exact Or.inr (Or.inr rfl))
    (hd : (x == ("__debug__" : Str)) = false := by decide) (hcd : (x == ("__classdict__" : Str)) = false := by decide) : EI X tg (.Name x pos) env k := .of (pi_list (pe_var hN hv hd hcd)) fun M0 B M σ c R hR => by
  obtain ⟨s0, hs0, es0, o0, ho0, xs0, rfl, hr0⟩ := c.slot i _ hi
  refine ⟨.ref ad, by rw [hs0, es0], ad, rfl, ⟨xs0, SqL.of (J_M ho0)⟩, hR _ _ ⟨ds, _, env, B, M, rfl, c, Same.refl B, fun M0 env2 B2 M2 σ2 s2 c2 hi2 => ?_, q⟩⟩
  obtain ⟨s, hs, es, o, ho, xs, rfl, hr⟩ := c2.slot i _ hi2
  refine ⟨fun i hi => ?_, ?_, fun i d x H' hd hy => ?_⟩
  · rw [← hr.length] at hi
    exact ⟨xs, xs[i], SqL.of (J_M ho), List.getElem?_eq_getElem hi⟩
  · exact ⟨xs, SqL.of (J_M ho), Nat.le_of_eq hr.length⟩
  · obtain ⟨rfl, fx⟩ := hy
    obtain ⟨v, hv, rv⟩ := hr.get hd
    rw [fx xs (SqL.of (J_M ho))] at hv
    cases hv
    exact ⟨B2, rfl, Same.refl B2, c2.dis, rv⟩
theorem walk_rg {lo : Int} {n : Nat} : WalkD K (Itr lo n) ((List.range n).map fun i => I (lo + (i : Nat))) B Still := fun M0 env2 B2 M2 σ2 s2 c2 _ => ⟨fun i hi => by
    rw [List.length_map, List.length_range] at hi; exact hi, by
    show n ≤ _
    rw [List.length_map, List.length_range]; exact Nat.le_refl _, fun i d x H' hd hy => by
    obtain ⟨rfl, rfl⟩ := hy
    rw [List.getElem?_map] at hd
    have hi : i < n := by
      cases e : (List.range n)[i]? with
      | none => rw [e] at hd; cases hd
      | some j =>
        have := (List.getElem?_eq_some_iff.mp e).1
        rw [List.length_range] at this; exact this
    rw [List.getElem?_range hi] at hd
    cases hd
    exact ⟨B2, rfl, Same.refl B2, c2.dis, rfl⟩⟩
/-- range(a) -/
theorem ei_rg1 (hm : X.mg "range" = none) (h : EE X a env fun d env' => ∃ n : Int, d = I n ∧ -(2 ^ 62) ≤ n ∧ n < 2 ^ 62 ∧ k (rgD 0 n) Still env') (hg : Gl X "range" := by rfl) (hs : starEach [a] X.env = [(false, eval a X.env)] := by rfl) : EI X tg (.Call (.Name "range" p) [a] [] pos) env k :=
  .of (pi_range1 hg hm (pa_cons pe_can pa_nil hs) hs) fun M0 B M σ c R hR => h M0 B M σ c _ fun v H ⟨d, env', B', M', e1, c', sm, r, n, e2, h1, h2, q⟩ => by
    subst e1 e2; cases r
    refine ⟨n, rfl, h1, h2, hR _ _ ⟨_, Still, env', B', M', rfl, c', sm, ?_, q⟩⟩
    have : rgD 0 n = (List.range n.toNat).map fun i => I (0 + (i : Nat)) := by unfold rgD; rw [Int.sub_zero]
    rw [this]
    exact walk_rg
/-- range(a, b) -/
theorem ei_rg2 (hm : X.mg "range" = none) (h : EE X a env fun d env' => EE X b env' fun d2 env2 => ∃ x y : Int, d = I x ∧ d2 = I y ∧ (-(2 ^ 62) ≤ x ∧ x < 2 ^ 62 ∧ -(2 ^ 62) ≤ y ∧ y < 2 ^ 62) ∧ k (rgD x y) Still env2) (hg : Gl X "range" := by rfl) (hs : starEach [a, b] X.env = [(false, eval a X.env), (false, eval b X.env)] := by rfl) (hs2 : starEach [b] X.env = [(false, eval b X.env)] := by rfl) : EI X tg (.Call (.Name "range" p) [a, b] [] pos) env k :=
  .of (pi_range2 hg hm (pa_cons pe_can (pa_cons pe_can pa_nil hs2) (by rw [hs, hs2])) hs hs2) fun M0 B M σ c R hR => h M0 B M σ c _ fun v H ⟨d, env', B', M', e1, c', sm, r, q⟩ => by
    subst e1
    refine q M0 B' M' σ c' _ fun v2 H ⟨d2, env2, B2, M2, e2, c2, s2, r2, x, y, e3, e4, hb, q2⟩ => ?_
    subst e2 e3 e4; cases r; cases r2
    exact ⟨x, y, rfl, hb, hR _ _ ⟨_, Still, env2, B2, M2, rfl, c2, sm.trans s2, walk_rg, q2⟩⟩
/-- the pairs (i, the i-th) -/
def enumD (ds : List D) : List D := ds.zipIdx.map fun p => .wt [I (p.2 : Nat), p.1]
theorem enumD_len (ds : List D) : (enumD ds).length = ds.length := by unfold enumD; rw [List.length_map, List.length_zipIdx]
theorem enumD_at {ds : List D} {i : Nat} {d : D} (h : (enumD ds)[i]? = some d) : ∃ d0, ds[i]? = some d0 ∧ d = .wt [I (i : Nat), d0] := by
  unfold enumD at h
  rw [List.getElem?_map, List.getElem?_zipIdx] at h
  cases e : ds[i]? with
  | none => rw [e] at h; cases h
  | some d0 =>
    rw [e] at h
    refine ⟨d0, rfl, ?_⟩
    have h' := Option.some.inj h
    rw [← h']
    show D.wt [I ((0 + i : Nat) : Nat), d0] = _
    rw [Nat.zero_add]
theorem pair_rp {B2 M2 : Hp} {T : Addr} {i : Nat} {x : V} {d0 : D} (hd : Dis B2 M2) (hT : J B2 M2 T = none) (r : Rp K B2 d0 x) : ∃ B3, upd (J B2 M2) T (.tup [.int (i : Nat), x]) = J B3 M2 ∧ Same B2 B3 ∧ Dis B3 M2 ∧ Rp K B3 (.wt [I (i : Nat), d0]) (.ref T) := by
  obtain ⟨h1, h2⟩ := J_none hT
  refine ⟨_, upd_JB h1, same_new h2, fun a u q => ?_, T, _, rfl, SqT.of upd_same, _, _, rfl, rfl, _, _, rfl, Rp.mono (same_new h2) _ _ r, rfl⟩
  rw [upd_ne (fun z => by rw [z, h1] at q; cases q)]
  exact hd a u q
/-- enumerate(t) of a tuple; of a list that stands; of a list of one's own -/
theorem ei_enumT {elts : List Expr} {kk : Nat} {tpos : Pos} (hm : X.mg "enumerate" = none) (h : EE X e env fun d env' => ∃ ds, d = .tup ds ∧ k (enumD ds) Still env') (hg : Gl X "enumerate" := by rfl) (hs : starEach [e] X.env = [(false, eval e X.env)] := by rfl) : EI X (.Tuple elts kk tpos) (.Call (.Name "enumerate" p) [e] [] pos) env k :=
  .of (pi_enumT hg hm (pa_cons pe_can pa_nil hs) hs) fun M0 B M σ c R hR => h M0 B M σ c _ fun v H ⟨d, env', B', M', e1, c', sm, r, ds, e2, q⟩ => by
  subst e1 e2
  obtain ⟨ad, xs, rfl, hs0, hr⟩ := r
  have hs := hs0.sq
  refine ⟨ad, xs, rfl, sqT_same c'.same hs, hR _ _ ⟨enumD ds, Still, env', B', M', rfl, c', sm, fun M0 env2 B2 M2 σ2 s2 c2 _ => ⟨fun i hi => ?_, ?_, fun i d x H' hd hy => ?_⟩, q⟩⟩
  · rw [enumD_len, ← hr.length] at hi
    exact ⟨xs, xs[i], sqT_same (s2.trans c2.same) hs, List.getElem?_eq_getElem hi⟩
  · exact ⟨xs, sqT_same (s2.trans c2.same) hs, by rw [enumD_len]; exact Nat.le_of_eq hr.length⟩
  · obtain ⟨T, y, rfl, hT, rfl, fx⟩ := hy
    obtain ⟨d0, hd0, rfl⟩ := enumD_at hd
    obtain ⟨v, hv, rv⟩ := (hr.mono s2).get hd0
    rw [fx xs (sqT_same (s2.trans c2.same) hs)] at hv
    cases hv
    exact pair_rp c2.dis hT rv
theorem ei_enumL {elts : List Expr} {kk : Nat} {tpos : Pos} (hm : X.mg "enumerate" = none) (h : EE X e env fun d env' => ∃ ds, d = .lst ds ∧ k (enumD ds) Still env') (hg : Gl X "enumerate" := by rfl) (hs : starEach [e] X.env = [(false, eval e X.env)] := by rfl) : EI X (.Tuple elts kk tpos) (.Call (.Name "enumerate" p) [e] [] pos) env k :=
  .of (pi_enum hg hm (pa_cons pe_can pa_nil hs) hs) fun M0 B M σ c R hR => h M0 B M σ c _ fun v H ⟨d, env', B', M', e1, c', sm, r, ds, e2, q⟩ => by
  subst e1 e2
  obtain ⟨ad, xs, rfl, hs, hr⟩ := r
  refine ⟨ad, xs, rfl, sqL_same c'.same hs, hR _ _ ⟨enumD ds, Still, env', B', M', rfl, c', sm, fun M0 env2 B2 M2 σ2 s2 c2 _ => ⟨fun i hi => ?_, ?_, fun i d x H' hd hy => ?_⟩, q⟩⟩
  · rw [enumD_len, ← hr.length] at hi
    exact ⟨xs, xs[i], sqL_same (s2.trans c2.same) hs, List.getElem?_eq_getElem hi⟩
  · exact ⟨xs, sqL_same (s2.trans c2.same) hs, by rw [enumD_len]; exact Nat.le_of_eq hr.length⟩
  · obtain ⟨T, y, rfl, hT, rfl, fx⟩ := hy
    obtain ⟨d0, hd0, rfl⟩ := enumD_at hd
    obtain ⟨v, hv, rv⟩ := (hr.mono s2).get hd0
    rw [fx xs (sqL_same (s2.trans c2.same) hs)] at hv
    cases hv
    exact pair_rp c2.dis hT rv
theorem ei_enumX (i : Nat) {elts : List Expr} {kk : Nat} {tpos pn : Pos} {ad : Addr} {ds : List D} {x : Str} (hm : X.mg "enumerate" = none) (hi : env[i]? = some (.mu ad (.lst ds))) (q : k (enumD ds) (fun e => e[i]? = some (.mu ad (.lst ds))) env) (hN : X.N[i]? = some x := by rfl) (hv : Vis X.env.scope x := by first | exact Or.inl rfl | exact Or.inr (Or.inl rfl) | exact Or.inr (Or.inr rfl))
    (hd : (x == ("__debug__" : Str)) = false := by decide) (hcd : (x == ("__classdict__" : Str)) = false := by decide) (hg : Gl X "enumerate" := by rfl) (hs : starEach [.Name x pn] X.env = [(false, eval (.Name x pn) X.env)] := by rfl) : EI X (.Tuple elts kk tpos) (.Call (.Name "enumerate" p) [.Name x pn] [] pos) env k :=
  .of (pi_enum hg hm (pa_cons (pe_var hN hv hd hcd) pa_nil hs) hs) fun M0 B M σ c R hR => by
  obtain ⟨s0, hs0, es0, o0, ho0, xs0, rfl, hr0⟩ := c.slot i _ hi
  refine ⟨.ref ad, by rw [hs0, es0], ad, xs0, rfl, SqL.of (J_M ho0), hR _ _ ⟨enumD ds, _, env, B, M, rfl, c, Same.refl B, fun M0 env2 B2 M2 σ2 s2 c2 hi2 => ?_, q⟩⟩
  obtain ⟨s, hs, es, o, ho, xs, rfl, hr⟩ := c2.slot i _ hi2
  refine ⟨fun i hi => ?_, ?_, fun i d x H' hd hy => ?_⟩
  · rw [enumD_len, ← hr.length] at hi
    exact ⟨xs, xs[i], SqL.of (J_M ho), List.getElem?_eq_getElem hi⟩
  · exact ⟨xs, SqL.of (J_M ho), by rw [enumD_len]; exact Nat.le_of_eq hr.length⟩
  · obtain ⟨T, y, rfl, hT, rfl, fx⟩ := hy
    obtain ⟨d0, hd0, rfl⟩ := enumD_at hd
    obtain ⟨v, hv, rv⟩ := hr.get hd0
    rw [fx xs (SqL.of (J_M ho))] at hv
    cases hv
    exact pair_rp c2.dis hT rv
/-- zip(xs, ys) of lists that stand -/
def zipD : List D → List D → List D
  | d :: ds, e :: es => .wt [d, e] :: zipD ds es
  | _, _ => []
theorem zipD_len : ∀ ds es : List D, (zipD ds es).length = min ds.length es.length
  | [], _ => by simp [zipD]
  | _ :: _, [] => by simp [zipD]
  | d :: ds, e :: es => by simp [zipD, zipD_len ds es]
theorem zipD_at : ∀ {ds es : List D} {i : Nat} {d : D}, (zipD ds es)[i]? = some d → ∃ x y, ds[i]? = some x ∧ es[i]? = some y ∧ d = .wt [x, y]
  | [], _, _, _, h => by simp [zipD] at h
  | _ :: _, [], _, _, h => by simp [zipD] at h
  | d :: ds, e :: es, 0, z, h => ⟨d, e, rfl, rfl, (Option.some.inj h).symm⟩
  | d :: ds, e :: es, i + 1, z, h => zipD_at (ds := ds) (es := es) (i := i) h

/-! ### for -/
theorem s_for {body : List Stmt} (h : EI X tg iter env fun ds Gd env1 => ∃ Iv : Nat → Env_ → Prop, Iv 0 env1 ∧ (∀ i e, Iv i e → Gd e) ∧
      (∀ i d e, ds[i]? = some d → Iv i e → EG X tg d e fun e2 => SS X body e2 { nx := Iv (i + 1), rt := k4.rt, bk := k4.nx, ct := Iv (i + 1) }) ∧ ∀ e, Iv ds.length e → k4.nx e)
    (hp : PassesOwn (model X.prog X.w) X.A X.env X.xe := by exact PassesOwn.never) (hc : X.calm = true := by rfl) (hs : ∀ x, foldedSetIterable iter X.env x = pure x := by intro _; rfl) : S1 X (.For tg iter body [] pos) env k4 :=
  .of (ps_for hp hc pi_can pg_can pss_can hs) fun M0 B M σ c Dd h1 h2 h3 h4 => h M0 B M σ c _ fun W H ⟨ds, Gd, env1, B1, M1, e1, c1, s1, wk, Iv, i0, iG, turn, fin⟩ => by
    subst e1
    refine ⟨fun i m σ H => m = ds.length - i ∧ i ≤ ds.length ∧ PostS X.K M0 B1 (Iv i) σ H, ⟨ds.length, by simp, Nat.zero_le _, .now c1 i0⟩, fun i m σ2 H2 hW => ?_⟩
    obtain ⟨rfl, hi, env2, B2, M2, rfl, c2, s2, iv⟩ := hW
    obtain ⟨wgo, wstop, wy⟩ := wk M0 env2 B2 M2 σ2 s2 c2 (iG i env2 iv)
    by_cases hlt : i < ds.length
    · refine .inr ⟨wgo i hlt, fun σ H => PostS X.K M0 B1 (Iv (i + 1)) σ H, fun σ' H' z => ⟨ds.length - (i + 1), by omega, rfl, hlt, z⟩, fun x H' hy => ?_⟩
      have hd : ds[i]? = some ds[i] := List.getElem?_eq_getElem hlt
      obtain ⟨B3, rfl, s3, d3, r3⟩ := wy i _ x H' hd hy
      have c3 := c2.ext s3 d3
      refine turn i _ env2 hd iv M0 B3 M2 σ2 c3 x r3 _ fun σ4 H4 ⟨env4, B4, M4, e4, c4, s4, q4⟩ => ?_
      subst e4
      have s14 : Same B1 B4 := (s2.trans s3).trans s4
      refine q4 M0 B4 M4 σ4 c4 _ (fun σ H p => p.back s14) (fun v H p => h2 v H (p.back (s1.trans s14))) (fun σ H p => h1 σ H (p.back (s1.trans s14))) (fun σ H p => p.back s14)
    · have e : i = ds.length := by omega
      subst e
      exact .inl ⟨wstop, h1 _ _ ⟨env2, B2, M2, rfl, c2, s1.trans s2, fin env2 iv⟩⟩
end

/-! ### comprehensions -/
def wipeE (env : Env_) : List Nat → Env_
  | [] => env
  | v :: vs => (wipeE env vs).set v .un
theorem wipeE_len (env : Env_) : ∀ vs, (wipeE env vs).length = env.length
  | [] => rfl
  | v :: vs => by
    show ((wipeE env vs).set v .un).length = _
    rw [List.length_set, wipeE_len env vs]
theorem wipeE_at {env : Env_} {i : Nat} : ∀ {vs : List Nat} {d : Desc}, (wipeE env vs)[i]? = some d → d = .un ∨ (i ∉ vs ∧ env[i]? = some d)
  | [], d, h => .inr ⟨(by simp), h⟩
  | v :: vs, d, h => by
    rcases get_set h with ⟨e, _⟩ | ⟨hne, e⟩
    · exact .inl e
    · rcases wipeE_at e with e | ⟨e1, e2⟩
      · exact .inl e
      · refine .inr ⟨fun z => ?_, e2⟩
        rcases List.mem_cons.mp z with z | z
        · exact hne z.symm
        · exact e1 z
theorem wipeE_to {env : Env_} {i : Nat} {d : Desc} : ∀ {vs : List Nat}, i ∉ vs → env[i]? = some d → (wipeE env vs)[i]? = some d
  | [], _, h => h
  | v :: vs, hn, h => by
    have h1 : v ≠ i := fun z => hn (z ▸ List.mem_cons_self)
    show ((wipeE env vs).set v .un)[i]? = _
    rw [List.getElem?_set_ne h1]
    exact wipeE_to (fun z => hn (List.mem_cons_of_mem _ z)) h
/-- no thing of one's own stands in these slots -/
def NoMu (env : Env_) (vs : List Nat) : Prop := ∀ v ∈ vs, ∀ a mo, env[v]? ≠ some (.mu a mo)
theorem Conc.wiped {K : PySem.W.Frag} {M0 B M : Hp} {env : Env_} {σ σ' : L2.St} {vs : List Nat} (c : Conc K M0 env B M σ) (hn : NoMu env vs) (hl : σ'.length = σ.length) (hσ : ∀ i, i ∉ vs → σ'[i]? = σ[i]?) : Conc K M0 (wipeE env vs) B M σ' := by
  refine ⟨c.dis, by rw [wipeE_len, hl, c.len], fun i d q => ?_, fun i j a mo mo' q1 q2 => ?_, fun i a mo q => ?_, fun a h => c.frame a fun i mo q => ?_⟩
  · rcases wipeE_at q with e | ⟨e1, e2⟩
    · subst e
      have hi : i < σ'.length := by
        have z := (List.getElem?_eq_some_iff.mp q).1
        rw [wipeE_len] at z
        rw [hl, c.len]; exact z
      exact ⟨σ'[i], List.getElem?_eq_getElem hi, trivial⟩
    · obtain ⟨s, h1, h2⟩ := c.slot i d e2
      exact ⟨s, by rw [hσ i e1]; exact h1, h2⟩
  · rcases wipeE_at q1 with e | ⟨_, e1⟩
    · cases e
    · rcases wipeE_at q2 with e | ⟨_, e2⟩
      · cases e
      · exact c.nd i j a mo mo' e1 e2
  · rcases wipeE_at q with e | ⟨_, e1⟩
    · cases e
    · exact c.fresh i a mo e1
  · by_cases hi : i ∈ vs
    · exact hn i hi a mo q
    · exact h i mo (wipeE_to hi q)
theorem wipe_len (σ : L2.St) : ∀ vs, (wipe σ vs).length = σ.length
  | [] => rfl
  | v :: vs => by
    show ((wipe σ vs).set v none).length = _
    rw [List.length_set, wipe_len σ vs]
theorem wipe_at {σ : L2.St} {i : Nat} : ∀ {vs : List Nat}, i ∉ vs → (wipe σ vs)[i]? = σ[i]?
  | [], _ => rfl
  | v :: vs, hn => by
    have h1 : v ≠ i := fun z => hn (z ▸ List.mem_cons_self)
    show ((wipe σ vs).set v none)[i]? = _
    rw [List.getElem?_set_ne h1]
    exact wipe_at (fun z => hn (List.mem_cons_of_mem _ z))
theorem Conc.rehide {K : PySem.W.Frag} {M0 B M : Hp} {env : Env_} {σ : L2.St} {p : Addr} {o o' : HO} (c : Conc K (upd M0 p o) env B M σ) : Conc K (upd M0 p o') env B (upd M p o') σ := by
  obtain ⟨c1, e1⟩ := c.shown upd_same
  have hb := (c.at0 (p := p) (o := o) upd_same).2
  have c2 := c1.hide (o := o') del_same hb
  have e2 : upd (del (upd M0 p o) p) p o' = upd M0 p o' := by
    funext b
    by_cases h : b = p
    · rw [h, upd_same, upd_same]
    · rw [upd_ne h, upd_ne h, del_ne h, upd_ne h]
  have e3 : upd (del M p) p o' = upd M p o' := by
    funext b
    by_cases h : b = p
    · rw [h, upd_same, upd_same]
    · rw [upd_ne h, upd_ne h, del_ne h]
  rw [e2, e3] at c2
  exact c2
/-- a target in a block: it stores within vs -/
def LGw (K : PySem.W.Frag) (t : TG) (vs : List Nat) (d : D) (env : Env_) (k : Env_ → Prop) : Prop := ∀ (M0 B M : Hp) (σ : L2.St), Conc K M0 env B M σ → ∀ v, Rp K B d v → ∀ Q : L2.St → Hp → Prop, (∀ σ' H, PostS K M0 B k σ' H → wipe σ' vs = wipe σ vs → Q σ' H) → t v σ (J B M) Q
section
variable {X : Cx} {scope : Scope}
/-- in every block of that scope -/
abbrev Blk (X : Cx) (scope : Scope) (P : Cx → Prop) : Prop := ∀ (s : Shared) (H : Hp) (C : Addr) (cl : List (Str × Addr)) (fp : List Addr), P (X.blk s H scope (compEnvC scope cl C X.env) fp)
def canEb (X : Cx) (scope : Scope) (e : Expr) : TE := fun σ h Q => Blk X scope fun Y => canE Y e σ h Q
def canTb (X : Cx) (scope : Scope) (ifs : List Expr) : TT := fun σ h Q => Blk X scope fun Y => ∀ pins s, Inv Y pins σ h s → wpAny (model Y.prog Y.w) Y.A (forIn ifs true fun c r => if r = true then do let ok ← isTrue c Y.env (eval c Y.env); pure (ForInStep.yield ok) else pure (ForInStep.yield r)) (TP Y pins σ Q) Y.xe s
def canGb (X : Cx) (scope : Scope) (tg : Expr) : TG := fun v σ h Q => Blk X scope fun Y => canG Y tg v σ h Q
def EEb (X : Cx) (scope : Scope) (e : Expr) (env : Env_) (k : D → Env_ → Prop) : Prop := LE X.K (canEb X scope e) env k
def EBb (X : Cx) (scope : Scope) (ifs : List Expr) (env : Env_) (k : Bool → Env_ → Prop) : Prop := LB X.K (canTb X scope ifs) env k
def EGb (X : Cx) (scope : Scope) (tg : Expr) (vs : List Nat) (d : D) (env : Env_) (k : Env_ → Prop) : Prop := LGw X.K (canGb X scope tg) vs d env k
variable {e c tg iter elt : Expr} {ifs : List Expr} {env : Env_} {k : D → Env_ → Prop} {kb : Bool → Env_ → Prop} {kg : Env_ → Prop} {km : MO → Env_ → Prop} {vs : List Nat} {pos : Pos}
theorem eeb (h : Blk X scope fun Y => EE Y e env k) : EEb X scope e env k := fun M0 B M σ c Q hQ s H C cl fp => h s H C cl fp M0 B M σ c Q hQ
theorem ebb_nil (q : kb true env) : EBb X scope [] env kb := fun M0 B M σ c Q hQ s H C cl fp pins s' I => pts_nil.run pins s' σ _ Q I (hQ _ _ (.now c q))
theorem ebb_one (h : Blk X scope fun Y => EB Y c env kb) : EBb X scope [c] env kb := fun M0 B M σ cc Q hQ s H C cl fp pins s' I => (pts_one pt_can).run pins s' σ _ Q I (h s H C cl fp M0 B M σ cc Q hQ)
theorem wipe_set {σ : L2.St} {j : Nat} {x : Option V} : ∀ {vs : List Nat}, j ∈ vs → wipe (σ.set j x) vs = wipe σ vs := by
  intro vs hj
  refine List.ext_getElem? fun i => ?_
  by_cases hi : i ∈ vs
  · have hn : ∀ (τ : L2.St) (us : List Nat), i ∈ us → i < τ.length → (wipe τ us)[i]? = some none := by
      intro τ us
      induction us with
      | nil => intro h; cases h
      | cons u r ih =>
        intro h hl
        show ((wipe τ r).set u none)[i]? = _
        by_cases hu : u = i
        · rw [hu, List.getElem?_set_self (by rw [wipe_len]; exact hl)]
        · rw [List.getElem?_set_ne hu]
          rcases List.mem_cons.mp h with z | z
          · exact (hu z.symm).elim
          · exact ih z hl
    by_cases hl : i < σ.length
    · rw [hn _ _ hi (by rw [List.length_set]; exact hl), hn _ _ hi hl]
    · rw [List.getElem?_eq_none (by rw [wipe_len, List.length_set]; omega), List.getElem?_eq_none (by rw [wipe_len]; omega)]
  · have hne : j ≠ i := fun z => hi (by rw [← z]; exact hj)
    rw [wipe_at hi, wipe_at hi, List.getElem?_set_ne hne]
theorem egb_name (j : Nat) {d : D} {x : Str} (hj : j ∈ vs) (hmu : ∀ (a : Addr) (mo : MO), env[j]? ≠ some (.mu a mo)) (q : kg (env.set j (.dat d))) (h : Blk X scope fun Y => PG Y (.Name x pos) (gName j)) : EGb X scope (.Name x pos) vs d env kg := fun M0 B M σ c v r Q hQ s H C cl fp pins s' u I ru =>
  (h s H C cl fp).run pins s' σ _ v u Q I ru (hQ _ _ ⟨_, B, M, rfl, c.setU hmu r, Same.refl B, q⟩ (wipe_set hj))
theorem egb_two (i j : Nat) {d1 d2 : D} {x y : Str} {kk : Nat} {p1 p2 : Pos} (hi : i ∈ vs) (hj : j ∈ vs) (hmi : ∀ (a : Addr) (mo : MO), env[i]? ≠ some (.mu a mo)) (hmj : ∀ (a : Addr) (mo : MO), env[j]? ≠ some (.mu a mo)) (hij : i ≠ j) (q : kg ((env.set i (.dat d1)).set j (.dat d2))) {w : D} (hw : w = .tup [d1, d2] ∨ w = .wt [d1, d2])
    (h : Blk X scope fun Y => PG Y (.Tuple [.Name x p1, .Name y p2] kk pos) (gTup Y.K 2 (gCons (gName i) (gCons (gName j) gNil)))) : EGb X scope (.Tuple [.Name x p1, .Name y p2] kk pos) vs w env kg := fun M0 B M σ c v r Q hQ s H C cl fp pins s' u I ru => by
  have hr : ∃ a xs, v = .ref a ∧ SqT X.K B a xs ∧ RpA X.K B [d1, d2] xs := by
    rcases hw with rfl | rfl
    · obtain ⟨a, xs, e1, h1, h2⟩ := r
      exact ⟨a, xs, e1, h1.sq, h2⟩
    · exact r
  obtain ⟨a, xs, rfl, hs, v1, r1, rfl, rv1, v2, r2, rfl, rv2, rfl⟩ := hr
  refine (h s H C cl fp).run pins s' σ _ _ u Q I ru ⟨a, [v1, v2], rfl, sqT_same c.same hs, rfl, v1, [v2], rfl, v2, [], rfl, rfl, hQ _ _ ⟨_, B, M, rfl, (c.setU hmi rv1).setU (fun b mo z => ?_) rv2, Same.refl B, q⟩ ?_⟩
  · rcases get_set z with ⟨e, _⟩ | ⟨_, e⟩
    · cases e
    · exact hmj b mo e
  · rw [wipe_set hj, wipe_set hi]
/-- the sense of [elt for tg in iter if ..] -/
def ELC (X : Cx) (scope : Scope) (elt tg iter : Expr) (ifs : List Expr) (vs : List Nat) (env : Env_) (km : MO → Env_ → Prop) : Prop := LM X.K (tLc (canI X tg iter) (canGb X scope tg) (canTb X scope ifs) (canEb X scope elt) vs) env km
theorem elc {own : List (Str × Nat)}
    (h : EI X tg iter env fun ds Gd env1 => NoMu env1 (own.map (·.2)) ∧ ∃ Iv : Nat → List D → Env_ → Prop, Iv 0 [] (wipeE env1 (own.map (·.2))) ∧ (∀ i acc e, Iv i acc e → Gd e ∧ acc.length ≤ i ∧ NoMu e (own.map (·.2))) ∧ ds.length ≤ 1000000 ∧
      (∀ i d acc e2, ds[i]? = some d → Iv i acc e2 → EGb X scope tg (own.map (·.2)) d e2 fun e3 => EBb X scope ifs e3 fun b e4 =>
        (b = true → EEb X scope elt e4 fun x e5 => NoMu e5 (own.map (·.2)) ∧ Iv (i + 1) (acc ++ [x]) (wipeE e5 (own.map (·.2)))) ∧ (b = false → NoMu e4 (own.map (·.2)) ∧ Iv (i + 1) acc (wipeE e4 (own.map (·.2))))) ∧
      ∀ acc e, Iv ds.length acc e → km (.lst acc) (wipeE e (own.map (·.2)))) : ELC X scope elt tg iter ifs (own.map (·.2)) env km :=
  fun M0 B M σ c Q hQ => h M0 B M σ c _ fun W H ⟨ds, Gd, env1, B1, M1, e1, c1, s1, wk, nm, Iv, i0, iG, hdl, turn, fin⟩ => by
    subst e1
    intro Da hDa
    obtain ⟨n1, n2⟩ := J_none hDa
    let vs := own.map (·.2)
    have cw : Conc X.K M0 (wipeE env1 vs) B1 M1 (wipe σ vs) := c1.wiped nm (wipe_len σ vs) fun i hi => wipe_at hi
    refine ⟨fun i m H => m = ds.length - i ∧ i ≤ ds.length ∧ ∃ acc xs e2 B2 M2, H = J B2 M2 ∧ Conc X.K (upd M0 Da (.lst xs)) e2 B2 M2 (wipe σ vs) ∧ Same B1 B2 ∧ RpA X.K B2 acc xs ∧ Iv i acc e2, ⟨ds.length, by simp, Nat.zero_le _, [], [], _, B1, upd M1 Da (.lst []), upd_JM, cw.hide n1 n2, Same.refl B1, rfl, i0⟩, fun i m H hW => ?_⟩
    obtain ⟨rfl, hi, acc, xs, e2, B2, M2, rfl, c2, s2, r2, iv⟩ := hW
    obtain ⟨gd, hacc, nm2⟩ := iG i acc e2 iv
    obtain ⟨wgo, wstop, wy⟩ := wk _ e2 B2 M2 (wipe σ vs) s2 c2 gd
    have hM0 : M0 Da = none := by
      rw [← c1.frame Da fun j mo z => ?_]
      · exact n1
      · obtain ⟨s, _, _, u, hu, _⟩ := c1.slot j _ z
        rw [n1] at hu; cases hu
    by_cases hlt : i < ds.length
    · refine .inr ⟨wgo i hlt, fun H => ∃ acc xs e2 B2 M2, H = J B2 M2 ∧ Conc X.K (upd M0 Da (.lst xs)) e2 B2 M2 (wipe σ vs) ∧ Same B1 B2 ∧ RpA X.K B2 acc xs ∧ Iv (i + 1) acc e2, fun H' z => ⟨ds.length - (i + 1), by omega, rfl, hlt, z⟩, fun x H' hy => ?_⟩
      have hd : ds[i]? = some ds[i] := List.getElem?_eq_getElem hlt
      obtain ⟨B3, rfl, s3, d3, r3⟩ := wy i _ x H' hd hy
      have c3 := c2.ext s3 d3
      refine turn i _ acc e2 hd iv _ B3 M2 (wipe σ vs) c3 x r3 _ fun σ4 H4 ⟨e4, B4, M4, ee4, c4, s4, q4⟩ hw => ?_
      subst ee4
      have hww : wipe σ4 vs = wipe σ vs := by
        rw [hw]
        refine List.ext_getElem? fun j => ?_
        by_cases hj : j ∈ vs
        · have hn : ∀ (τ : L2.St) (us : List Nat), j ∈ us → j < τ.length → (wipe τ us)[j]? = some none := by
            intro τ us
            induction us with
            | nil => intro h; cases h
            | cons u r ih =>
              intro h hl
              show ((wipe τ r).set u none)[j]? = _
              by_cases hu : u = j
              · rw [hu, List.getElem?_set_self (by rw [wipe_len]; exact hl)]
              · rw [List.getElem?_set_ne hu]
                rcases List.mem_cons.mp h with z | z
                · exact (hu z.symm).elim
                · exact ih z hl
          by_cases hl : j < σ.length
          · rw [hn _ _ hj (by rw [wipe_len]; exact hl), hn _ _ hj hl]
          · rw [List.getElem?_eq_none (by rw [wipe_len, wipe_len]; omega), List.getElem?_eq_none (by rw [wipe_len]; omega)]
        · rw [wipe_at hj]
      have lenσ : ∀ {e : Env_} {B M M0 : Hp}, Conc X.K M0 e B M σ4 → e.length = e2.length → (wipe σ vs).length = σ4.length := fun {e B M M0} cc hl => by
        rw [cc.len, hl, ← c2.len]
      have lenw : (wipe σ vs).length = σ4.length := by rw [← hww, wipe_len]
      have atw : ∀ j, j ∉ vs → (wipe σ vs)[j]? = σ4[j]? := fun j hj => by rw [← hww, wipe_at hj]
      refine ⟨hww, q4 _ B4 M4 σ4 c4 _ fun b H5 ⟨e5, B5, M5, ee5, c5, s5, qt, qf⟩ => ?_⟩
      subst ee5
      cases b with
      | true =>
        rw [if_pos rfl]
        refine qt rfl _ B5 M5 σ4 c5 _ fun y H6 ⟨d6, e6, B6, M6, ee6, c6, s6, r6, nm6, iv6⟩ => ?_
        subst ee6
        have hD6 := (c6.at0 (p := Da) (o := .lst xs) upd_same)
        have s36 : Same B3 B6 := (s4.trans s5).trans s6
        refine ⟨xs, J_M hD6.1, by rw [r2.length, sizeLine_eq]; omega, acc ++ [d6], xs ++ [y], _, B6, _, upd_JM, (c6.wiped nm6 lenw atw).rehide, s2.trans (s3.trans s36), ?_, iv6⟩
        exact (r2.mono (s3.trans s36)).append ⟨y, [], rfl, r6, rfl⟩
      | false =>
        rw [if_neg Bool.false_ne_true]
        obtain ⟨nm5, iv5⟩ := qf rfl
        have s35 : Same B3 B5 := s4.trans s5
        exact ⟨acc, xs, _, B5, M5, rfl, c5.wiped nm5 lenw atw, s2.trans (s3.trans s35), r2.mono (s3.trans s35), iv5⟩
    · have e : i = ds.length := by omega
      subst e
      refine .inl ⟨wstop, hQ _ _ ?_⟩
      have hD2 := (c2.at0 (p := Da) (o := .lst xs) upd_same)
      obtain ⟨c7, e7⟩ := c2.shown (p := Da) (o := .lst xs) upd_same
      have e8 : del (upd M0 Da (.lst xs)) Da = M0 := del_upd hM0
      rw [e8] at c7
      refine ⟨Da, .lst acc, .lst xs, _, B2, del M2 Da, rfl, by rw [← e7], del_same, hD2.2, c7.wiped (σ' := σ) nm2 (by rw [wipe_len]) fun j hj => (wipe_at hj).symm, s1.trans s2, ⟨xs, rfl, r2⟩, fin acc e2 iv⟩
/-- [elt for tg in iter if ..] -/
theorem em_ofLc {own : List (Str × Nat)} (ok : BlkOk X.N X.env.scope scope own) (hN : X.N.Nodup) (h : ELC X scope elt tg iter ifs (own.map (·.2)) env km)
    (hc : X.calm = true := by rfl) (hs : ∀ x, foldedSetIterable iter X.env x = pure x := by intro _; rfl) : EM X (.ListComp elt [⟨tg, iter, ifs, 0⟩] scope pos) env km :=
  .of (pe_lc (own := own) (g := canGb X scope tg) (tt := canTb X scope ifs) (te := canEb X scope elt) hc hN pi_can ok (fun s H C cl fp => ⟨fun pins s' σ H' v u Q I ru z => z s H C cl fp pins s' u I ru⟩) (fun s H C cl fp => ⟨fun pins s' σ H' Q I z => z s H C cl fp pins s' I⟩) (fun s H C cl fp => ⟨fun pins s' σ H' Q I z => z s H C cl fp pins s' I⟩) hs) h
theorem em_lc {own : List (Str × Nat)} (ok : BlkOk X.N X.env.scope scope own) (hN : X.N.Nodup)
    (h : EI X tg iter env fun ds Gd env1 => NoMu env1 (own.map (·.2)) ∧ ∃ Iv : Nat → List D → Env_ → Prop, Iv 0 [] (wipeE env1 (own.map (·.2))) ∧ (∀ i acc e, Iv i acc e → Gd e ∧ acc.length ≤ i ∧ NoMu e (own.map (·.2))) ∧ ds.length ≤ 1000000 ∧
      (∀ i d acc e2, ds[i]? = some d → Iv i acc e2 → EGb X scope tg (own.map (·.2)) d e2 fun e3 => EBb X scope ifs e3 fun b e4 =>
        (b = true → EEb X scope elt e4 fun x e5 => NoMu e5 (own.map (·.2)) ∧ Iv (i + 1) (acc ++ [x]) (wipeE e5 (own.map (·.2)))) ∧ (b = false → NoMu e4 (own.map (·.2)) ∧ Iv (i + 1) acc (wipeE e4 (own.map (·.2))))) ∧
      ∀ acc e, Iv ds.length acc e → km (.lst acc) (wipeE e (own.map (·.2))))
    (hc : X.calm = true := by rfl) (hs : ∀ x, foldedSetIterable iter X.env x = pure x := by intro _; rfl) : EM X (.ListComp elt [⟨tg, iter, ifs, 0⟩] scope pos) env km := em_ofLc ok hN (elc h) hc hs
/-- name = [elt for ..], name a plain local -/
theorem s_setLc (i : Nat) {own : List (Str × Nat)} {y : Str} {py spos : Pos} {k4 : K4} (ok : BlkOk X.N X.env.scope scope own) (hN : X.N.Nodup) (h : ELC X scope elt tg iter ifs (own.map (·.2)) env fun mo env' => i < env'.length ∧ ∀ p, k4.nx (env'.set i (.mu p mo)))
    (hi : X.N[i]? = some y := by rfl) (hyl : X.env.scope.names.lookup y = some .local := by rfl) (hsw : swapsWith (.ListComp elt [⟨tg, iter, ifs, 0⟩] scope pos) (some (.Name y py)) spos.line X.env = pure true := by rfl)
    (hc : X.calm = true := by rfl) (hs : ∀ x, foldedSetIterable iter X.env x = pure x := by intro _; rfl) : S1 X (.Assign [.Name y py] (.ListComp elt [⟨tg, iter, ifs, 0⟩] scope pos) spos) env k4 :=
  .of (ps_setLc (own := own) (i := i) (g := canGb X scope tg) (tt := canTb X scope ifs) (te := canEb X scope elt) hc hN hi hyl hsw pi_can ok (fun s H C cl fp => ⟨fun pins s' σ H' v u Q I ru z => z s H C cl fp pins s' u I ru⟩) (fun s H C cl fp => ⟨fun pins s' σ H' Q I z => z s H C cl fp pins s' I⟩) (fun s H C cl fp => ⟨fun pins s' σ H' Q I z => z s H C cl fp pins s' I⟩) hs) fun M0 B M σ c Dd h1 h2 h3 h4 =>
  h M0 B M σ c _ fun v H ⟨p, mo, o, env', B', M', e0, e1, n1, n2, c', sm, r, hl, q⟩ => by
    subst e0 e1
    obtain ⟨B2, M2, e2, s2, c2⟩ := c'.setM i n1 n2 r hl
    exact h1 _ _ ⟨_, B2, M2, e2.symm, c2, sm.trans s2, q p⟩
end
end Sy
namespace Sy
open PySem PySem.Spec PyProof.Rows L2
/-- the law: it takes the script and answers True -/
def fLawT : FSp := fun ds q => ∃ ns : List Int, ds = [.lst (ns.map I)] ∧ ns.length ≤ 63 ∧ q (.d (Bl true))
theorem rpA_ints {K : PySem.W.Frag} {B : Hp} : ∀ ns : List Int, RpA K B (ns.map I) (ns.map V.int)
  | [] => rfl
  | n :: ns => ⟨_, _, rfl, rfl, rpA_ints ns⟩
theorem law_start {K : PySem.W.Frag} {H : Hp} {a : Addr} {ns : List Int} {E : XK} (hl : ns.length ≤ 63) (hS : SqL K H a (ns.map V.int)) (_ : True = True) : spF K fLawT [.ref a] H (fun v _ => v = .bl true) E := by
  refine ⟨H, fun _ => none, [.lst (ns.map I)], fun r => r = .d (Bl true), ?_, ?_, ⟨_, _, rfl, ⟨a, _, rfl, hS, rpA_ints ns⟩, rfl⟩, ⟨ns, rfl, hl, rfl⟩, fun r hr => ?_⟩
  · funext b
    rfl
  · intro a o h
    cases h
  · subst hr
    intro v B' _ _ h
    exact h
section
variable {X : Cx} {K : PySem.W.Frag} {e a b c tg iter elt : Expr} {es rest ifs : List Expr} {env : Env_} {k : D → Env_ → Prop} {kb : Bool → Env_ → Prop} {km : MO → Env_ → Prop} {kl : List D → Env_ → Prop} {ki : List D → (Env_ → Prop) → Env_ → Prop} {k4 : K4} {pos p : Pos} {scope : Scope}
variable {M0 B B1 M : Hp} {σ : L2.St}
theorem LE.can (h : EE X e env k) : LE X.K (canE X e) env k := h
/-! ### list + list, list * int -/
def rCatL (K : PySem.W.Frag) : R2 := fun x y H Q => ∃ l b xs zs, x = .ref l ∧ y = .ref b ∧ SqL K H l xs ∧ SqL K H b zs ∧ xs.length + zs.length ≤ sizeLine ∧ ∀ p, H p = none → Q (.ref p) (upd H p (.lst (xs ++ zs)))
theorem op_catL : OpR X (binaryOp .Add) (rCatL X.K) := by
  intro pins s σ H x y v u Q I rx ry h
  obtain ⟨l, b, xs, zs, rfl, rfl, hH, hB, hz, q⟩ := h
  cases rx
  cases ry
  obtain ⟨its, r, pl, _⟩ := I.list hH
  obtain ⟨its2, r2, pl2, _⟩ := I.list hB
  obtain ⟨⟨cls, dd, data, sl⟩, n, ho, hc, hdd, hd⟩ := pl
  obtain ⟨⟨cls2, dd2, data2, sl2⟩, n2, ho2, hc2, hdd2, hd2⟩ := pl2
  simp only at hc hd hc2 hd2 hdd hdd2
  subst hc hd hc2 hd2 hdd hdd2
  have ea : its.toArray ++ its2.toArray = (its ++ its2).toArray := by simp
  refine concat_meets ⟨_, ho, rfl⟩ ⟨_, ho2, rfl⟩ noFill_list_add seq_list_add PySem.F.slot_list_add PySem.F.entry_list_add (PySem.F.args_list_add_2 _ _) (list_addW l b its.toArray its2.toArray n n2 none none sl sl2 (by have := r.length; have := r2.length; simp; omega)) ⟨ho, ho2, ?_⟩
  rw [ea]
  exact ⟨.ref _, _, I.lnew (t' := s.toks) (r.append r2) (by rw [List.length_append]; omega), rfl, q _ I.fresh⟩
theorem em_cat (h : EE X a env fun d1 env1 => EE X b env1 fun d2 env2 => ∃ ds es, d1 = .lst ds ∧ d2 = .lst es ∧ ds.length + es.length ≤ 1000000 ∧ km (.lst (ds ++ es)) env2) : EM X (.BinOp a .Add b pos) env km :=
  .of (pe_op op_catL pe_can pe_can) fun M0 B M σ c Q hQ => h M0 B M σ c _ fun v H ⟨d1, env1, B1, M1, e1, c1, s1, r1, q1⟩ => by
    subst e1
    refine q1 M0 B1 M1 σ c1 _ fun v2 H2 ⟨d2, env2, B2, M2, e2, c2, s2, r2, ds, es, e3, e4, hl, q⟩ => ?_
    subst e2 e3 e4
    obtain ⟨a1, xs, rfl, hs1, hr1⟩ := Rp.mono s2 _ _ r1
    obtain ⟨a2, ys, rfl, hs2, hr2⟩ := r2
    exact ⟨a1, a2, xs, ys, rfl, rfl, sqL_same c2.same hs1, sqL_same c2.same hs2, by rw [hr1.length, hr2.length, sizeLine_eq]; omega, fun p hp => hQ _ _ ((PostM.newL c2 hp (hr1.append hr2) q).back (s1.trans s2))⟩
/-- x + b, x a list of one's own in slot i -/
theorem em_catX (i : Nat) {x : Str} {pn : Pos} {ad : Addr} {mo0 : MO} (hi0 : env[i]? = some (.mu ad mo0)) (h : EE X b env fun d2 env2 => ∃ ds es, env2[i]? = some (.mu ad (.lst ds)) ∧ d2 = .lst es ∧ ds.length + es.length ≤ 1000000 ∧ km (.lst (ds ++ es)) env2)
    (hN : X.N[i]? = some x := by rfl) (hv : Vis X.env.scope x := by first | exact Or.inl rfl | exact Or.inr (Or.inl rfl) | exact Or.inr (Or.inr rfl)) (hd : (x == ("__debug__" : Str)) = false := by decide) (hcd : (x == ("__classdict__" : Str)) = false := by decide) : EM X (.BinOp (.Name x pn) .Add b pos) env km :=
  .of (pe_op op_catL (pe_var hN hv hd hcd) pe_can) fun M0 B M σ c Q hQ => by
    obtain ⟨s0, hs0, es0, o0, ho0, hr0⟩ := c.slot i _ hi0
    refine ⟨.ref ad, by rw [hs0, es0], h M0 B M σ c _ fun v2 H ⟨d2, env2, B2, M2, e2, c2, s2, r2, ds, es, hi2, e3, hl, q2⟩ => ?_⟩
    subst e2 e3
    obtain ⟨s1, hs1, es1, o1, ho1, xs, rfl, hr⟩ := c2.slot i _ hi2
    obtain ⟨a2, ys, rfl, hs2, hr2⟩ := r2
    exact ⟨ad, a2, xs, ys, rfl, rfl, SqL.of (J_M ho1), sqL_same c2.same hs2, by rw [hr.length, hr2.length, sizeLine_eq]; omega, fun p hp => hQ _ _ ((PostM.newL c2 hp (hr.append hr2) q2).back s2)⟩
def rRepL (K : PySem.W.Frag) : R2 := fun x y H Q => ∃ l k xs, x = .ref l ∧ y = .int k ∧ SqL K H l xs ∧ -(2 ^ 63) ≤ k ∧ k < 2 ^ 63 ∧ xs.length * k.toNat ≤ sizeLine ∧
  ∀ p, H p = none → Q (.ref p) (upd H p (.lst (List.replicate k.toNat xs).flatten))
theorem RpA.flat {B : Hp} {ds : List D} {xs : List V} (r : RpA K B ds xs) : ∀ n : Nat, RpA K B (List.replicate n ds).flatten (List.replicate n xs).flatten
  | 0 => rfl
  | n + 1 => by
    rw [List.replicate_succ, List.replicate_succ, List.flatten_cons, List.flatten_cons]
    exact r.append (RpA.flat r n)
/-- [..] * n -/
theorem em_rep (h : EM X a env fun mo env1 => ∃ ds, mo = .lst ds ∧ EE X b env1 fun d2 env2 => ∃ k : Int, d2 = I k ∧ -(2 ^ 63) ≤ k ∧ k < 2 ^ 63 ∧ ds.length * k.toNat ≤ 1000000 ∧ km (.lst (List.replicate k.toNat ds).flatten) env2) : EM X (.BinOp a .Mult b pos) env km :=
  .of (pe_op op_rep pe_can pe_can) fun M0 B M σ c Q hQ => h M0 B M σ c _ fun v H ⟨ad, mo, o, env1, B1, M1, e0, e1, n1, n2, c1, s1, r1, ds, e5, q1⟩ => by
    subst e0 e1 e5
    obtain ⟨xs, rfl, hr⟩ := r1
    have e2 : upd (J B1 M1) ad (.lst xs) = J (upd B1 ad (.lst xs)) M1 := by rw [upd_JB n1]
    have s12 : Same B1 (upd B1 ad (.lst xs)) := same_new n2
    have c2 : Conc X.K M0 env1 (upd B1 ad (.lst xs)) M1 σ := c1.ext s12 fun a u q => by
      rw [upd_ne (fun z => by rw [z, n1] at q; cases q)]
      exact c1.dis a u q
    rw [← upd_JM, e2]
    refine q1 M0 _ M1 σ c2 _ fun v2 H2 ⟨d2, env2, B3, M3, e3, c3, s3, r3, k, e4, h1, h2, hl, q⟩ => ?_
    subst e3 e4; cases r3
    have hB : J B3 M3 ad = some (.lst xs) := by
      have : B3 ad = some (.lst xs) := s3 _ _ upd_same
      exact c3.same _ _ this
    refine ⟨ad, k, xs, rfl, rfl, hB, h1, h2, by rw [hr.length, sizeLine_eq]; omega, fun p hp => hQ _ _ ((PostM.newL c3 hp ((hr.mono (s12.trans s3)).flat _) q).back ((s1.trans s12).trans s3))⟩
/-- c ? a : b, things of one's own -/
theorem em_if (h : EB X c env fun x env' => (x = true → EM X a env' km) ∧ (x = false → EM X b env' km)) : EM X (.IfExp c a b pos) env km := .of (pe_ifExp pt_can pe_can pe_can) fun M0 B M σ cc Q hQ => h M0 B M σ cc _ fun x H p => by
  obtain ⟨env', B', M', rfl, c', sm, q1, q2⟩ := p
  cases x with
  | true =>
    rw [if_pos rfl]
    exact q1 rfl M0 B' M' σ c' _ fun v H p => hQ v H (p.back sm)
  | false =>
    rw [if_neg (by decide)]
    exact q2 rfl M0 B' M' σ c' _ fun v H p => hQ v H (p.back sm)
/-- tuple(t) of a tuple: itself -/
theorem ee_tupleT (hm : X.mg "tuple" = none) (h : EE X e env fun d env' => ∃ ds, d = .tup ds ∧ k (.tup ds) env') (hg : Gl X "tuple" := by rfl) (he : starEach (e :: []) X.env = (false, eval e X.env) :: starEach [] X.env := by rfl) (hpl : (backTo pos (starEach [] X.env)).any (·.1) = false := by rfl) : EE X (.Call (.Name "tuple" p) [e] [] pos) env k :=
  .of (pe_callTy call_tupleS hg hm (by decide +kernel) (pa_cons pe_can pa_nil he) (by decide) (by decide) he hpl) fun M0 B M σ c Q hQ => h M0 B M σ c _ fun v H ⟨d, env', B', M', e1, c', sm, r, ds, e2, q⟩ => by
    subst e1 e2
    obtain ⟨ad, xs, rfl, hs, hr⟩ := r
    exact ⟨ad, xs, rfl, .inr ⟨sqT_same c'.same hs.sq, hQ _ _ ((PostD.now (d := .tup ds) c' ⟨ad, xs, rfl, hs, hr⟩ q).back sm)⟩⟩
/-! ### tuple(range(..)) -/
def rgS (lo c : Int) (n : Nat) : List D := (List.range n).map fun i => I (lo + (i : Nat) * c)
def rgSV (lo c : Int) (n : Nat) : List V := (List.range n).map fun i => V.int (lo + (i : Nat) * c)
theorem rgS_rp {B : Hp} {lo c : Int} {n : Nat} : RpA K B (rgS lo c n) (rgSV lo c n) := by
  have e : rgS lo c n = (rgSV lo c n).map D.v := by
    unfold rgS rgSV
    rw [List.map_map]
    rfl
  rw [e]
  exact RpA.atoms
theorem vals_rgS {lo c : Int} {n : Nat} {acc : Array Value} (h : ItemsOf (fun i v => ∃ t, v = .int (lo + i * c) t) acc n) : Vals (rgSV lo c n) acc.toList := by
  have e : acc.toList.length = n := by rw [Array.length_toList]; exact h.1
  unfold rgSV
  rw [← e]
  refine vals_of_get acc.toList _ fun j u hj => ?_
  obtain ⟨t, rfl⟩ := h.2 j u (by rw [← hj, Array.getElem?_toList])
  exact ⟨t, rfl⟩
def tTupC (ta : TA) : TE := fun σ H Q => ta σ H fun vs H1 => ∃ (i j c : Int) (n : Nat), vs = [.int i, .int j, .int c] ∧ RgC i j c n ∧ n ≤ 1000000 ∧ NewT Q H1 (rgSV i c n)
theorem pe_tupC {a b c : Expr} {ta : TA} {p pos p2 pos2 : Pos} (hc : X.calm = true) (hg : Gl X "tuple") (hm : X.mg "tuple" = none) (hg2 : Gl X "range") (hm2 : X.mg "range" = none) (ha : PA X [a, b, c] ta)
    (hs : starEach [a, b, c] X.env = (false, eval a X.env) :: starEach [b, c] X.env) (hpl : (backTo pos2 (starEach [b, c] X.env)).any (·.1) = false)
    (na : starEach [.Call (.Name "range" p2) [a, b, c] [] pos2] X.env = (false, eval (.Call (.Name "range" p2) [a, b, c] [] pos2) X.env) :: starEach [] X.env) : PE X (.Call (.Name "tuple" p) [.Call (.Name "range" p2) [a, b, c] [] pos2] [] pos) (tTupC ta) := by
  refine ⟨fun pins s σ H Q I h => ?_⟩
  refine Call_ (ld_blt I hg hm boot_tuple (PyProof.Rows.callWith_type1 (args_cons ?_ na) na))
  refine Call_ (ld_blt I hg2 hm2 boot_range (PyProof.Rows.callWith_type1 (thn (ha.run pos2 pins s σ H _ I h) fun us s1 ⟨vs, H1, I1, r1, q1⟩ => ?_) hs hpl))
  obtain ⟨i, j, k, n, e, ⟨c0, c1, c2, c3⟩, hn, q⟩ := q1
  subst e
  cases r1 with
  | cons r rr =>
    cases rr with
    | cons r' rr =>
      cases rr with
      | cons r'' rr =>
        cases rr
        obtain ⟨t, rfl⟩ := r
        obtain ⟨t', rfl⟩ := r'
        obtain ⟨t'', rfl⟩ := r''
        refine call_range_3 c0 ?_ (.inl (PyProof.noPylong_small c1))
        refine args_nil ?_
        have I2 : Inv X pins σ H1 { s1 with heap := s1.heap.push { cls := .type "range", data := .fields #[.int i t, .int j t', .int k t''] } } := I1.kept (t' := s1.toks) fun b o e => Heap.get?_push_of_some _ e
        refine call_tuple_range (n := n) (I2.ok.hd hc) (IsRange.new ..) c2 c3 (by omega) fun h' tk acc hk hi => ?_
        have I3 : Inv X pins σ H1 { s1 with heap := h', toks := tk } := I2.kept hk
        have ea : acc = acc.toList.toArray := by simp
        rw [ea]
        exact ep_newT (s := { s1 with heap := h', toks := tk }) (tk := tk) I3 (vals_rgS hi) (by unfold rgSV; rw [List.length_map, List.length_range, sizeLine_eq]; omega) q
/-- tuple(range(a, b, -1)) -/
theorem ee_tupleRg3 {p2 pos2 p3 p4 : Pos} {k0 : Nat} (hm : X.mg "tuple" = none) (hm2 : X.mg "range" = none) (h : EE X a env fun d env' => EE X b env' fun d2 env2 => ∃ x y, d = I x ∧ d2 = I y ∧ RgOk y x ∧ (x - y).toNat ≤ 1000000 ∧ k (.tup (rgS x (-1) (x - y).toNat)) env2) (hc : X.calm = true := by rfl) (hg : Gl X "tuple" := by rfl) (hg2 : Gl X "range" := by rfl)
    (hs : starEach [a, b, .UnaryOp .USub (.Constant (.int 1) k0 p3) p4] X.env = (false, eval a X.env) :: starEach [b, .UnaryOp .USub (.Constant (.int 1) k0 p3) p4] X.env := by rfl) (hs2 : starEach [b, .UnaryOp .USub (.Constant (.int 1) k0 p3) p4] X.env = (false, eval b X.env) :: starEach [.UnaryOp .USub (.Constant (.int 1) k0 p3) p4] X.env := by rfl) (hs3 : starEach [.UnaryOp .USub (.Constant (.int 1) k0 p3) p4] X.env = (false, eval (.UnaryOp .USub (.Constant (.int 1) k0 p3) p4) X.env) :: starEach [] X.env := by rfl)
    (hpl : (backTo pos2 (starEach [b, .UnaryOp .USub (.Constant (.int 1) k0 p3) p4] X.env)).any (·.1) = false := by rfl)
    (na : starEach [.Call (.Name "range" p2) [a, b, .UnaryOp .USub (.Constant (.int 1) k0 p3) p4] [] pos2] X.env = (false, eval (.Call (.Name "range" p2) [a, b, .UnaryOp .USub (.Constant (.int 1) k0 p3) p4] [] pos2) X.env) :: starEach [] X.env := by rfl) :
    EE X (.Call (.Name "tuple" p) [.Call (.Name "range" p2) [a, b, .UnaryOp .USub (.Constant (.int 1) k0 p3) p4] [] pos2] [] pos) env k :=
  .of (pe_tupC hc hg hm hg2 hm2 (pa_cons pe_can (pa_cons pe_can (pa_cons (pe_un un_neg pe_int) pa_nil hs3) hs2) hs) hs hpl na) fun M0 B M σ c Q hQ => h M0 B M σ c _ fun v H ⟨d, env', B', M', e1, c', sm, r, q⟩ => by
    subst e1
    refine q M0 B' M' σ c' _ fun v2 H ⟨d2, env2, B2, M2, e2, c2, s2, r2, x, y, e3, e4, ok, hn, q2⟩ => ?_
    subst e2 e3 e4; cases r; cases r2
    obtain ⟨o1, o2, o3, o4, o5⟩ := ok
    refine ⟨1, rfl, x, y, -1, _, rfl, RgC.neg o3 o4 o1 o2, hn, fun p o hp h1 h2 => hQ _ _ ((PostD.newT c2 hp h1 h2 rgS_rp q2).back (sm.trans s2))⟩
/-- tuple(range(a, b)) -/
theorem ee_tupleRg2 {p2 pos2 : Pos} (hm : X.mg "tuple" = none) (hm2 : X.mg "range" = none) (h : EE X a env fun d env' => EE X b env' fun d2 env2 => ∃ x y, d = I x ∧ d2 = I y ∧ RgOk x y ∧ k (.tup (rgD x y)) env2) (hc : X.calm = true := by rfl) (hg : Gl X "tuple" := by rfl) (hg2 : Gl X "range" := by rfl) : True := trivial
/-! ### a, b, c = .. -/
theorem tvs_len {B : Hp} : ∀ {ts : List TV} {M0 Mf : Hp} {vs : List V}, TVs K B M0 Mf vs ts → vs.length = ts.length
  | [], _, _, _, ⟨e, _⟩ => by rw [e]; rfl
  | .d _ :: ts, _, _, _, ⟨v, r, e, _, h⟩ => by rw [e, List.length_cons, List.length_cons, tvs_len h]
  | .m _ :: ts, _, _, _, ⟨p, o, r, e, _, _, h⟩ => by rw [e, List.length_cons, List.length_cons, tvs_len h]
theorem put_len {kk : Env_ → Prop} : ∀ {is : List Nat} {ts : List TV} {env : Env_}, Put is ts env kk → ∀ n, is.length = n → ts.length = n
  | [], [], _, _, n, h => h
  | i :: is, .d d :: ts, env, p, n, h => by
    rw [← h, List.length_cons, List.length_cons, put_len (is := is) p _ rfl]
  | i :: is, .m mo :: ts, env, p, n, h => by
    rw [← h, List.length_cons, List.length_cons, put_len (is := is) (p.2 0) _ rfl]
  | [], _ :: _, _, p, _, _ => p.elim
  | _ :: _, [], _, p, _, _ => p.elim
theorem s_par3 (i j l : Nat) {x y z : Str} {px py pz pt : Pos} {kt k2 pt2} (h : EU X [a, b, c] env fun ts env' => Put [i, j, l] ts env' k4.nx) (hN : X.N.Nodup) (hc : X.calm = true := by rfl) (hi : X.N[i]? = some x := by rfl) (hj : X.N[j]? = some y := by rfl) (hl : X.N[l]? = some z := by rfl) (hij : i ≠ j := by decide) (hil : i ≠ l := by decide) (hjl : j ≠ l := by decide)
    (hx : X.env.scope.names.lookup x = some .local := by rfl) (hy : X.env.scope.names.lookup y = some .local := by rfl) (hz : X.env.scope.names.lookup z = some .local := by rfl)
    (hw : swappedStores [.Tuple [.Name x px, .Name y py, .Name z pz] kt pt] (.Tuple [a, b, c] k2 pt2) X.env = pure (some [x, y, z]) := by rfl)
    (hs : swapsWithSole [.Tuple [.Name x px, .Name y py, .Name z pz] kt pt] (.Tuple [a, b, c] k2 pt2) pos.line X.env = pure false := by rfl) : S1 X (.Assign [.Tuple [.Name x px, .Name y py, .Name z pz] kt pt] (.Tuple [a, b, c] k2 pt2) pos) env k4 :=
  .of (ps_par3 hc hN hi hj hl hij hil hjl hx hy hz pa_can hw hs) fun M0 B M σ c Dd h1 h2 h3 h4 => h M0 B M σ c _ fun vs H ⟨ts, env2, B2, M2, Mf, e2, c2, s2, r2, q2⟩ => by
    subst e2
    have hlen : vs.length = ts.length ∧ ts.length = 3 := ⟨tvs_len r2, put_len q2 3 rfl⟩
    obtain ⟨u, v, w, rfl⟩ : ∃ u v w, vs = [u, v, w] := by
      have : vs.length = 3 := hlen.1.trans hlen.2
      match vs, this with
      | [u, v, w], _ => exact ⟨u, v, w, rfl⟩
    exact ⟨u, v, w, rfl, h1 _ _ ((put_ok ts [i, j, l] [u, v, w] M0 Mf B2 M2 env2 σ c2 r2 q2).back s2)⟩
/-! ### what follows from what -/
theorem EE.mono {k' : D → Env_ → Prop} (h : EE X e env k) (f : ∀ d e, k d e → k' d e) : EE X e env k' := fun M0 B M σ c Q hQ => h M0 B M σ c Q fun v H ⟨d, env', B', M', e1, c', sm, r, q⟩ => hQ v H ⟨d, env', B', M', e1, c', sm, r, f _ _ q⟩
theorem EEb.mono {k' : D → Env_ → Prop} (h : EEb X scope e env k) (f : ∀ d e, k d e → k' d e) : EEb X scope e env k' := fun M0 B M σ c Q hQ => h M0 B M σ c Q fun v H ⟨d, env', B', M', e1, c', sm, r, q⟩ => hQ v H ⟨d, env', B', M', e1, c', sm, r, f _ _ q⟩
theorem EBb.mono {kb' : Bool → Env_ → Prop} (h : EBb X scope ifs env kb) (f : ∀ d e, kb d e → kb' d e) : EBb X scope ifs env kb' := fun M0 B M σ c Q hQ => h M0 B M σ c Q fun v H ⟨env', B', M', e1, c', sm, q⟩ => hQ v H ⟨env', B', M', e1, c', sm, f _ _ q⟩
theorem EGb.mono {kg kg' : Env_ → Prop} {vs : List Nat} {d : D} (h : EGb X scope tg vs d env kg) (f : ∀ e, kg e → kg' e) : EGb X scope tg vs d env kg' := fun M0 B M σ c v r Q hQ => h M0 B M σ c v r Q fun σ' H ⟨env', B', M', e1, c', sm, q⟩ => hQ σ' H ⟨env', B', M', e1, c', sm, f _ q⟩
theorem EI.mono {ki' : List D → (Env_ → Prop) → Env_ → Prop} (h : EI X tg iter env ki) (f : ∀ ds Gd e, ki ds Gd e → ki' ds Gd e) : EI X tg iter env ki' := fun M0 B M σ c R hR => h M0 B M σ c R fun W H ⟨ds, Gd, env', B', M', e1, c', sm, wk, q⟩ => hR W H ⟨ds, Gd, env', B', M', e1, c', sm, wk, f _ _ _ q⟩
theorem wipeE_in {i : Nat} : ∀ {vs : List Nat}, i ∈ vs → i < env.length → (wipeE env vs)[i]? = some .un
  | v :: vs, h, hi => by
    show ((wipeE env vs).set v .un)[i]? = _
    by_cases e : v = i
    · subst e
      rw [List.getElem?_set_self (by rw [wipeE_len]; exact hi)]
    · rw [List.getElem?_set_ne e]
      exact wipeE_in ((List.mem_cons.mp h).resolve_left fun z => e z.symm) hi
theorem wipeE_off {i : Nat} : ∀ {vs : List Nat}, i ∉ vs → (wipeE env vs)[i]? = env[i]?
  | [], _ => rfl
  | v :: vs, h => by
    show ((wipeE env vs).set v .un)[i]? = _
    rw [List.getElem?_set_ne fun z => h (by rw [z]; exact List.mem_cons_self)]
    exact wipeE_off fun z => h (List.mem_cons_of_mem _ z)
theorem wipeE_idem {vs : List Nat} : wipeE (wipeE env vs) vs = wipeE env vs := by
  refine List.ext_getElem? fun i => ?_
  by_cases hi : i < env.length
  · by_cases hv : i ∈ vs
    · rw [wipeE_in hv (by rw [wipeE_len]; exact hi), wipeE_in hv hi]
    · rw [wipeE_off hv]
  · rw [List.getElem?_eq_none (by rw [wipeE_len, wipeE_len]; omega), List.getElem?_eq_none (by rw [wipeE_len]; omega)]
theorem nm_wipe {vs : List Nat} (h : NoMu env vs) : NoMu (wipeE env vs) vs := fun v hv a mo q => by
  rcases wipeE_at q with e | ⟨e, _⟩
  · cases e
  · exact e hv
/-! ### comprehensions that change nothing, over xs.map f -/
theorem elcA {own : List (Str × Nat)}
    (h : EI X tg iter env fun ds Gd env1 => NoMu env1 (own.map (·.2)) ∧ Gd (wipeE env1 (own.map (·.2))) ∧ ∃ (α : Type) (xs : List α) (f : α → D) (g : α → Option D), ds = xs.map f ∧ xs.length ≤ 1000000 ∧
      (∀ x, x ∈ xs → EGb X scope tg (own.map (·.2)) (f x) (wipeE env1 (own.map (·.2))) fun e3 => EBb X scope ifs e3 fun b e4 =>
        (b = true → EEb X scope elt e4 fun y e5 => g x = some y ∧ NoMu e5 (own.map (·.2)) ∧ wipeE e5 (own.map (·.2)) = wipeE env1 (own.map (·.2))) ∧ (b = false → g x = none ∧ NoMu e4 (own.map (·.2)) ∧ wipeE e4 (own.map (·.2)) = wipeE env1 (own.map (·.2)))) ∧
      km (.lst (xs.filterMap g)) (wipeE env1 (own.map (·.2)))) : ELC X scope elt tg iter ifs (own.map (·.2)) env km := by
  refine elc ?_
  refine EI.mono h fun ds Gd env1 ⟨nm, gd, α, xs, f, g, hds, hl, turn, fin⟩ => ?_
  subst hds
  refine ⟨nm, fun i acc e => e = wipeE env1 (own.map (·.2)) ∧ acc = (xs.take i).filterMap g, ⟨rfl, rfl⟩, fun i acc e hI => ?_, by rw [List.length_map]; exact hl, fun i d acc e2 hd hI => ?_, fun acc e hI => ?_⟩
  · obtain ⟨rfl, rfl⟩ := hI
    exact ⟨gd, Nat.le_trans (List.length_filterMap_le ..) (by rw [List.length_take]; exact Nat.min_le_left _ _), nm_wipe nm⟩
  · obtain ⟨rfl, rfl⟩ := hI
    rw [List.getElem?_map] at hd
    cases hx : xs[i]? with
    | none => rw [hx] at hd; cases hd
    | some x =>
      rw [hx] at hd
      have hd := Option.some.inj hd
      subst hd
      have tk : xs.take (i + 1) = xs.take i ++ [x] := by rw [List.take_add_one, hx]; rfl
      refine EGb.mono (turn x (List.mem_of_getElem? hx)) fun e3 h3 => EBb.mono h3 fun b e4 h4 => ⟨fun hb => EEb.mono (h4.1 hb) fun y e5 ⟨hg, n5, w5⟩ => ?_, fun hb => ?_⟩
      · refine ⟨n5, w5, ?_⟩
        rw [tk, List.filterMap_append]
        simp [hg]
      · obtain ⟨hg, n4, w4⟩ := h4.2 hb
        refine ⟨n4, w4, ?_⟩
        rw [tk, List.filterMap_append]
        simp [hg]
  · obtain ⟨rfl, rfl⟩ := hI
    rw [List.length_map, List.take_length, wipeE_idem]
    exact fin
theorem em_lcA {own : List (Str × Nat)} (ok : BlkOk X.N X.env.scope scope own) (hN : X.N.Nodup)
    (h : EI X tg iter env fun ds Gd env1 => NoMu env1 (own.map (·.2)) ∧ Gd (wipeE env1 (own.map (·.2))) ∧ ∃ (α : Type) (xs : List α) (f : α → D) (g : α → Option D), ds = xs.map f ∧ xs.length ≤ 1000000 ∧
      (∀ x, x ∈ xs → EGb X scope tg (own.map (·.2)) (f x) (wipeE env1 (own.map (·.2))) fun e3 => EBb X scope ifs e3 fun b e4 =>
        (b = true → EEb X scope elt e4 fun y e5 => g x = some y ∧ NoMu e5 (own.map (·.2)) ∧ wipeE e5 (own.map (·.2)) = wipeE env1 (own.map (·.2))) ∧ (b = false → g x = none ∧ NoMu e4 (own.map (·.2)) ∧ wipeE e4 (own.map (·.2)) = wipeE env1 (own.map (·.2)))) ∧
      km (.lst (xs.filterMap g)) (wipeE env1 (own.map (·.2))))
    (hc : X.calm = true := by rfl) (hs : ∀ x, foldedSetIterable iter X.env x = pure x := by intro _; rfl) : EM X (.ListComp elt [⟨tg, iter, ifs, 0⟩] scope pos) env km := em_ofLc ok hN (elcA h) hc hs
end
/-! ### places in lists -/
theorem atI_pos {α : Type} {ds : List α} {j : Int} {d : α} (h0 : 0 ≤ j) (h : ds[j.toNat]? = some d) : atI ds j = some d := by
  obtain ⟨m, rfl⟩ : ∃ m : Nat, j = (m : Int) := ⟨j.toNat, by omega⟩
  exact atI_nat h
theorem getD_at {α : Type} {ns : List α} {m : Nat} (z : α) (h : m < ns.length) : ns[m]? = some (ns.getD m z) := by
  rw [List.getD_eq_getElem?_getD, List.getElem?_eq_getElem h]
  rfl
theorem atI_ints {ns : List Int} {j : Int} (h0 : 0 ≤ j) (h1 : j < ns.length) : atI (ns.map I) j = some (I (ns.getD j.toNat 0)) := by
  refine atI_pos h0 ?_
  rw [List.getElem?_map, getD_at 0 (by omega)]
  rfl
end Sy
namespace Sy
open PySem PySem.Spec PyProof.Rows L2
theorem rgD_len (a b : Int) : (rgD a b).length = (b - a).toNat := by unfold rgD; rw [List.length_map, List.length_range]
theorem rgD_at {a b : Int} {i : Nat} {d : D} (h : (rgD a b)[i]? = some d) : i < (b - a).toNat ∧ d = I (a + (i : Nat)) := by
  unfold rgD at h
  rw [List.getElem?_map] at h
  by_cases hi : i < (b - a).toNat
  · rw [List.getElem?_range hi] at h
    exact ⟨hi, (Option.some.inj h).symm⟩
  · rw [List.getElem?_eq_none (by rw [List.length_range]; omega)] at h
    cases h
end Sy
namespace Sy
open PySem PySem.Spec PyProof.Rows L2
/-- the name of a value's type -/
def tyD : D → Option String
  | .v (.int _) => some "int"
  | .v (.bl _) => some "bool"
  | .v (.str _) => some "str"
  | .v .non => some "NoneType"
  | .tup _ => some "tuple"
  | .lst _ => some "list"
  | _ => none
section
variable {X : Cx} {K : PySem.W.Frag} {e a b c tg iter elt : Expr} {es rest ifs : List Expr} {env : Env_} {k : D → Env_ → Prop} {kb : Bool → Env_ → Prop} {km : MO → Env_ → Prop} {kl : List D → Env_ → Prop} {k4 : K4} {pos p : Pos} {scope : Scope}
variable {M0 B B1 M : Hp} {σ : L2.St}
theorem tyD_ok {H : Hp} {d : D} {t : String} {v : V} (sm : Same B H) (ht : tyD d = some t) (r : Rp K B d v) : TyX K H v (.type t) := by
  match d, ht, r with
  | .v (.int i), ht, r => cases ht; cases r; exact .base (.int i)
  | .v (.bl i), ht, r => cases ht; cases r; exact .base (.bl i)
  | .v (.str i), ht, r => cases ht; cases r; exact .base (.str i)
  | .v .non, ht, r => cases ht; cases r; exact .base .non
  | .tup ds, ht, r =>
    cases ht
    obtain ⟨a, xs, rfl, hp, _⟩ := r
    rcases hp with ⟨o, h, _, _⟩ | ⟨o, its, n, h1, h2, _⟩
    · exact .fTuple (sm _ _ h)
    · exact .kTuple h1 h2
  | .lst ds, ht, r =>
    cases ht
    obtain ⟨a, xs, rfl, hp, _⟩ := r
    rcases hp with (h | ⟨o, h⟩) | ⟨o, its, n, h1, h2, _⟩
    · exact .base (.lst (sm _ _ h))
    · exact .base (.frz (sm _ _ h))
    · exact .kList h1 h2
/-- isinstance(a, T), T a built-in type -/
theorem ee_isi {T : Str} {Tn : String} {pt : Pos} (hm : X.mg "isinstance" = none) (hmT : X.mg T = none) (hvT : bootBuiltins T = some (.type Tn)) (h : EE X a env fun d env' => ∃ t b, tyD d = some t ∧ kitB t Tn = some b ∧ k (Bl b) env') (hg : Gl X "isinstance" := by rfl) (hgT : Gl X T := by rfl)
    (hn : T ≠ "__name__" := by decide) (hdT : (T == ("__debug__" : Str)) = false := by decide)
    (he : starEach [a, .Name T pt] X.env = (false, eval a X.env) :: starEach [.Name T pt] X.env := by rfl) (he2 : starEach [.Name T pt] X.env = (false, eval (.Name T pt) X.env) :: starEach [] X.env := by rfl) (hpl : (backTo pos (starEach [.Name T pt] X.env)).any (·.1) = false := by rfl) :
    EE X (.Call (.Name "isinstance" p) [a, .Name T pt] [] pos) env k :=
  .of (pe_callB call_isi hg hm boot_isinstance (pa_cons pe_can (pa_cons (pe_bltn (v := .ty Tn) hgT hmT hvT rfl hn hdT) pa_nil he2) he) (by decide) (by decide) he hpl) fun M0 B M σ c Q hQ => h M0 B M σ c _ fun v H ⟨d, env', B', M', e1, c', sm, r, t, b, ht, hk, q⟩ => by
    subst e1
    exact ⟨v, .ty Tn, .type t, .type Tn, b, rfl, .ty Tn, tyD_ok c'.same ht r, kit_ty hk, hQ _ _ ((PostD.nowA c' q).back sm)⟩
/-- a value whose type is told -/
def okD : D → Bool
  | .v (.int _) | .v (.bl _) | .v (.str _) | .v .non | .tup _ | .lst _ => true
  | _ => false
def isInt : D → Bool
  | .v (.int _) | .v (.bl _) => true
  | _ => false
theorem kb_Int_int : kitB "int" "int" = some true := by decide +kernel
theorem kb_Int_bl : kitB "bool" "int" = some true := by decide +kernel
theorem kb_Int_str : kitB "str" "int" = some false := by decide +kernel
theorem kb_Int_tup : kitB "tuple" "int" = some false := by decide +kernel
theorem kb_Int_lst : kitB "list" "int" = some false := by decide +kernel
theorem kb_Int_non : kitB "NoneType" "int" = some false := by decide +kernel
theorem ee_isiInt {pt : Pos} (hm : X.mg "isinstance" = none) (hmT : X.mg "int" = none) (h : EE X a env fun d env' => okD d = true ∧ k (Bl (isInt d)) env') (hg : Gl X "isinstance" := by rfl) (hgT : Gl X "int" := by rfl)
    (he : starEach [a, .Name "int" pt] X.env = (false, eval a X.env) :: starEach [.Name "int" pt] X.env := by rfl) (he2 : starEach [.Name "int" pt] X.env = (false, eval (.Name "int" pt) X.env) :: starEach [] X.env := by rfl) (hpl : (backTo pos (starEach [.Name "int" pt] X.env)).any (·.1) = false := by rfl) :
    EE X (.Call (.Name "isinstance" p) [a, .Name "int" pt] [] pos) env k :=
  ee_isi hm hmT boot_int (EE.mono h fun d e ⟨h1, h2⟩ => by
    match d, h1, h2 with
    | .v (.int _), _, h2 => exact ⟨_, _, rfl, kb_Int_int, h2⟩
    | .v (.bl _), _, h2 => exact ⟨_, _, rfl, kb_Int_bl, h2⟩
    | .v (.str _), _, h2 => exact ⟨_, _, rfl, kb_Int_str, h2⟩
    | .tup _, _, h2 => exact ⟨_, _, rfl, kb_Int_tup, h2⟩
    | .lst _, _, h2 => exact ⟨_, _, rfl, kb_Int_lst, h2⟩
    | .v .non, _, h2 => exact ⟨_, _, rfl, kb_Int_non, h2⟩) hg hgT (by decide) (by decide) he he2 hpl
def isBool : D → Bool
  | .v (.bl _) => true
  | _ => false
theorem kb_Bool_int : kitB "int" "bool" = some false := by decide +kernel
theorem kb_Bool_bl : kitB "bool" "bool" = some true := by decide +kernel
theorem kb_Bool_str : kitB "str" "bool" = some false := by decide +kernel
theorem kb_Bool_tup : kitB "tuple" "bool" = some false := by decide +kernel
theorem kb_Bool_lst : kitB "list" "bool" = some false := by decide +kernel
theorem kb_Bool_non : kitB "NoneType" "bool" = some false := by decide +kernel
theorem ee_isiBool {pt : Pos} (hm : X.mg "isinstance" = none) (hmT : X.mg "bool" = none) (h : EE X a env fun d env' => okD d = true ∧ k (Bl (isBool d)) env') (hg : Gl X "isinstance" := by rfl) (hgT : Gl X "bool" := by rfl)
    (he : starEach [a, .Name "bool" pt] X.env = (false, eval a X.env) :: starEach [.Name "bool" pt] X.env := by rfl) (he2 : starEach [.Name "bool" pt] X.env = (false, eval (.Name "bool" pt) X.env) :: starEach [] X.env := by rfl) (hpl : (backTo pos (starEach [.Name "bool" pt] X.env)).any (·.1) = false := by rfl) :
    EE X (.Call (.Name "isinstance" p) [a, .Name "bool" pt] [] pos) env k :=
  ee_isi hm hmT boot_bool (EE.mono h fun d e ⟨h1, h2⟩ => by
    match d, h1, h2 with
    | .v (.int _), _, h2 => exact ⟨_, _, rfl, kb_Bool_int, h2⟩
    | .v (.bl _), _, h2 => exact ⟨_, _, rfl, kb_Bool_bl, h2⟩
    | .v (.str _), _, h2 => exact ⟨_, _, rfl, kb_Bool_str, h2⟩
    | .tup _, _, h2 => exact ⟨_, _, rfl, kb_Bool_tup, h2⟩
    | .lst _, _, h2 => exact ⟨_, _, rfl, kb_Bool_lst, h2⟩
    | .v .non, _, h2 => exact ⟨_, _, rfl, kb_Bool_non, h2⟩) hg hgT (by decide) (by decide) he he2 hpl
def isStr : D → Bool
  | .v (.str _) => true
  | _ => false
theorem kb_Str_int : kitB "int" "str" = some false := by decide +kernel
theorem kb_Str_bl : kitB "bool" "str" = some false := by decide +kernel
theorem kb_Str_str : kitB "str" "str" = some true := by decide +kernel
theorem kb_Str_tup : kitB "tuple" "str" = some false := by decide +kernel
theorem kb_Str_lst : kitB "list" "str" = some false := by decide +kernel
theorem kb_Str_non : kitB "NoneType" "str" = some false := by decide +kernel
theorem ee_isiStr {pt : Pos} (hm : X.mg "isinstance" = none) (hmT : X.mg "str" = none) (h : EE X a env fun d env' => okD d = true ∧ k (Bl (isStr d)) env') (hg : Gl X "isinstance" := by rfl) (hgT : Gl X "str" := by rfl)
    (he : starEach [a, .Name "str" pt] X.env = (false, eval a X.env) :: starEach [.Name "str" pt] X.env := by rfl) (he2 : starEach [.Name "str" pt] X.env = (false, eval (.Name "str" pt) X.env) :: starEach [] X.env := by rfl) (hpl : (backTo pos (starEach [.Name "str" pt] X.env)).any (·.1) = false := by rfl) :
    EE X (.Call (.Name "isinstance" p) [a, .Name "str" pt] [] pos) env k :=
  ee_isi hm hmT boot_str (EE.mono h fun d e ⟨h1, h2⟩ => by
    match d, h1, h2 with
    | .v (.int _), _, h2 => exact ⟨_, _, rfl, kb_Str_int, h2⟩
    | .v (.bl _), _, h2 => exact ⟨_, _, rfl, kb_Str_bl, h2⟩
    | .v (.str _), _, h2 => exact ⟨_, _, rfl, kb_Str_str, h2⟩
    | .tup _, _, h2 => exact ⟨_, _, rfl, kb_Str_tup, h2⟩
    | .lst _, _, h2 => exact ⟨_, _, rfl, kb_Str_lst, h2⟩
    | .v .non, _, h2 => exact ⟨_, _, rfl, kb_Str_non, h2⟩) hg hgT (by decide) (by decide) he he2 hpl
def isTup : D → Bool
  | .tup _ => true
  | _ => false
theorem kb_Tup_int : kitB "int" "tuple" = some false := by decide +kernel
theorem kb_Tup_bl : kitB "bool" "tuple" = some false := by decide +kernel
theorem kb_Tup_str : kitB "str" "tuple" = some false := by decide +kernel
theorem kb_Tup_tup : kitB "tuple" "tuple" = some true := by decide +kernel
theorem kb_Tup_lst : kitB "list" "tuple" = some false := by decide +kernel
theorem kb_Tup_non : kitB "NoneType" "tuple" = some false := by decide +kernel
theorem ee_isiTup {pt : Pos} (hm : X.mg "isinstance" = none) (hmT : X.mg "tuple" = none) (h : EE X a env fun d env' => okD d = true ∧ k (Bl (isTup d)) env') (hg : Gl X "isinstance" := by rfl) (hgT : Gl X "tuple" := by rfl)
    (he : starEach [a, .Name "tuple" pt] X.env = (false, eval a X.env) :: starEach [.Name "tuple" pt] X.env := by rfl) (he2 : starEach [.Name "tuple" pt] X.env = (false, eval (.Name "tuple" pt) X.env) :: starEach [] X.env := by rfl) (hpl : (backTo pos (starEach [.Name "tuple" pt] X.env)).any (·.1) = false := by rfl) :
    EE X (.Call (.Name "isinstance" p) [a, .Name "tuple" pt] [] pos) env k :=
  ee_isi hm hmT boot_tuple (EE.mono h fun d e ⟨h1, h2⟩ => by
    match d, h1, h2 with
    | .v (.int _), _, h2 => exact ⟨_, _, rfl, kb_Tup_int, h2⟩
    | .v (.bl _), _, h2 => exact ⟨_, _, rfl, kb_Tup_bl, h2⟩
    | .v (.str _), _, h2 => exact ⟨_, _, rfl, kb_Tup_str, h2⟩
    | .tup _, _, h2 => exact ⟨_, _, rfl, kb_Tup_tup, h2⟩
    | .lst _, _, h2 => exact ⟨_, _, rfl, kb_Tup_lst, h2⟩
    | .v .non, _, h2 => exact ⟨_, _, rfl, kb_Tup_non, h2⟩) hg hgT (by decide) (by decide) he he2 hpl
def isLst : D → Bool
  | .lst _ => true
  | _ => false
theorem kb_Lst_int : kitB "int" "list" = some false := by decide +kernel
theorem kb_Lst_bl : kitB "bool" "list" = some false := by decide +kernel
theorem kb_Lst_str : kitB "str" "list" = some false := by decide +kernel
theorem kb_Lst_tup : kitB "tuple" "list" = some false := by decide +kernel
theorem kb_Lst_lst : kitB "list" "list" = some true := by decide +kernel
theorem kb_Lst_non : kitB "NoneType" "list" = some false := by decide +kernel
theorem ee_isiLst {pt : Pos} (hm : X.mg "isinstance" = none) (hmT : X.mg "list" = none) (h : EE X a env fun d env' => okD d = true ∧ k (Bl (isLst d)) env') (hg : Gl X "isinstance" := by rfl) (hgT : Gl X "list" := by rfl)
    (he : starEach [a, .Name "list" pt] X.env = (false, eval a X.env) :: starEach [.Name "list" pt] X.env := by rfl) (he2 : starEach [.Name "list" pt] X.env = (false, eval (.Name "list" pt) X.env) :: starEach [] X.env := by rfl) (hpl : (backTo pos (starEach [.Name "list" pt] X.env)).any (·.1) = false := by rfl) :
    EE X (.Call (.Name "isinstance" p) [a, .Name "list" pt] [] pos) env k :=
  ee_isi hm hmT boot_list (EE.mono h fun d e ⟨h1, h2⟩ => by
    match d, h1, h2 with
    | .v (.int _), _, h2 => exact ⟨_, _, rfl, kb_Lst_int, h2⟩
    | .v (.bl _), _, h2 => exact ⟨_, _, rfl, kb_Lst_bl, h2⟩
    | .v (.str _), _, h2 => exact ⟨_, _, rfl, kb_Lst_str, h2⟩
    | .tup _, _, h2 => exact ⟨_, _, rfl, kb_Lst_tup, h2⟩
    | .lst _, _, h2 => exact ⟨_, _, rfl, kb_Lst_lst, h2⟩
    | .v .non, _, h2 => exact ⟨_, _, rfl, kb_Lst_non, h2⟩) hg hgT (by decide) (by decide) he he2 hpl
/-! ### x in (atoms) -/
theorem co_inV {x : V} {xs : List V} (fx : flatV x = true) (fs : xs.all flatV = true) (q : k (Bl (inV x xs)) env) : CO X .In (.v x) (.tup (xs.map D.v)) env k := .of op_in_seq fun M0 B M σ c v1 v2 r1 r2 Q hQ => by
  cases r1
  obtain ⟨a2, ys, rfl, hs2, hr2⟩ := r2
  have ey := RpA.atoms_eq hr2
  subst ey
  exact ⟨a2, _, rfl, .inr (sqT_same c.same hs2.sq), fx, fs, hQ _ _ (.nowA c q)⟩
theorem co_niV {x : V} {xs : List V} (fx : flatV x = true) (fs : xs.all flatV = true) (q : k (Bl (!inV x xs)) env) : CO X .NotIn (.v x) (.tup (xs.map D.v)) env k := .of op_notIn_seq fun M0 B M σ c v1 v2 r1 r2 Q hQ => by
  cases r1
  obtain ⟨a2, ys, rfl, hs2, hr2⟩ := r2
  have ey := RpA.atoms_eq hr2
  subst ey
  exact ⟨a2, _, rfl, .inr (sqT_same c.same hs2.sq), fx, fs, hQ _ _ (.nowA c q)⟩
end
def muB : Option Desc → Bool
  | some (.mu _ _) => true
  | _ => false
theorem noMu_of {env : Env_} {vs : List Nat} (h : (vs.all fun v => !muB env[v]?) = true) : NoMu env vs := fun v hv a mo e => by
  have h := List.all_eq_true.mp h v hv
  rw [e] at h
  cases h
theorem fm_some {α β : Type} (f : α → β) : ∀ xs : List α, xs.filterMap (fun x => some (f x)) = xs.map f
  | [] => rfl
  | x :: xs => by
    rw [List.filterMap_cons, fm_some f xs]
    rfl
/-- a filter and a map -/
def pick {α β : Type} (p : α → Bool) (f : α → β) (x : α) : Option β := if p x = true then some (f x) else none
theorem pick_t {α β : Type} {p : α → Bool} {f : α → β} {x : α} (h : p x = true) : pick p f x = some (f x) := if_pos h
theorem pick_f {α β : Type} {p : α → Bool} {f : α → β} {x : α} (h : p x = false) : pick p f x = none := if_neg (by rw [h]; exact Bool.false_ne_true)
theorem fm_pick {α β : Type} (p : α → Bool) (f : α → β) : ∀ xs : List α, xs.filterMap (pick p f) = (xs.filter p).map f
  | [] => rfl
  | x :: xs => by
    rw [List.filterMap_cons, List.filter_cons]
    cases h : p x with
    | true =>
      rw [pick_t h, if_pos rfl, List.map_cons, fm_pick p f xs]
    | false =>
      rw [pick_f h, if_neg Bool.false_ne_true, fm_pick p f xs]
/-- a slot that is empty, or data -/
def sl : Option D → Desc
  | none => .un
  | some d => .dat d
end Sy
namespace Sy
open PySem PySem.Spec PyProof.Rows L2
/-! ### dicts whose keys are ints or texts -/
def kD (k : Key) : D := .v (kV k)
abbrev KI (i : Int) : Key := .inl i
def valD (kvs : List (Key × D)) (k : Key) : Option D := (kvs.find? fun kv => decide (kv.1 = k)).map (·.2)
def putD (kvs : List (Key × D)) (k : Key) (v : D) : List (Key × D) :=
  if (kvs.any fun kv => decide (kv.1 = k)) = true then kvs.map (fun kv => if kv.1 = k then (kv.1, v) else kv) else kvs ++ [(k, v)]
def mergeD (kvs more : List (Key × D)) : List (Key × D) := more.foldl (fun acc kv => putD acc kv.1 kv.2) kvs
section
variable {K : PySem.W.Frag} {B : Hp}
theorem RpK.length : ∀ {kvs : List (Key × D)} {ks : List (Key × V)}, RpK K B kvs ks → ks.length = kvs.length
  | [], ks, h => by rw [show ks = [] from h]; rfl
  | (k, d) :: r, ks, ⟨x, t, e, _, h⟩ => by rw [e, List.length_cons, List.length_cons, RpK.length h]
theorem RpK.any {k : Key} : ∀ {kvs : List (Key × D)} {ks : List (Key × V)}, RpK K B kvs ks → (ks.any fun kv => decide (kv.1 = k)) = (kvs.any fun kv => decide (kv.1 = k))
  | [], ks, h => by rw [show ks = [] from h]; rfl
  | (k', d) :: r, ks, ⟨x, t, e, _, h⟩ => by rw [e, List.any_cons, List.any_cons, RpK.any h]
theorem RpK.snoc {k : Key} {d : D} {v : V} (hv : Rp K B d v) : ∀ {kvs : List (Key × D)} {ks : List (Key × V)}, RpK K B kvs ks → RpK K B (kvs ++ [(k, d)]) (ks ++ [(k, v)])
  | [], ks, h => by rw [show ks = [] from h]; exact ⟨v, [], rfl, hv, rfl⟩
  | (k', d') :: r, ks, ⟨x, t, e, h1, h⟩ => by rw [e]; exact ⟨x, _, rfl, h1, RpK.snoc hv h⟩
theorem RpK.repl {k : Key} {d : D} {v : V} (hv : Rp K B d v) : ∀ {kvs : List (Key × D)} {ks : List (Key × V)}, RpK K B kvs ks → RpK K B (kvs.map fun kv => if kv.1 = k then (kv.1, d) else kv) (ks.map fun kv => if kv.1 = k then (kv.1, v) else kv)
  | [], ks, h => by rw [show ks = [] from h]; exact rfl
  | (k', d') :: r, ks, ⟨x, t, e, h1, h⟩ => by
    rw [e, List.map_cons, List.map_cons]
    by_cases c : k' = k
    · rw [if_pos c, if_pos c]
      exact ⟨v, _, rfl, hv, RpK.repl hv h⟩
    · rw [if_neg c, if_neg c]
      exact ⟨x, _, rfl, h1, RpK.repl hv h⟩
theorem RpK.put {k : Key} {d : D} {v : V} {kvs : List (Key × D)} {ks : List (Key × V)} (h : RpK K B kvs ks) (hv : Rp K B d v) : RpK K B (putD kvs k d) (putK ks k v) := by
  unfold putD putK
  rw [h.any]
  split
  · exact h.repl hv
  · exact h.snoc hv
theorem RpK.val {k : Key} : ∀ {kvs : List (Key × D)} {ks : List (Key × V)}, RpK K B kvs ks → (∀ d, valD kvs k = some d → ∃ v, valV ks k = some v ∧ Rp K B d v) ∧ (valD kvs k = none → valV ks k = none)
  | [], ks, h => by
    rw [show ks = [] from h]
    exact ⟨fun d e => (by cases e), fun _ => rfl⟩
  | (k', d') :: r, ks, ⟨x, t, e, h1, h⟩ => by
    rw [e]
    by_cases c : k' = k
    · rw [valV_pos (p := (k', x)) c]
      have e2 : valD ((k', d') :: r) k = some d' := by simp [valD, List.find?_cons, c]
      rw [e2]
      exact ⟨fun d q => (by cases q; exact ⟨x, rfl, h1⟩), fun q => (by cases q)⟩
    · rw [valV_neg (p := (k', x)) c]
      have e2 : valD ((k', d') :: r) k = valD r k := by simp [valD, List.find?_cons, c]
      rw [e2]
      exact RpK.val h
theorem RpK.merge : ∀ {more : List (Key × D)} {ms : List (Key × V)} {kvs : List (Key × D)} {ks : List (Key × V)}, RpK K B more ms → RpK K B kvs ks → RpK K B (mergeD kvs more) (mergeK ks ms)
  | [], ms, kvs, ks, h, h0 => by rw [show ms = [] from h]; exact h0
  | (k, d) :: r, ms, kvs, ks, ⟨x, t, e, h1, h⟩, h0 => by
    rw [e]
    show RpK K B (mergeD (putD kvs k d) r) (mergeK (putK ks k x) t)
    exact RpK.merge h (h0.put h1)
theorem putD_new {kvs : List (Key × D)} {k : Key} {d : D} (h : ∀ p, p ∈ kvs → p.1 ≠ k) : putD kvs k d = kvs ++ [(k, d)] := by
  unfold putD
  rw [if_neg]
  intro z
  rw [List.any_eq_true] at z
  obtain ⟨p, hp, e⟩ := z
  exact h p hp (of_decide_eq_true e)
/-- pairs of distinct keys, merged: they themselves -/
theorem mergeD_new : ∀ {more kvs : List (Key × D)}, (∀ p, p ∈ kvs → ∀ q, q ∈ more → p.1 ≠ q.1) → more.Pairwise (fun p q => p.1 ≠ q.1) → mergeD kvs more = kvs ++ more
  | [], kvs, _, _ => by rw [List.append_nil]; rfl
  | (k, d) :: r, kvs, h, hp => by
    rw [List.pairwise_cons] at hp
    show mergeD (putD kvs k d) r = _
    rw [putD_new fun p hpm => h p hpm _ List.mem_cons_self, mergeD_new (kvs := kvs ++ [(k, d)]) (fun p hpm q hq => ?_) hp.2, List.append_assoc]
    · rfl
    · rcases List.mem_append.mp hpm with h1 | h1
      · exact h p h1 q (List.mem_cons_of_mem _ hq)
      · rw [List.mem_singleton.mp h1]
        exact hp.1 q hq
end
section
variable {X : Cx} {K : PySem.W.Frag} {e a b c : Expr} {env : Env_} {k : D → Env_ → Prop} {km : MO → Env_ → Prop} {k4 : K4} {pos p : Pos}
variable {M0 B B1 M : Hp} {σ : L2.St}
theorem pairs_rp : ∀ {kvs : List (Key × D)} {xs : List V}, RpA K B (kvs.map fun p => .tup [kD p.1, p.2]) xs → ∃ (ps : List Addr) (ks : List (Key × V)), xs = ps.map V.ref ∧ Paired (fun p (kv : Key × V) => SqT K B p [kV kv.1, kv.2]) ps ks ∧ RpK K B kvs ks
  | [], xs, h => by
    rw [show xs = [] from h]
    exact ⟨[], [], rfl, .nil, rfl⟩
  | (k, d) :: r, xs, ⟨x, t, e, hx, h⟩ => by
    obtain ⟨ps, ks, e1, h1, h2⟩ := pairs_rp (kvs := r) h
    obtain ⟨ad, ys, rfl, hs, y1, t1, e2, hy1, y2, t2, e3, hy2, e4⟩ := hx
    have e4 : t2 = [] := e4
    have hy1 : y1 = kV k := hy1
    subst e4 e3 hy1 e2
    refine ⟨ad :: ps, (k, y2) :: ks, by rw [e, e1]; rfl, .cons hs.sq h1, y2, ks, rfl, hy2, h2⟩
/-- dict([(key, value), ..]) -/
theorem em_dictL (hm : X.mg "dict" = none) (h : EE X e env fun d env' => ∃ kvs : List (Key × D), d = .lst (kvs.map fun p => .tup [kD p.1, p.2]) ∧ km (.dK (mergeD [] kvs)) env') (hc : X.calm = true := by rfl) (hg : Gl X "dict" := by rfl) (he : starEach (e :: []) X.env = (false, eval e X.env) :: starEach [] X.env := by rfl) (hpl : (backTo pos (starEach [] X.env)).any (·.1) = false := by rfl) : EM X (.Call (.Name "dict" p) [e] [] pos) env km :=
  .of (pe_callTy (call_dictP hc) hg hm (by decide +kernel) (pa_cons pe_can pa_nil he) (by decide) (by decide) he hpl) fun M0 B M σ c Q hQ => h M0 B M σ c _ fun v H ⟨d, env', B', M', e1, c', sm, r, kvs, e2, q⟩ => by
    subst e1 e2
    obtain ⟨ad, xs, rfl, hs, hr⟩ := r
    obtain ⟨ps, ks, rfl, h1, h2⟩ := pairs_rp hr
    refine ⟨ad, ps, ks, rfl, sqL_same c'.same hs, ?_, fun p hp => hQ _ _ ((PostM.new (mo := .dK (mergeD [] kvs)) c' hp ⟨_, rfl, RpK.merge h2 rfl⟩ q).back sm)⟩
    exact L2.Paired.mapP h1 fun a b hx => sqT_same c'.same hx
/-- x[b], x a dict of one's own in slot i -/
theorem ee_dgetX (i : Nat) {x : Str} {pn : Pos} {ad : Addr} {mo0 : MO} (hu : X.A.units + 1 < cLine) (hi0 : env[i]? = some (.mu ad mo0)) (h : EE X b env fun d2 env2 => ∃ kvs ky d, env2[i]? = some (.mu ad (.dK kvs)) ∧ d2 = kD ky ∧ valD kvs ky = some d ∧ k d env2) (hs : NoSl b := by exact fun _ _ => rfl)
    (hN : X.N[i]? = some x := by rfl) (hv : Vis X.env.scope x := by first | exact Or.inl rfl | exact Or.inr (Or.inl rfl) | exact Or.inr (Or.inr rfl)) (hd : (x == ("__debug__" : Str)) = false := by decide) (hcd : (x == ("__classdict__" : Str)) = false := by decide) : EE X (.Subscript (.Name x pn) b pos) env k :=
  .of (pe_dget hu (pe_var hN hv hd hcd) pe_can hs) fun M0 B M σ c Q hQ => by
    obtain ⟨s0, hs0, es0, o0, ho0, hr0⟩ := c.slot i _ hi0
    refine ⟨.ref ad, by rw [hs0, es0], h M0 B M σ c _ fun v2 H ⟨d2, env2, B2, M2, e2, c2, s2, r2, kvs, ky, d, hi2, e3, hj, q2⟩ => ?_⟩
    subst e2 e3; cases r2
    obtain ⟨s1, hs1, es1, o1, ho1, ks, rfl, hr⟩ := c2.slot i _ hi2
    obtain ⟨v, hv, rv⟩ := hr.val.1 d hj
    exact ⟨ad, v, rfl, by rw [← hv]; exact DGet.k (J_M ho1), hQ _ _ ((PostD.now c2 rv q2).back s2)⟩
end
section
variable {X : Cx} {K : PySem.W.Frag} {env : Env_} {k : D → Env_ → Prop} {B : Hp}
def isNonD : D → Bool
  | .v .non => true
  | _ => false
theorem isNonD_ok {d : D} {v : V} (r : Rp K B d v) : decide (v = .non) = isNonD d := by
  match d, r with
  | .v x, r =>
    cases r
    cases v <;> first | rfl | exact decide_eq_false (fun z => by cases z)
  | .tup _, ⟨a, xs, e, _⟩ => rw [e]; exact decide_eq_false (fun z => by cases z)
  | .wt _, ⟨a, xs, e, _⟩ => rw [e]; exact decide_eq_false (fun z => by cases z)
  | .lst _, ⟨a, xs, e, _⟩ => rw [e]; exact decide_eq_false (fun z => by cases z)
  | .dct _, ⟨a, xs, e, _⟩ => rw [e]; exact decide_eq_false (fun z => by cases z)
theorem co_isD {d : D} (q : k (Bl (isNonD d)) env) : CO X .Is d Nn env k := .of op_isN fun M0 B M σ c v1 v2 r1 r2 Q hQ => by
  cases r2
  exact ⟨rfl, by rw [isNonD_ok r1]; exact hQ _ _ (.nowA c q)⟩
theorem co_notD {d : D} (q : k (Bl (!isNonD d)) env) : CO X .IsNot d Nn env k := .of op_notN fun M0 B M σ c v1 v2 r1 r2 Q hQ => by
  cases r2
  exact ⟨rfl, by rw [isNonD_ok r1]; exact hQ _ _ (.nowA c q)⟩
end
end Sy
namespace Sy
open PySem PySem.Spec PyProof.Rows L2
/-! ### sorted(xs) of a list of pairs of ints -/
def pLe (p q : Int × Int) : Bool := decide (p.1 < q.1 ∨ (p.1 = q.1 ∧ p.2 ≤ q.2))
def pEnc (p : Int × Int) : PyData := .tuple [.int p.1, .int p.2]
def pD (p : Int × Int) : D := .tup [I p.1, I p.2]
def rSortedP (K : PySem.W.Frag) : List V → Hp → VK → Prop := fun vs H Q => ∃ (a : Addr) (xs : List V) (ps : List (Int × Int)) (R : V → Int × Int → Prop), vs = [.ref a] ∧ SqL K H a xs ∧ Paired R xs ps ∧ (∀ v p, R v p → Dp K H v (pEnc p)) ∧ ps.length ≤ 1000 ∧
  ∀ (ys : List V) (l : Addr), H l = none → Paired R ys (ps.mergeSort pLe) → Q (.ref l) (upd H l (.lst ys))
section
variable {X : Cx}
theorem each_of {R : V → Int × Int → Prop} : ∀ {its : List Value} {xs : List V} {ps : List (Int × Int)}, Vals xs its → Paired R xs ps → PySem.W.EachIs (fun u p => ∃ v, RelV v u ∧ R v p) its ps
  | _, _, _, .nil, .nil => .nil
  | _, _, _, .cons r t, .cons h h2 => .cons ⟨_, r, h⟩ (each_of t h2)
theorem of_each {R : V → Int × Int → Prop} : ∀ {its : List Value} {ps : List (Int × Int)}, PySem.W.EachIs (fun u p => ∃ v, RelV v u ∧ R v p) its ps → ∃ ys : List V, Vals ys its ∧ Paired R ys ps
  | _, _, .nil => ⟨[], .nil, .nil⟩
  | _, _, .cons ⟨v, r, h⟩ t => by
    obtain ⟨ys, h1, h2⟩ := of_each t
    exact ⟨v :: ys, .cons r h1, .cons h h2⟩
theorem pLe_eq : PySem.W.dataLe false pEnc = pLe := by
  have := PySem.W.dataLe_ii (β := Int × Int) (fun p => p.1) (fun p => p.2)
  exact this
theorem cr_sortedP (hu : X.A.units + 64 < cLine) : CallR X (.builtin "sorted") (rSortedP X.K) := by
  intro pins s σ H vs us Q I r h
  obtain ⟨a, xs, ps, R, rfl, hs, hR, hD, h1000, q⟩ := h
  obtain ⟨its, rv, pl, _⟩ := I.list hs
  rw [Vals.ref1 r]
  have e := each_of rv hR
  refine PySem.W.sorted_data (enc := pEnc) (R := fun u p => ∃ v, RelV v u ∧ R v p) pl.isList e (e.mono fun u p ⟨v, r1, r2⟩ => Dp.reads I _ v u (hD v p r2) r1) (PySem.W.AllAlike.of fun b b' => by simp [pEnc, PySem.W.alike, PySem.W.alikeAll]) (PySem.W.Sortable.tuples fun b => ⟨_, _, rfl⟩) (by rw [sizeLine_eq]; omega) (fun b _ => ?_) fun out ho eo => ?_
  · have : (pEnc b).depth ≤ 1 := by simp [pEnc, PyData.depth, PyData.depthAll]
    omega
  · rw [pLe_eq] at eo
    obtain ⟨ys, h1, h2⟩ := of_each eo
    obtain ⟨ep, he'⟩ := PyProof.Rows.sortedAll_at s.heap its out.toArray
    have hlen : ys.length ≤ sizeLine := by rw [h1.length, ho, sizeLine_eq]; omega
    exact ⟨.ref _, upd H (s.heap.objs.size + 1) (.lst ys), I.laid (t' := s.toks) (fun _ _ => PyProof.Rows.sortedAll_old) (Nat.le_succ _) ⟨hlen, out, ep, h1, he'⟩, rfl, q ys _ (I.hok.fresh (Nat.le_succ _)) h2⟩
end
section
variable {X : Cx} {K : PySem.W.Frag} {e : Expr} {env : Env_} {km : MO → Env_ → Prop} {pos p : Pos} {B : Hp}
theorem pD_paired : ∀ {ps : List (Int × Int)} {xs : List V}, RpA K B (ps.map pD) xs → Paired (fun v p => Rp K B (pD p) v) xs ps
  | [], xs, h => by rw [show xs = [] from h]; exact .nil
  | p :: ps, xs, ⟨x, t, e, h1, h2⟩ => by rw [e]; exact .cons h1 (pD_paired h2)
theorem paired_pD : ∀ {ps : List (Int × Int)} {xs : List V}, Paired (fun v p => Rp K B (pD p) v) xs ps → RpA K B (ps.map pD) xs
  | [], _, .nil => rfl
  | p :: ps, _, .cons h1 h2 => ⟨_, _, rfl, h1, paired_pD h2⟩
theorem pD_py (p : Int × Int) : (pD p).py = pEnc p := rfl
/-- sorted(e), a list of pairs of ints -/
theorem em_sortedP (hm : X.mg "sorted" = none) (hu : X.A.units + 64 < cLine) (h : EL X e env fun ds env' => ∃ ps : List (Int × Int), ds = ps.map pD ∧ ps.length ≤ 1000 ∧ km (.lst ((ps.mergeSort pLe).map pD)) env') (hg : Gl X "sorted" := by rfl) (he : starEach (e :: []) X.env = (false, eval e X.env) :: starEach [] X.env := by rfl) (hpl : (backTo pos (starEach [] X.env)).any (·.1) = false := by rfl) : EM X (.Call (.Name "sorted" p) [e] [] pos) env km :=
  .of (pe_callB (cr_sortedP hu) hg hm (by decide +kernel) (pa_cons pe_can pa_nil he) (by decide) (by decide) he hpl) fun M0 B M σ c Q hQ => h M0 B M σ c _ fun v H ⟨ad, xs, ds, env', B', M', e1, e2, c', sm, hs, hr, ps, e3, hl, q⟩ => by
    subst e1 e2 e3
    refine ⟨ad, xs, ps, fun v p => Rp X.K B' (pD p) v, rfl, hs, pD_paired hr, fun v p r => Rp.dp c'.same (pD p) v ⟨trivial, trivial, trivial⟩ r, hl, fun ys l hl2 hp => hQ _ _ ((PostM.newL c' hl2 (paired_pD hp) q).back sm)⟩
end
/-! ### x == e, x != e, x a list of one's own in slot i that goes on -/
section
variable {X : Cx} {b : Expr} {env : Env_} {k : D → Env_ → Prop} {kb : Bool → Env_ → Prop} {pos p : Pos}
theorem ee_neX (i : Nat) {x : Str} {pn : Pos} {ad : Addr} {mo0 : MO} (hu : X.A.units + 64 < cLine) (hi0 : env[i]? = some (.mu ad mo0)) (h : EE X b env fun d2 env2 => ∃ ds, env2[i]? = some (.mu ad (.lst ds)) ∧ (D.lst ds).eqk ∧ d2.eqk ∧ (D.lst ds).dep ≤ 64 ∧ d2.dep ≤ 64 ∧ ∀ v, (v = true ↔ D.lst ds ≠ d2) → k (Bl v) env2)
    (hm : behindInMarks .NotEq b = false := by first | exact nomark _ | rfl) (hN : X.N[i]? = some x := by rfl) (hv : Vis X.env.scope x := by first | exact Or.inl rfl | exact Or.inr (Or.inl rfl) | exact Or.inr (Or.inr rfl)) (hd : (x == ("__debug__" : Str)) = false := by decide) (hcd : (x == ("__classdict__" : Str)) = false := by decide) : EE X (.Compare (.Name x pn) [.NotEq] [b] pos) env k :=
  .of (pe_cmpR (op_neD hu) (pe_var hN hv hd hcd) pe_can hm) fun M0 B M σ c Q hQ => by
    obtain ⟨s0, hs0, es0, o0, ho0, hr0⟩ := c.slot i _ hi0
    refine ⟨.ref ad, by rw [hs0, es0], h M0 B M σ c _ fun v2 H ⟨d2, env2, B2, M2, e2, c2, s2, r2, ds, hi2, k1, k2, p1, p2, q⟩ => ?_⟩
    subst e2
    obtain ⟨s1, hs1, es1, o1, ho1, xs, rfl, hr⟩ := c2.slot i _ hi2
    refine ⟨(D.lst ds).py, d2.py, .lst (SqL.of (J_M ho1)) (RpA.dp c2.same ds xs k1 hr), Rp.dp c2.same d2 v2 k2 r2, eqk_shaped k1 p1, eqk_shaped k2 p2, hQ _ _ ((PostD.nowA c2 (q _ ?_)).back s2)⟩
    have := eqv_iff (D.lst ds) d2 k1 k2
    cases z : PyData.eqv (D.lst ds).py d2.py with
    | true => exact ⟨fun w => (by cases w), fun w => (w (this.mp z)).elim⟩
    | false => exact ⟨fun _ w => (by rw [this.mpr w] at z; cases z), fun _ => rfl⟩
theorem eb_neX (i : Nat) {x : Str} {pn : Pos} {ad : Addr} {mo0 : MO} (hu : X.A.units + 64 < cLine) (hi0 : env[i]? = some (.mu ad mo0)) (h : EE X b env fun d2 env2 => ∃ ds, env2[i]? = some (.mu ad (.lst ds)) ∧ (D.lst ds).eqk ∧ d2.eqk ∧ (D.lst ds).dep ≤ 64 ∧ d2.dep ≤ 64 ∧ ∀ v, (v = true ↔ D.lst ds ≠ d2) → kb v env2)
    (hm : behindInMarks .NotEq b = false := by first | exact nomark _ | rfl) (hN : X.N[i]? = some x := by rfl) (hv : Vis X.env.scope x := by first | exact Or.inl rfl | exact Or.inr (Or.inl rfl) | exact Or.inr (Or.inr rfl)) (hd : (x == ("__debug__" : Str)) = false := by decide) (hcd : (x == ("__classdict__" : Str)) = false := by decide) : EB X (.Compare (.Name x pn) [.NotEq] [b] pos) env kb :=
  .of (pt_cmpR (op_neD hu) (pe_var hN hv hd hcd) pe_can hm) fun M0 B M σ c Q hQ => by
    obtain ⟨s0, hs0, es0, o0, ho0, hr0⟩ := c.slot i _ hi0
    refine ⟨.ref ad, by rw [hs0, es0], h M0 B M σ c _ fun v2 H ⟨d2, env2, B2, M2, e2, c2, s2, r2, ds, hi2, k1, k2, p1, p2, q⟩ => ?_⟩
    subst e2
    obtain ⟨s1, hs1, es1, o1, ho1, xs, rfl, hr⟩ := c2.slot i _ hi2
    refine ⟨(D.lst ds).py, d2.py, .lst (SqL.of (J_M ho1)) (RpA.dp c2.same ds xs k1 hr), Rp.dp c2.same d2 v2 k2 r2, eqk_shaped k1 p1, eqk_shaped k2 p2, _, rfl, hQ _ _ ((PostB.now c2 (q _ ?_)).back s2)⟩
    have := eqv_iff (D.lst ds) d2 k1 k2
    cases z : PyData.eqv (D.lst ds).py d2.py with
    | true => exact ⟨fun w => (by cases w), fun w => (w (this.mp z)).elim⟩
    | false => exact ⟨fun _ w => (by rw [this.mpr w] at z; cases z), fun _ => rfl⟩
end
end Sy
namespace Sy
open PySem PySem.Spec PyProof.Rows L2
/-! ### zip of tuples -/
section
variable {X : Cx} {K : PySem.W.Frag} {e a b c tg iter : Expr} {env : Env_} {k : List D → (Env_ → Prop) → Env_ → Prop} {km : MO → Env_ → Prop} {pos p p2 q : Pos}
variable {M0 B B1 M : Hp} {σ : L2.St}
theorem pair2_rp {B2 M2 : Hp} {T : Addr} {x y : V} {d1 d2 : D} (hd : Dis B2 M2) (hT : J B2 M2 T = none) (r1 : Rp K B2 d1 x) (r2 : Rp K B2 d2 y) : ∃ B3, upd (J B2 M2) T (.tup [x, y]) = J B3 M2 ∧ Same B2 B3 ∧ Dis B3 M2 ∧ Rp K B3 (.wt [d1, d2]) (.ref T) := by
  obtain ⟨h1, h2⟩ := J_none hT
  refine ⟨_, upd_JB h1, same_new h2, fun a u q => ?_, T, _, rfl, SqT.of upd_same, _, _, rfl, Rp.mono (same_new h2) _ _ r1, _, _, rfl, Rp.mono (same_new h2) _ _ r2, rfl⟩
  rw [upd_ne (fun z => by rw [z, h1] at q; cases q)]
  exact hd a u q
theorem ei_zipT {elts : List Expr} {kk : Nat} {tpos : Pos} (hm : X.mg "zip" = none) (h : EE X a env fun d env1 => ∃ ds, d = .tup ds ∧ EE X b env1 fun d2 env2 => ∃ es, d2 = .tup es ∧ k (zipD ds es) Still env2) (hg : Gl X "zip" := by rfl)
    (hs : starEach [a, b] X.env = (false, eval a X.env) :: starEach [b] X.env := by rfl) (hs2 : starEach [b] X.env = [(false, eval b X.env)] := by rfl) (hpl : (backTo pos (starEach [b] X.env)).any (·.1) = false := by rfl) : EI X (.Tuple elts kk tpos) (.Call (.Name "zip" p) [a, b] [] pos) env k :=
  .of (RZ.pi_zipA hg hm (pa_cons pe_can (pa_cons pe_can pa_nil hs2) hs) hs hpl) fun M0 B M σ c R hR => h M0 B M σ c _ fun v H ⟨d, env', B', M', e1, c', sm, r, ds, e2, q⟩ => by
  subst e1 e2
  refine q M0 B' M' σ c' _ fun v2 H ⟨d2, env2, B2, M2, e3, c2, s2, r2, es, e4, q2⟩ => ?_
  subst e3 e4
  obtain ⟨ad, xs, rfl, hs0, hr⟩ := Rp.mono s2 (.tup ds) v r
  obtain ⟨bd, ys, rfl, ht0, ht⟩ := r2
  have hs := hs0.sq
  have ht1 := ht0.sq
  refine ⟨ad, bd, xs, ys, rfl, .inr ⟨sqT_same c2.same hs, sqT_same c2.same ht1, hR _ _ ⟨zipD ds es, Still, env2, B2, M2, rfl, c2, sm.trans s2, fun M0 env3 B3 M3 σ3 s3 c3 _ => ⟨fun i hi => ?_, ?_, fun i d x H' hd hy => ?_⟩, q2⟩⟩⟩
  · rw [zipD_len, ← hr.length, ← ht.length] at hi
    have h1 : i < xs.length := by omega
    have h2 : i < ys.length := by omega
    exact ⟨xs, ys, xs[i], ys[i], sqT_same (s3.trans c3.same) hs, sqT_same (s3.trans c3.same) ht1, List.getElem?_eq_getElem h1, List.getElem?_eq_getElem h2⟩
  · refine ⟨xs, ys, sqT_same (s3.trans c3.same) hs, sqT_same (s3.trans c3.same) ht1, ?_⟩
    rw [zipD_len, ← hr.length, ← ht.length]
    omega
  · obtain ⟨T, x1, y1, rfl, hT, rfl, fx, fy⟩ := hy
    obtain ⟨d1, d3, hd1, hd3, rfl⟩ := zipD_at hd
    obtain ⟨v, hv, rv⟩ := (hr.mono s3).get hd1
    obtain ⟨u, hu, ru⟩ := (ht.mono s3).get hd3
    rw [fx xs (sqT_same (s3.trans c3.same) hs)] at hv
    rw [fy ys (sqT_same (s3.trans c3.same) ht1)] at hu
    cases hv
    cases hu
    exact pair2_rp c3.dis hT rv ru
/-! ### sorted(set(t)), a tuple of ints -/
def tSST (K : PySem.W.Frag) (ta : TE) : TE := fun σ H Q => ta σ H fun x H1 => ∃ (l : Addr) (ns : List Int), x = .ref l ∧ SqT K H1 l (ns.map V.int) ∧ ns.length < 64 ∧
  ∀ (out : List Int) (p : Addr), out.Pairwise (· < ·) → (∀ k : Int, k ∈ out ↔ k ∈ ns) → H1 p = none → Q (.ref p) (upd H1 p (.lst (out.map V.int)))
theorem pe_sst {ta : TE} (hg : Gl X "sorted") (hm : X.mg "sorted" = none) (hg2 : Gl X "set") (hm2 : X.mg "set" = none) (ha : PE X a ta) (hc : X.calm = true := by rfl)
    (na : starEach [a] X.env = (false, eval a X.env) :: starEach [] X.env := by rfl) : PE X (.Call (.Name "sorted" p) [.Call (.Name "set" p2) [a] [] q] [] pos) (tSST X.K ta) := by
  refine ⟨fun pins s σ H Q I h => ?_⟩
  refine Call_ (ld_blt I hg hm (show bootBuiltins "sorted" = some (.builtin "sorted") by decide +kernel) ?_)
  refine PyProof.Rows.callWith_builtin1 (PyProof.Rows.args_cons ?_ rfl) rfl rfl
  refine Call_ (ld_blt I hg2 hm2 boot_set ?_)
  refine PyProof.Rows.callWith_type1 (PyProof.Rows.args_cons (thn (ha.run pins s σ H _ I h) fun v s1 ⟨x, H1, I1, r1, q1⟩ => PyProof.Rows.args_nil ?_) na) na rfl
  obtain ⟨l, ns, rfl, hq, h64, q1⟩ := q1
  cases r1
  obtain ⟨its, r, pl, hz⟩ := I1.tuple hq
  refine call_set_tupI ns (I1.ok.hd hc) (show s1.heap.IsTuple l its.toArray from pl) (by simpa using RZ.intsAre_vals r) (by unfold scanBound; omega) fun h' tk cc hS hcc hk => ?_
  refine PyProof.Rows.args_nil ?_
  have I2 : Inv X pins σ H1 { s1 with heap := h', toks := tk } := I1.kept hk
  have hS2 : SetR X.w ({ s1 with heap := h', toks := tk } : Shared).heap s1.heap.objs.size (fun j => decide (j ∈ ns)) cc := hS
  generalize ({ s1 with heap := h', toks := tk } : Shared) = s2 at hS2 I2 ⊢
  refine sorted_set hS2 (I1.ok.hd hc) (by omega) fun s' p out c ns' k g o hp hg hi hs hm hl => ?_
  have hlen : (ns'.map V.int).length ≤ sizeLine := by rw [List.length_map, hl, sizeLine_eq]; omega
  have hn : H1 p = none := I2.hok.fresh hp
  have e : s' = { s2 with heap := s'.heap, gens := s'.gens, drawn := s'.drawn, toks := s'.toks } := by
    cases s'; cases s2; cases o; rfl
  have J : Inv X pins σ (upd H1 p (.lst (ns'.map V.int))) { s2 with heap := s'.heap, gens := s'.gens, drawn := s'.drawn, toks := s'.toks } :=
    I2.call (ch := []) (Un.laid k hp hn) (I2.hok.laid k hp ⟨hlen, out.toList, c, vals_of_ints hi, hg⟩) (by rw [g]; exact I2.bare) (fun _ z => nomatch z)
  rw [e]
  exact ⟨.ref p, _, J, rfl, q1 ns' p hs (fun k => by rw [hm k]; simp) hn⟩
theorem em_sstT (hm : X.mg "sorted" = none) (hm2 : X.mg "set" = none) (h : EE X a env fun d env' => ∃ ns : List Int, d = .tup (ns.map I) ∧ ns.length < 64 ∧ ∀ out : List Int, out.Pairwise (· < ·) → (∀ k, k ∈ out ↔ k ∈ ns) → km (.lst (out.map I)) env')
    (hg : Gl X "sorted" := by rfl) (hg2 : Gl X "set" := by rfl) (hc : X.calm = true := by rfl) (na : starEach [a] X.env = (false, eval a X.env) :: starEach [] X.env := by rfl) : EM X (.Call (.Name "sorted" p) [.Call (.Name "set" p2) [a] [] q] [] pos) env km :=
  .of (pe_sst hg hm hg2 hm2 pe_can hc na) fun M0 B M σ c Q hQ => h M0 B M σ c _ fun v H ⟨d, env', B', M', e1, c', sm, r, ns, e2, h64, q⟩ => by
  subst e1 e2
  obtain ⟨ad, xs, rfl, hs, hr⟩ := r
  obtain rfl := hr.ints_eq
  refine ⟨ad, ns, rfl, sqT_same c'.same hs.sq, h64, fun out p hp hm hn => hQ _ _ ?_⟩
  obtain ⟨h1, h2⟩ := J_none hn
  exact ⟨p, .lst (out.map I), .lst (out.map V.int), env', B', M', rfl, upd_JM, h1, h2, c', sm, ⟨_, rfl, RpA.ints⟩, q out hp hm⟩
end
/-! ### tuple(range(..)) -/
section
variable {X : Cx} {K : PySem.W.Frag} {e a b : Expr} {env : Env_} {k : D → Env_ → Prop} {pos p p2 pos2 : Pos} {te : L2.St → Hp → (Int → Int → Hp → Prop) → Prop}
def tTupRS (te : L2.St → Hp → (Int → Int → Hp → Prop) → Prop) : TE := fun σ H Q => te σ H fun i j H1 => RgOk i j ∧ NewT Q H1 (rgV i j)
theorem pe_tupRS (hc : X.calm = true) (hg : Gl X "tuple") (hm : X.mg "tuple" = none) (he : PRg X e te) (na : starEach [e] X.env = (false, eval e X.env) :: starEach [] X.env := by rfl) : PE X (.Call (.Name "tuple" p) [e] [] pos) (tTupRS te) := by
  refine ⟨fun pins s σ H Q I h => Call_ (ld_blt I hg hm boot_tuple (PyProof.Rows.callWith_type1 (args_cons (thn (he pins s σ H _ I h) fun x s1 hx => args_nil ?_) na) na))⟩
  obtain ⟨r, i, j, t, u, v, H1, ex, hr, I1, ⟨b1, b2, b3, b4, b5⟩, q⟩ := hx
  subst ex
  refine call_tuple_range (I1.ok.hd hc) hr (small_one b1 b2 b3 b4) (rangeSize_nat i j) b5 fun h2 tk acc hk hi => ?_
  have J : Inv X pins σ H1 { s1 with heap := h2, toks := tk } := I1.kept hk
  have ea : acc = acc.toList.toArray := (Array.toArray_toList).symm
  rw [ea]
  exact ep_newT (s := { s1 with heap := h2, toks := tk }) (tk := tk) J (vals_rg hi) (by rw [rgV_length, sizeLine_eq]; omega) q
theorem ee_tupR1 (hm : X.mg "tuple" = none) (hm2 : X.mg "range" = none) (h : EE X a env fun d env' => ∃ n, d = I n ∧ RgOk 0 n ∧ k (.tup (rgD 0 n)) env') (hc : X.calm = true := by rfl) (hg : Gl X "tuple" := by rfl) (hg2 : Gl X "range" := by rfl)
    (hs : starEach [a] X.env = (false, eval a X.env) :: starEach [] X.env := by rfl) (hpl : (backTo pos2 (starEach [] X.env)).any (·.1) = false := by rfl)
    (na : starEach [.Call (.Name "range" p2) [a] [] pos2] X.env = (false, eval (.Call (.Name "range" p2) [a] [] pos2) X.env) :: starEach [] X.env := by rfl) : EE X (.Call (.Name "tuple" p) [.Call (.Name "range" p2) [a] [] pos2] [] pos) env k :=
  .of (pe_tupRS hc hg hm (prg_1 hg2 hm2 pe_can hs) na) fun M0 B M σ c Q hQ => h M0 B M σ c _ fun v H ⟨d, env', B', M', e1, c', sm, r, n, e2, ok, q⟩ => by
    subst e1 e2; cases r
    exact ⟨n, rfl, ok, fun p o hp h1 h2 => hQ _ _ ((PostD.newT c' hp h1 h2 rg_rp q).back sm)⟩
theorem ee_tupR2 (hm : X.mg "tuple" = none) (hm2 : X.mg "range" = none) (h : EE X a env fun d env' => EE X b env' fun d2 env2 => ∃ x y, d = I x ∧ d2 = I y ∧ RgOk x y ∧ k (.tup (rgD x y)) env2) (hc : X.calm = true := by rfl) (hg : Gl X "tuple" := by rfl) (hg2 : Gl X "range" := by rfl)
    (hs : starEach [a, b] X.env = (false, eval a X.env) :: starEach [b] X.env := by rfl) (hs2 : starEach [b] X.env = (false, eval b X.env) :: starEach [] X.env := by rfl) (hpl : (backTo pos2 (starEach [b] X.env)).any (·.1) = false := by rfl)
    (na : starEach [.Call (.Name "range" p2) [a, b] [] pos2] X.env = (false, eval (.Call (.Name "range" p2) [a, b] [] pos2) X.env) :: starEach [] X.env := by rfl) : EE X (.Call (.Name "tuple" p) [.Call (.Name "range" p2) [a, b] [] pos2] [] pos) env k :=
  .of (pe_tupRS hc hg hm (prg_2 hg2 hm2 pe_can pe_can hs hs2 hpl) na) fun M0 B M σ c Q hQ => h M0 B M σ c _ fun v H ⟨d, env', B', M', e1, c', sm, r, q⟩ => by
    subst e1
    refine q M0 B' M' σ c' _ fun v2 H ⟨d2, env2, B2, M2, e2, c2, s2, r2, x, y, e3, e4, ok, q2⟩ => ?_
    subst e2 e3 e4; cases r; cases r2
    exact ⟨x, y, rfl, rfl, ok, fun p o hp h1 h2 => hQ _ _ ((PostD.newT c2 hp h1 h2 rg_rp q2).back (sm.trans s2))⟩
end
end Sy
namespace Sy
open PySem PySem.Spec PyProof.Rows L2
theorem cut_from {ds : List D} {i : Int} (h : 0 ≤ i) : cutD ds (some i) none = ds.drop i.toNat := by
  obtain ⟨m, rfl⟩ : ∃ m : Nat, i = (m : Int) := ⟨i.toNat, by omega⟩
  unfold cutD
  rw [HT.sIx_nat, HT.sIx_none, Int.toNat_natCast]
  by_cases hm : m ≤ ds.length
  · rw [Nat.min_eq_left hm, List.take_of_length_le (by rw [List.length_drop]; omega)]
  · rw [Nat.min_eq_right (by omega), List.drop_of_length_le (Nat.le_refl _), List.take_nil, List.drop_of_length_le (by omega)]
theorem cut_to {ds : List D} {i : Int} (h : 0 ≤ i) : cutD ds none (some i) = ds.take i.toNat := by
  obtain ⟨m, rfl⟩ : ∃ m : Nat, i = (m : Int) := ⟨i.toNat, by omega⟩
  unfold cutD
  rw [HT.sIx_nat, HT.sIx_none, Int.toNat_natCast, Nat.sub_zero, List.drop_zero]
  by_cases hm : m ≤ ds.length
  · rw [Nat.min_eq_left hm]
  · rw [Nat.min_eq_right (by omega), List.take_of_length_le (Nat.le_refl _), List.take_of_length_le (by omega)]
theorem cut_le {ds : List D} {l u : Option Int} : (Sy.cutD ds l u).length ≤ ds.length := by
  unfold Sy.cutD
  rw [List.length_take, List.length_drop]
  omega
end Sy
/-! ### lanes, in plain lists -/
namespace Ln
/-- the least of a list -/
def lo : List Int → Int
  | [] => 0
  | [x] => x
  | x :: y :: r => min x (lo (y :: r))
theorem lo_mem : ∀ {ns : List Int}, ns ≠ [] → lo ns ∈ ns
  | [], h => absurd rfl h
  | [x], _ => by simp [lo]
  | x :: y :: r, _ => by
    have ih := lo_mem (ns := y :: r) (by simp)
    show min x (lo (y :: r)) ∈ _
    rcases Int.le_total x (lo (y :: r)) with h | h
    · rw [Int.min_eq_left h]; exact List.mem_cons_self
    · rw [Int.min_eq_right h]; exact List.mem_cons_of_mem _ ih
theorem lo_le : ∀ {ns : List Int} {y : Int}, y ∈ ns → lo ns ≤ y
  | [], _, h => by cases h
  | [x], y, h => by
    rw [List.mem_singleton] at h
    rw [h]; exact Int.le_refl _
  | x :: z :: r, y, h => by
    show min x (lo (z :: r)) ≤ y
    rcases List.mem_cons.mp h with h | h
    · rw [h]; exact Int.min_le_left _ _
    · exact Int.le_trans (Int.min_le_right _ _) (lo_le h)
theorem lo_eq {ns : List Int} {m : Int} (h1 : m ∈ ns) (h2 : ∀ y, y ∈ ns → m ≤ y) : m = lo ns :=
  Int.le_antisymm (h2 _ (lo_mem fun z => by rw [z] at h1; cases h1)) (lo_le h1)
/-- the list, sorted -/
def srt (ns : List Int) : List Int := ns.mergeSort (fun a b => decide (a ≤ b))
theorem srt_perm (ns : List Int) : (srt ns).Perm ns := List.mergeSort_perm _ _
theorem srt_pw (ns : List Int) : (srt ns).Pairwise (· ≤ ·) := by
  have h := List.pairwise_mergeSort (le := fun a b : Int => decide (a ≤ b)) (fun a b c h1 h2 => by
    have h1 := of_decide_eq_true h1
    have h2 := of_decide_eq_true h2
    exact decide_eq_true (Int.le_trans h1 h2)) (fun a b => by
    rcases Int.le_total a b with h | h <;> simp [h]) ns
  exact h.imp fun h => of_decide_eq_true h
theorem pw_unique {xs ys : List Int} (h : xs.Perm ys) (h1 : xs.Pairwise (· ≤ ·)) (h2 : ys.Pairwise (· ≤ ·)) : xs = ys :=
  h.eq_of_pairwise (fun a b _ _ x y => Int.le_antisymm x y) h1 h2
theorem srt_eq {ns' ns : List Int} (h : ns'.Perm ns) (hp : ns'.Pairwise (· ≤ ·)) : ns' = srt ns :=
  pw_unique (h.trans (srt_perm ns).symm) hp (srt_pw ns)
theorem srt_len (ns : List Int) : (srt ns).length = ns.length := (srt_perm ns).length_eq
/-- the rules -/
inductive Rl where
  | old
  | rev
  | srt
  deriving DecidableEq
def Rl.str : Rl → PySem.Str
  | .old => "old"
  | .rev => "reversed"
  | .srt => "sorted"
/-- who drives out when the next leaves; who stays; how they go back -/
def outs (ns : List Int) : List Int := ns.drop (ns.idxOf (lo ns) + 1)
def ins (ns : List Int) : List Int := ns.take (ns.idxOf (lo ns))
def back : Rl → List Int → List Int
  | .old, o => o
  | .rev, o => o.reverse
  | .srt, o => (Ln.srt o).reverse
def next (r : Rl) (ns : List Int) : List Int := ins ns ++ back r (outs ns)
theorem back_len (r : Rl) (o : List Int) : (back r o).length = o.length := by
  cases r with
  | old => rfl
  | rev => exact List.length_reverse
  | srt => show (Ln.srt o).reverse.length = _; rw [List.length_reverse, srt_len]
theorem back_perm (r : Rl) (o : List Int) : (back r o).Perm o := by
  cases r with
  | old => exact List.Perm.refl _
  | rev => exact List.reverse_perm _
  | srt => exact (List.reverse_perm _).trans (srt_perm o)
theorem idx_lt {ns : List Int} (h : ns ≠ []) : ns.idxOf (lo ns) < ns.length := List.idxOf_lt_length_of_mem (lo_mem h)
theorem next_len {r : Rl} {ns : List Int} (h : ns ≠ []) : (next r ns).length + 1 = ns.length := by
  have := idx_lt h
  unfold next ins outs
  rw [List.length_append, back_len, List.length_take, List.length_drop]
  omega
theorem outs_len {ns : List Int} : (outs ns).length ≤ ns.length := by
  unfold outs
  rw [List.length_drop]
  omega
/-- the cars that drive out, leaving by leaving -/
def rowsN (r : Rl) : Nat → List Int → List (List Int)
  | 0, _ => []
  | n + 1, ns => outs ns :: rowsN r n (next r ns)
def rows (r : Rl) (ns : List Int) : List (List Int) := rowsN r ns.length ns
theorem rows_nil (r : Rl) : rows r [] = [] := rfl
theorem rows_cons {r : Rl} {ns : List Int} (h : ns ≠ []) : rows r ns = outs ns :: rows r (next r ns) := by
  unfold rows
  have := next_len (r := r) h
  rw [← this]
  rfl
theorem rowsN_len (r : Rl) : ∀ (n : Nat) (ns : List Int), (rowsN r n ns).length = n
  | 0, _ => rfl
  | n + 1, ns => by
    show (rowsN r n (next r ns)).length + 1 = n + 1
    rw [rowsN_len r n]
theorem rows_len (r : Rl) (ns : List Int) : (rows r ns).length = ns.length := rowsN_len r _ _
/-- how many drive out, leaving by leaving -/
def row (r : Rl) (ns : List Int) : List Int := (rows r ns).map fun o => (o.length : Int)
/-- 1 .. n -/
def upto (n : Nat) : List Int := (List.range n).map fun j : Nat => (j : Int) + 1
theorem upto_succ (n : Nat) : upto (n + 1) = upto n ++ [((n : Int) + 1)] := by
  unfold upto
  rw [List.range_succ, List.map_append]
  rfl
theorem upto_len (n : Nat) : (upto n).length = n := by unfold upto; rw [List.length_map, List.length_range]
theorem mem_upto {n : Nat} {x : Int} : x ∈ upto n ↔ 1 ≤ x ∧ x ≤ n := by
  unfold upto
  rw [List.mem_map]
  constructor
  · rintro ⟨j, hj, rfl⟩
    rw [List.mem_range] at hj
    omega
  · rintro ⟨h1, h2⟩
    exact ⟨(x - 1).toNat, by rw [List.mem_range]; omega, by omega⟩
theorem upto_pw (n : Nat) : (upto n).Pairwise (· ≤ ·) := by
  induction n with
  | zero => exact List.Pairwise.nil
  | succ n ih =>
    rw [upto_succ, List.pairwise_append]
    refine ⟨ih, List.pairwise_singleton _ _, fun a ha b hb => ?_⟩
    rw [mem_upto] at ha
    rw [List.mem_singleton] at hb
    omega
theorem upto_nodup (n : Nat) : (upto n).Nodup := by
  induction n with
  | zero => exact List.nodup_nil
  | succ n ih =>
    rw [upto_succ, List.nodup_append]
    refine ⟨ih, List.nodup_cons.mpr ⟨by simp, List.nodup_nil⟩, fun a ha b hb => ?_⟩
    rw [mem_upto] at ha
    rw [List.mem_singleton] at hb
    omega
/-- an order: the numbers 1 .. n, each once, n from 1 to 30 -/
def Ord (ns : List Int) : Prop := 1 ≤ ns.length ∧ ns.length ≤ 30 ∧ ns.Perm (upto ns.length)
theorem ins_perm {cs : List Int} {n : Nat} (s : Nat) (h : cs.Perm (upto n)) : (cs.take s ++ [((n : Int) + 1)] ++ cs.drop s).Perm (upto (n + 1)) := by
  rw [upto_succ]
  have h1 : (cs.take s ++ [((n : Int) + 1)] ++ cs.drop s).Perm (cs.take s ++ cs.drop s ++ [((n : Int) + 1)]) := by
    rw [List.append_assoc, List.append_assoc]
    exact List.Perm.append_left _ List.perm_append_comm
  rw [List.take_append_drop] at h1
  exact h1.trans (h.append_right _)
end Ln
namespace Ln
open PySem PySem.Spec L2
theorem rl_old {r : Rl} (h : decide (V.str r.str = V.str "old") = true) : r = .old := by
  cases r with
  | old => rfl
  | rev => exact absurd h (by decide +kernel)
  | srt => exact absurd h (by decide +kernel)
theorem rl_rev {r : Rl} (h : decide (V.str r.str = V.str "reversed") = true) : r = .rev := by
  cases r with
  | rev => rfl
  | old => exact absurd h (by decide +kernel)
  | srt => exact absurd h (by decide +kernel)
theorem rl_srt {r : Rl} (h : decide (V.str r.str = V.str "sorted") = true) : r = .srt := by
  cases r with
  | srt => rfl
  | old => exact absurd h (by decide +kernel)
  | rev => exact absurd h (by decide +kernel)
theorem rl_nold {r : Rl} (h : decide (V.str r.str = V.str "old") = false) : r ≠ .old := by
  rintro rfl
  exact absurd h (by decide +kernel)
theorem rl_nrev {r : Rl} (h : decide (V.str r.str = V.str "reversed") = false) : r ≠ .rev := by
  rintro rfl
  exact absurd h (by decide +kernel)
theorem rl_nsrt {r : Rl} (h : decide (V.str r.str = V.str "sorted") = false) : r ≠ .srt := by
  rintro rfl
  exact absurd h (by decide +kernel)
theorem rl_in (r : Rl) : (!inV (V.str r.str) [V.str "old", V.str "reversed", V.str "sorted"]) = false := by
  cases r <;> decide +kernel
end Ln
namespace Ln
/-- the records of what is left of a lane: i cars stand further out, m the least of them: number and place, from outside -/
def recs (i : Nat) (m : Int) : List Int → List (Int × Int)
  | [] => []
  | x :: r => if x < m then (x, (i : Int) + 1) :: recs (i + 1) x r else recs (i + 1) m r
/-- the records, in the order of leaving -/
def records (ns : List Int) : List (Int × Int) := (recs 0 ((ns.length : Int) + 1) ns).reverse
theorem recs_len : ∀ (i : Nat) (m : Int) (ns : List Int), (recs i m ns).length ≤ ns.length
  | _, _, [] => Nat.le_refl _
  | i, m, x :: r => by
    show (if x < m then (x, (i : Int) + 1) :: recs (i + 1) x r else recs (i + 1) m r).length ≤ r.length + 1
    split
    · exact Nat.succ_le_succ (recs_len _ _ r)
    · exact Nat.le_succ_of_le (recs_len _ _ r)
theorem records_len (ns : List Int) : (records ns).length ≤ ns.length := by
  unfold records
  rw [List.length_reverse]
  exact recs_len _ _ _
end Ln
namespace Sy
open PySem PySem.Spec PyProof.Rows L2
theorem enumD_ints {ns : List Int} {i : Nat} {d : D} (h : (enumD (ns.map I))[i]? = some d) : ∃ (hi : i < ns.length), d = .wt [I (i : Nat), I ns[i]] := by
  obtain ⟨d0, h1, rfl⟩ := enumD_at h
  rw [List.getElem?_map] at h1
  by_cases hi : i < ns.length
  · rw [List.getElem?_eq_getElem hi] at h1
    cases h1
    exact ⟨hi, rfl⟩
  · rw [List.getElem?_eq_none (by omega)] at h1
    cases h1
end Sy
namespace Ln
theorem rep_one {α : Type} (x : α) : ∀ n : Nat, (List.replicate n [x]).flatten = List.replicate n x
  | 0 => rfl
  | n + 1 => by
    rw [List.replicate_succ, List.flatten_cons, rep_one x n]
    rfl
/-- what is due of a lane by its records -/
def dueStep (n : Nat) (d : List Int) (q : Int × Int) : List Int := d.set (q.1 - 1).toNat ((n : Int) - q.2 - q.1 + 1)
def dueL (ns : List Int) : List Int := (records ns).foldl (dueStep ns.length) (List.replicate ns.length 0)
theorem dueStep_len {n : Nat} {d : List Int} {q : Int × Int} : (dueStep n d q).length = d.length := List.length_set
theorem fold_due_len {n : Nat} : ∀ (rs : List (Int × Int)) (d : List Int), (rs.foldl (dueStep n) d).length = d.length
  | [], _ => rfl
  | q :: rs, d => by
    show (rs.foldl (dueStep n) (dueStep n d q)).length = _
    rw [fold_due_len rs, dueStep_len]
theorem dueL_len (ns : List Int) : (dueL ns).length = ns.length := by
  unfold dueL
  rw [fold_due_len, List.length_replicate]
theorem recs_mem : ∀ {i : Nat} {m : Int} {ns : List Int} {q : Int × Int}, q ∈ recs i m ns → q.1 ∈ ns
  | _, _, [], _, h => by cases h
  | i, m, x :: r, q, h => by
    have h : q ∈ (if x < m then (x, (i : Int) + 1) :: recs (i + 1) x r else recs (i + 1) m r) := h
    split at h
    · rcases List.mem_cons.mp h with h | h
      · rw [h]; exact List.mem_cons_self
      · exact List.mem_cons_of_mem _ (recs_mem h)
    · exact List.mem_cons_of_mem _ (recs_mem h)
theorem records_mem {ns : List Int} {q : Int × Int} (h : q ∈ records ns) : q.1 ∈ ns := by
  unfold records at h
  exact recs_mem (List.mem_reverse.mp h)
theorem ord_mem {ns : List Int} (h : Ord ns) {c : Int} (hc : c ∈ ns) : 1 ≤ c ∧ c ≤ ns.length := mem_upto.mp (h.2.2.mem_iff.mp hc)
end Ln
namespace Sy
open PySem PySem.Spec PyProof.Rows L2
theorem ixN_pos {n : Nat} {j : Int} (h0 : 0 ≤ j) (h1 : j < n) : ixN n j = some j.toNat := by
  unfold ixN
  rw [if_pos h0, if_pos h1]
end Sy
namespace Ln
/-- n numbers from hi downward -/
def downs (hi : Int) (n : Nat) : List Int := (List.range n).map fun i : Nat => hi - i
theorem downs_len (hi : Int) (n : Nat) : (downs hi n).length = n := by unfold downs; rw [List.length_map, List.length_range]
theorem rgS_downs (hi : Int) (n : Nat) : Sy.rgS hi (-1) n = (downs hi n).map Sy.I := by
  unfold Sy.rgS downs
  rw [List.map_map]
  refine List.map_congr_left fun i _ => ?_
  show Sy.I (hi + (i : Int) * -1) = Sy.I (hi - i)
  congr 2
  omega
end Ln
theorem Sy.rgS_len (lo c : Int) (n : Nat) : (Sy.rgS lo c n).length = n := by unfold Sy.rgS; rw [List.length_map, List.length_range]
namespace Ln
/-- how often car c drives out; of each car -/
def dr (r : Rl) (ns : List Int) (c : Int) : Int := (((rows r ns).filter fun o => decide (c ∈ o)).length : Nat)
def drivenL (r : Rl) (ns : List Int) : List Int := (List.range ns.length).map fun j : Nat => dr r ns ((j : Int) + 1)
end Ln
namespace Ln
/-- the records that stand further in than c and leave earlier; the smaller ones that stand further in -/
def cntR (ns : List Int) (c : Int) : Int := (((records ns).filter fun q => decide (q.2 < ((ns.idxOf c : Nat) : Int) + 1) && decide (q.1 < c)).length : Nat)
def cntA (ns : List Int) (c : Int) : Int := (((ns.take (ns.idxOf c)).filter fun x => decide (x < c)).length : Nat)
theorem range_map_succ {α : Type} (f : Nat → α) (j : Nat) : (List.range (j + 1)).map f = (List.range j).map f ++ [f j] := by
  rw [List.range_succ, List.map_append]
  rfl
end Ln

namespace Sy
open PySem PySem.Spec PyProof.Rows L2
theorem enumD_map (ns : List Int) : enumD (ns.map I) = ns.zipIdx.map fun p => D.wt [I (p.2 : Nat), I p.1] := by
  unfold enumD
  rw [List.zipIdx_map, List.map_map]
  rfl
end Sy
namespace Ln
/-- how many pairs of a lane leave the inner one first -/
def pairsN : List Int → Nat
  | [] => 0
  | x :: r => (r.filter fun y => decide (x < y)).length + pairsN r
theorem pairs_sum : ∀ (ns : List Int) (j : Nat), ((ns.zipIdx j).map fun p => ((((ns.drop (p.2 + 1 - j)).filter fun y => decide (p.1 < y)).length : Nat) : Int)).sum = (pairsN ns : Nat)
  | [], _ => rfl
  | x :: r, j => by
    rw [List.zipIdx_cons, List.map_cons, List.sum_cons]
    have e : ((r.zipIdx (j + 1)).map fun p => (((((x :: r).drop (p.2 + 1 - j)).filter fun y => decide (p.1 < y)).length : Nat) : Int)) = (r.zipIdx (j + 1)).map fun p => ((((r.drop (p.2 + 1 - (j + 1))).filter fun y => decide (p.1 < y)).length : Nat) : Int) := by
      refine List.map_congr_left fun p hp => ?_
      have h1 := List.le_snd_of_mem_zipIdx hp
      obtain ⟨k, hk⟩ : ∃ k, p.2 + 1 - j = k + 1 := ⟨p.2 - j, by omega⟩
      rw [hk, List.drop_succ_cons]
      have e2 : p.2 + 1 - (j + 1) = k := by omega
      rw [e2]
    rw [e, pairs_sum r (j + 1)]
    have e3 : j + 1 - j = 1 := by omega
    show (((((x :: r).drop (j + 1 - j)).filter fun y => decide (x < y)).length : Nat) : Int) + _ = _
    rw [e3]
    show (((r.filter fun y => decide (x < y)).length : Nat) : Int) + _ = (((r.filter fun y => decide (x < y)).length + pairsN r : Nat) : Int)
    omega
end Ln

namespace Ln
/-- all orders of the numbers 1 .. n, grown car by car -/
def growA (n : Nat) (l : List Int) : List (List Int) := ((upto n).filter fun c => !decide (c ∈ l)).map fun c => l ++ [c]
def lanesA (n : Nat) : Nat → List (List Int)
  | 0 => [[]]
  | k + 1 => (lanesA n k).flatMap (growA n)
theorem growA_len (n : Nat) (l : List Int) : (growA n l).length ≤ n := by
  unfold growA
  rw [List.length_map]
  refine Nat.le_trans (List.length_filter_le ..) ?_
  rw [upto_len]
  exact Nat.le_refl _
theorem flatA_len (n : Nat) : ∀ ls : List (List Int), (ls.flatMap (growA n)).length ≤ ls.length * n
  | [] => by simp
  | l :: ls => by
    rw [List.flatMap_cons, List.length_append, List.length_cons, Nat.succ_mul]
    have := growA_len n l
    have := flatA_len n ls
    omega
theorem lanesA_len (n : Nat) : ∀ k : Nat, (lanesA n k).length ≤ n ^ k
  | 0 => by simp [lanesA]
  | k + 1 => by
    refine Nat.le_trans (flatA_len n _) ?_
    rw [Nat.pow_succ]
    exact Nat.mul_le_mul_right _ (lanesA_len n k)
end Ln

namespace Ln
/-- the pairs of which the inner one leaves first -/
def pairsL : List Int → List (Int × Int)
  | [] => []
  | x :: r => (r.filter fun y => decide (x < y)).map (fun y => (x, y)) ++ pairsL r
theorem pairsL_len : ∀ ns : List Int, (pairsL ns).length = pairsN ns
  | [] => rfl
  | x :: r => by
    show (((r.filter fun y => decide (x < y)).map fun y => (x, y)) ++ pairsL r).length = (r.filter fun y => decide (x < y)).length + pairsN r
    rw [List.length_append, List.length_map, pairsL_len r]
theorem pairsL_take {ns : List Int} {j : Nat} (h : j < ns.length) : ∃ l, (pairsL ns) = l ++ pairsL (ns.drop j) := by
  induction j generalizing ns with
  | zero => exact ⟨[], rfl⟩
  | succ j ih =>
    cases ns with
    | nil => simp at h
    | cons x r =>
      rw [List.length_cons] at h
      obtain ⟨l, e⟩ := ih (ns := r) (by omega)
      refine ⟨(r.filter fun y => decide (x < y)).map (fun y => (x, y)) ++ l, ?_⟩
      rw [List.append_assoc, List.drop_succ_cons, ← e]
      rfl
theorem pairsN_le : ∀ ns : List Int, pairsN ns ≤ ns.length * ns.length
  | [] => Nat.le_refl _
  | x :: r => by
    show (r.filter fun y => decide (x < y)).length + pairsN r ≤ (r.length + 1) * (r.length + 1)
    have h1 := List.length_filter_le (fun y => decide (x < y)) r
    have h2 := pairsN_le r
    rw [Nat.succ_mul, Nat.mul_succ]
    omega
end Ln
namespace Sy
open PySem PySem.Spec PyProof.Rows L2
theorem cut_init (l : List D) (x : D) : Sy.cutD (l ++ [x]) none (some (-1)) = l := by
  have h : HT.sIx (l ++ [x]).length (l ++ [x]).length (some (-1)) = l.length := by
    unfold HT.sIx
    simp
    omega
  unfold Sy.cutD
  rw [h, HT.sIx_none, Nat.sub_zero, List.drop_zero, List.take_left']
  rfl
end Sy
/-! ### the rule "sorted": what each leaving costs, by the records -/
namespace Ln
theorem row_nil (r : Rl) : row r [] = [] := rfl
theorem row_cons {r : Rl} {ns : List Int} (h : ns ≠ []) : row r ns = ((outs ns).length : Int) :: row r (next r ns) := by
  unfold row
  rw [rows_cons h, List.map_cons]
theorem idxOf_take_ne {a x : Int} : ∀ {A : List Int}, x ∈ A.take (A.idxOf a) → x ≠ a
  | [], h => by simp at h
  | b :: r, h => by
    by_cases e : b = a
    · subst e
      simp at h
    · rw [List.idxOf_cons, beq_false_of_ne e] at h
      rcases List.mem_cons.mp (show x ∈ b :: r.take (r.idxOf a) from h) with h | h
      · rw [h]; exact e
      · exact idxOf_take_ne h
theorem mem_take_of_idx {a : Int} {k : Nat} : ∀ {A : List Int}, a ∈ A → A.idxOf a < k → a ∈ A.take k
  | [], h, _ => by cases h
  | b :: r, h, hk => by
    obtain ⟨k', rfl⟩ : ∃ k', k = k' + 1 := ⟨k - 1, by omega⟩
    by_cases e : b = a
    · subst e
      exact List.mem_cons_self
    · rw [List.idxOf_cons, beq_false_of_ne e] at hk
      rw [List.take_succ_cons]
      exact List.mem_cons_of_mem _ (mem_take_of_idx ((List.mem_cons.mp h).resolve_left fun z => e z.symm) (Nat.lt_of_succ_lt_succ hk))
theorem idx_app_mem {a : Int} {A E : List Int} (h : a ∈ A) : (A ++ E).idxOf a = A.idxOf a := by
  rw [List.idxOf_append, if_pos h]
theorem idx_app_not {a : Int} {A E : List Int} (h : a ∉ A) : (A ++ E).idxOf a = A.length + E.idxOf a := by
  rw [List.idxOf_append, if_neg h]
  omega
theorem idx_split {a : Int} {A : List Int} (h : a ∈ A) : A = A.take (A.idxOf a) ++ a :: A.drop (A.idxOf a + 1) := by
  have hl := List.idxOf_lt_length_of_mem h
  have e : A[A.idxOf a] = a := List.getElem_idxOf hl
  have h1 := (List.take_append_drop (A.idxOf a) A).symm
  rw [List.drop_eq_getElem_cons hl, e] at h1
  exact h1
theorem next_perm {r : Rl} {ns : List Int} (h : ns ≠ []) : (lo ns :: next r ns).Perm ns := by
  have e := idx_split (lo_mem h)
  have h1 : (lo ns :: (ins ns ++ outs ns)).Perm ns := by
    conv => rhs; rw [e]
    exact List.perm_middle.symm
  exact (List.Perm.cons _ (List.Perm.append_left _ (back_perm r _))).trans h1
theorem srt_congr {xs ys : List Int} (h : xs.Perm ys) : srt xs = srt ys := srt_eq ((srt_perm xs).trans h) (srt_pw xs)
theorem srt_cons {r : Rl} {ns : List Int} (h : ns ≠ []) : srt ns = lo ns :: srt (next r ns) := by
  refine (srt_eq ((List.Perm.cons _ (srt_perm _)).trans (next_perm (r := r) h)) ?_).symm
  rw [List.pairwise_cons]
  refine ⟨fun y hy => lo_le ?_, srt_pw _⟩
  exact (next_perm (r := r) h).mem_iff.mp (List.mem_cons_of_mem _ ((srt_perm _).mem_iff.mp hy))
/-- along a list, the t-th at t -/
def tv (g : Nat → Int → Int) : Nat → List Int → List Int
  | _, [] => []
  | t, c :: r => g t c :: tv g (t + 1) r
theorem tv_congr {g h : Nat → Int → Int} : ∀ {l : List Int} {t : Nat}, (∀ t c, c ∈ l → g (t + 1) c = h t c) → tv g (t + 1) l = tv h t l
  | [], _, _ => rfl
  | c :: r, t, e => by
    show g (t + 1) c :: tv g (t + 1 + 1) r = h t c :: tv h (t + 1) r
    rw [e t c List.mem_cons_self, tv_congr fun t c hc => e t c (List.mem_cons_of_mem _ hc)]
theorem tv_len (g : Nat → Int → Int) : ∀ (t : Nat) (l : List Int), (tv g t l).length = l.length
  | _, [] => rfl
  | t, c :: r => by
    show (tv g (t + 1) r).length + 1 = r.length + 1
    rw [tv_len g]
theorem tv_get (g : Nat → Int → Int) : ∀ (t : Nat) (l : List Int) (j : Nat) (c : Int), l[j]? = some c → (tv g t l)[j]? = some (g (t + j) c)
  | _, [], _, _, h => by simp at h
  | t, c :: r, 0, c', h => by
    cases h
    rfl
  | t, c :: r, j + 1, c', h => by
    show (tv g (t + 1) r)[j]? = _
    rw [tv_get g (t + 1) r j c' h]
    congr 2
    omega
/-- c stands in A, and all that stand further in are greater -/
def lmin (A : List Int) (c : Int) : Prop := c ∈ A ∧ ∀ x, x ∈ A.take (A.idxOf c) → c < x
instance (A : List Int) (c : Int) : Decidable (lmin A c) := inferInstanceAs (Decidable (_ ∧ _))
def val (A : List Int) (m t : Nat) (c : Int) : Int := if lmin A c then (m : Int) - t - 1 - (A.idxOf c : Nat) else 0
theorem val_t {A : List Int} {m t : Nat} {c : Int} (h : lmin A c) : val A m t c = (m : Int) - t - 1 - (A.idxOf c : Nat) := if_pos h
theorem val_f {A : List Int} {m t : Nat} {c : Int} (h : ¬ lmin A c) : val A m t c = 0 := if_neg h
theorem val_step {A : List Int} {m t : Nat} {c : Int} : val A (m + 1) (t + 1) c = val A m t c := by
  by_cases h : lmin A c
  · rw [val_t h, val_t h]; omega
  · rw [val_f h, val_f h]
theorem srt_lt {ns : List Int} (h : ns.Nodup) : (srt ns).Pairwise (· < ·) := by
  have h1 : (srt ns).Nodup := (srt_perm ns).nodup_iff.mpr h
  have h2 := List.Pairwise.and (srt_pw ns) h1
  exact h2.imp fun ⟨a, b⟩ => by omega
theorem val_take {A : List Int} {m t : Nat} {c a : Int} (ha : a ∈ A) (hmin : ∀ x, x ∈ A → a ≤ x) (hc : c ≠ a) : val A (m + 1) (t + 1) c = val (A.take (A.idxOf a)) m t c := by
  rw [val_step]
  by_cases h : c ∈ A.take (A.idxOf a)
  · have hi : A.idxOf c = (A.take (A.idxOf a)).idxOf c := by
      conv => lhs; rw [← List.take_append_drop (A.idxOf a) A]
      exact idx_app_mem h
    have hlt : (A.take (A.idxOf a)).idxOf c < A.idxOf a := Nat.lt_of_lt_of_le (List.idxOf_lt_length_of_mem h) (by rw [List.length_take]; omega)
    have ht : (A.take (A.idxOf a)).take ((A.take (A.idxOf a)).idxOf c) = A.take (A.idxOf c) := by
      rw [List.take_take, ← hi, Nat.min_eq_left (by omega)]
    have hl : lmin A c ↔ lmin (A.take (A.idxOf a)) c := by
      unfold lmin
      rw [ht]
      exact ⟨fun x => ⟨h, x.2⟩, fun x => ⟨List.mem_of_mem_take h, x.2⟩⟩
    by_cases hL : lmin A c
    · rw [val_t hL, val_t (hl.mp hL), hi]
    · rw [val_f hL, val_f fun z => hL (hl.mpr z)]
  · rw [val_f (A := A.take _) fun z => h z.1]
    refine val_f fun z => ?_
    have hsp := idx_split ha
    have hle : ¬ A.idxOf c ≤ A.idxOf a := fun hle => by
      rcases Nat.lt_or_eq_of_le hle with h1 | h1
      · exact h (mem_take_of_idx z.1 h1)
      · have e1 : A[A.idxOf c]'(List.idxOf_lt_length_of_mem z.1) = c := List.getElem_idxOf _
        have e2 : A[A.idxOf a]'(List.idxOf_lt_length_of_mem ha) = a := List.getElem_idxOf _
        apply hc
        rw [← e1, ← e2]
        congr 1
    have := z.2 a (mem_take_of_idx ha (by omega))
    have := hmin c z.1
    omega
theorem row_split : ∀ (n : Nat) (A E : List Int), A.length + E.length = n → (A ++ E).Nodup → E.Pairwise (· > ·) → row .srt (A ++ E) = tv (val A n) 0 (srt (A ++ E))
  | 0, A, E, hn, _, _ => by
    obtain rfl : A = [] := List.eq_nil_of_length_eq_zero (by omega)
    obtain rfl : E = [] := List.eq_nil_of_length_eq_zero (by omega)
    show [] = tv _ 0 (srt [])
    have : srt [] = [] := by
      have := srt_len []
      exact List.eq_nil_of_length_eq_zero this
    rw [this]
    rfl
  | n + 1, A, E, hn, hnd, hE => by
    have hne : A ++ E ≠ [] := fun z => by
      have := congrArg List.length z
      simp only [List.length_append, List.length_nil] at this
      omega
    have hmem := lo_mem hne
    have hle : ∀ x, x ∈ A ++ E → lo (A ++ E) ≤ x := fun x hx => lo_le hx
    have hperm := next_perm (r := .srt) hne
    have hnd2 : (lo (A ++ E) :: next .srt (A ++ E)).Nodup := hperm.nodup_iff.mpr hnd
    have hlen := next_len (r := .srt) hne
    rw [row_cons hne, srt_cons (r := .srt) hne]
    show _ :: _ = val A (n + 1) 0 (lo (A ++ E)) :: tv (val A (n + 1)) (0 + 1) (srt (next .srt (A ++ E)))
    have hcne : ∀ c, c ∈ srt (next .srt (A ++ E)) → c ≠ lo (A ++ E) := fun c hc z => by
      rw [z] at hc
      exact (List.nodup_cons.mp hnd2).1 ((srt_perm _).mem_iff.mp hc)
    by_cases hA : lo (A ++ E) ∈ A
    · have hi : (A ++ E).idxOf (lo (A ++ E)) = A.idxOf (lo (A ++ E)) := idx_app_mem hA
      have hlt := List.idxOf_lt_length_of_mem hA
      have hout : outs (A ++ E) = A.drop (A.idxOf (lo (A ++ E)) + 1) ++ E := by
        unfold outs
        rw [hi, List.drop_append_of_le_length (by omega)]
      have hins : ins (A ++ E) = A.take (A.idxOf (lo (A ++ E))) := by
        unfold ins
        rw [hi, List.take_append_of_le_length (by omega)]
      have hnext : next .srt (A ++ E) = A.take (A.idxOf (lo (A ++ E))) ++ (srt (outs (A ++ E))).reverse := by
        show ins _ ++ (srt (outs _)).reverse = _
        rw [hins]
      have hnd3 : (next .srt (A ++ E)).Nodup := (List.nodup_cons.mp hnd2).2
      have hond : (outs (A ++ E)).Nodup := by
        unfold outs
        exact hnd.sublist (List.drop_sublist _ _)
      rw [List.length_append] at hlen
      have ih := row_split n (A.take (A.idxOf (lo (A ++ E)))) (srt (outs (A ++ E))).reverse (by rw [← List.length_append, ← hnext]; omega) (by rw [← hnext]; exact hnd3) (by
        rw [List.pairwise_reverse]
        exact srt_lt hond)
      rw [← hnext] at ih
      rw [ih]
      congr 1
      · have hl : lmin A (lo (A ++ E)) := ⟨hA, fun x hx => by
          have h1 := idxOf_take_ne hx
          have h2 := hle x (List.mem_append_left _ (List.mem_of_mem_take hx))
          omega⟩
        rw [val_t hl, hout, List.length_append, List.length_drop]
        omega
      · exact (tv_congr fun t c hc => val_take hA (fun x hx => hle x (List.mem_append_left _ hx)) (hcne c hc)).symm
    · have hEm : lo (A ++ E) ∈ E := (List.mem_append.mp hmem).resolve_left hA
      have hEne : E ≠ [] := fun z => by rw [z] at hEm; cases hEm
      obtain ⟨E1, e, rfl⟩ : ∃ E1 e, E = E1 ++ [e] := ⟨E.dropLast, E.getLast hEne, (List.dropLast_concat_getLast hEne).symm⟩
      rw [List.pairwise_append] at hE
      have he : lo (A ++ (E1 ++ [e])) = e := by
        rcases List.mem_append.mp hEm with h | h
        · have h1 := hE.2.2 _ h e (List.mem_singleton.mpr rfl)
          have h2 := hle e (by simp)
          omega
        · exact List.mem_singleton.mp h
      rw [he] at hA hcne
      have hE1 : e ∉ E1 := fun z => by
        have := hE.2.2 _ z e (List.mem_singleton.mpr rfl)
        omega
      have hi : (A ++ (E1 ++ [e])).idxOf e = A.length + E1.length := by
        rw [idx_app_not hA, idx_app_not hE1]
        simp
      have hout : outs (A ++ (E1 ++ [e])) = [] := by
        unfold outs
        rw [he, hi]
        refine List.drop_of_length_le ?_
        simp
        omega
      have hnext : next .srt (A ++ (E1 ++ [e])) = A ++ E1 := by
        show ins _ ++ (srt (outs _)).reverse = _
        rw [hout]
        have e0 : srt [] = [] := List.eq_nil_of_length_eq_zero (srt_len [])
        rw [e0, List.reverse_nil, List.append_nil]
        unfold ins
        rw [he, hi, ← List.append_assoc, List.take_append_of_le_length (by rw [List.length_append]; omega), List.take_of_length_le (by rw [List.length_append]; omega)]
      rw [List.length_append, List.length_singleton] at hn
      have hnd3 : (next .srt (A ++ (E1 ++ [e]))).Nodup := (List.nodup_cons.mp hnd2).2
      rw [hnext] at hnd3 hcne ⊢
      rw [row_split n A E1 (by omega) hnd3 hE.1]
      congr 1
      · rw [hout, he, val_f fun z => hA z.1]
        rfl
      · exact (tv_congr fun t c hc => val_step).symm
/-- a lane's costs -/
theorem row_srt {ns : List Int} (h : ns.Nodup) : row .srt ns = tv (val ns ns.length) 0 (srt ns) := by
  have := row_split ns.length ns [] (by simp) (by rw [List.append_nil]; exact h) List.Pairwise.nil
  rw [List.append_nil] at this
  exact this
theorem ord_nodup {ns : List Int} (h : Ord ns) : ns.Nodup := h.2.2.nodup_iff.mpr (upto_nodup _)
theorem ord_srt {ns : List Int} (h : Ord ns) : srt ns = upto ns.length := (srt_eq h.2.2.symm (upto_pw _)).symm
theorem upto_get {n j : Nat} (h : j < n) : (upto n)[j]? = some ((j : Int) + 1) := by
  unfold upto
  rw [List.getElem?_map, List.getElem?_range h]
  rfl
end Ln
namespace Ln
theorem recs_cons (i : Nat) (m x : Int) (r : List Int) : recs i m (x :: r) = if x < m then (x, (i : Int) + 1) :: recs (i + 1) x r else recs (i + 1) m r := rfl
theorem lmin_cons {x c : Int} {r : List Int} (h : x ≠ c) : lmin (x :: r) c ↔ c < x ∧ lmin r c := by
  unfold lmin
  rw [List.idxOf_cons, beq_false_of_ne h]
  show c ∈ x :: r ∧ (∀ y, y ∈ (x :: r).take (r.idxOf c + 1) → c < y) ↔ _
  rw [List.take_succ_cons]
  constructor
  · rintro ⟨h1, h2⟩
    exact ⟨h2 x List.mem_cons_self, (List.mem_cons.mp h1).resolve_left fun z => h z.symm, fun y hy => h2 y (List.mem_cons_of_mem _ hy)⟩
  · rintro ⟨h1, h2, h3⟩
    refine ⟨List.mem_cons_of_mem _ h2, fun y hy => ?_⟩
    rcases List.mem_cons.mp hy with e | hy
    · rw [e]; exact h1
    · exact h3 y hy
theorem lmin_self {x : Int} {r : List Int} : lmin (x :: r) x := by
  refine ⟨List.mem_cons_self, fun y hy => ?_⟩
  rw [List.idxOf_cons_self] at hy
  cases hy
/-- the records are those that stand further in than every smaller one -/
theorem mem_recs : ∀ {l : List Int} {i : Nat} {m : Int} {q : Int × Int}, q ∈ recs i m l ↔ lmin l q.1 ∧ q.1 < m ∧ q.2 = (i : Int) + (l.idxOf q.1 : Nat) + 1
  | [], i, m, q => by
    constructor
    · intro h; cases h
    · rintro ⟨⟨h, _⟩, _⟩; cases h
  | x :: r, i, m, q => by
    rw [recs_cons]
    by_cases hc : x = q.1
    · by_cases hm : x < m
      · rw [if_pos hm, List.mem_cons]
        constructor
        · rintro (h | h)
          · rw [h]
            refine ⟨lmin_self, hm, ?_⟩
            rw [List.idxOf_cons_self]
            show (i : Int) + 1 = (i : Int) + (0 : Nat) + 1
            omega
          · have := (mem_recs.mp h).2.1
            omega
        · rintro ⟨h1, h2, h3⟩
          left
          rw [← hc, List.idxOf_cons_self] at h3
          obtain ⟨a, b⟩ := q
          simp only at hc h3
          rw [h3, hc]
          simp
      · rw [if_neg hm]
        constructor
        · intro h
          have := (mem_recs.mp h).2.1
          omega
        · rintro ⟨h1, h2, h3⟩
          omega
    · have hi : (x :: r).idxOf q.1 = r.idxOf q.1 + 1 := by rw [List.idxOf_cons, beq_false_of_ne hc]; rfl
      rw [lmin_cons hc, hi]
      by_cases hm : x < m
      · rw [if_pos hm, List.mem_cons, mem_recs]
        constructor
        · rintro (h | ⟨h1, h2, h3⟩)
          · exact absurd (congrArg Prod.fst h).symm hc
          · exact ⟨⟨h2, h1⟩, by omega, by rw [h3]; push_cast; omega⟩
        · rintro ⟨⟨h1, h2⟩, h3, h4⟩
          exact .inr ⟨h2, h1, by rw [h4]; push_cast; omega⟩
      · rw [if_neg hm, mem_recs]
        constructor
        · rintro ⟨h1, h2, h3⟩
          exact ⟨⟨by omega, h1⟩, h2, by rw [h3]; push_cast; omega⟩
        · rintro ⟨⟨h1, h2⟩, h3, h4⟩
          exact ⟨h2, h3, by rw [h4]; push_cast; omega⟩
theorem recs_pw : ∀ (l : List Int) (i : Nat) (m : Int), (recs i m l).Pairwise fun a b => b.1 < a.1 ∧ a.2 < b.2
  | [], _, _ => List.Pairwise.nil
  | x :: r, i, m => by
    rw [recs_cons]
    split
    · rw [List.pairwise_cons]
      refine ⟨fun q hq => ?_, recs_pw r _ _⟩
      have h := mem_recs.mp hq
      exact ⟨h.2.1, by show (i : Int) + 1 < q.2; rw [h.2.2]; push_cast; omega⟩
    · exact recs_pw r _ _
theorem mem_records {ns : List Int} (h : Ord ns) {q : Int × Int} : q ∈ records ns ↔ lmin ns q.1 ∧ q.2 = (ns.idxOf q.1 : Nat) + 1 := by
  unfold records
  rw [List.mem_reverse, mem_recs]
  constructor
  · rintro ⟨h1, _, h2⟩
    exact ⟨h1, by omega⟩
  · rintro ⟨h1, h2⟩
    have := ord_mem h h1.1
    exact ⟨h1, by omega, by omega⟩
theorem records_ne (ns : List Int) : (records ns).Pairwise fun a b => a.1 ≠ b.1 := by
  unfold records
  rw [List.pairwise_reverse]
  exact (recs_pw ns _ _).imp fun h => by omega
theorem fold_off {n : Nat} {j : Nat} : ∀ {rs : List (Int × Int)} {d : List Int}, (∀ q, q ∈ rs → (q.1 - 1).toNat ≠ j) → (rs.foldl (dueStep n) d)[j]? = d[j]?
  | [], _, _ => rfl
  | q :: rs, d, h => by
    show (rs.foldl (dueStep n) (dueStep n d q))[j]? = _
    rw [fold_off fun q hq => h q (List.mem_cons_of_mem _ hq)]
    exact List.getElem?_set_ne (h q List.mem_cons_self)
theorem fold_at {n : Nat} {q : Int × Int} : ∀ {rs : List (Int × Int)} {d : List Int}, q ∈ rs → (∀ q, q ∈ rs → 1 ≤ q.1 ∧ q.1 ≤ n) → rs.Pairwise (fun a b => a.1 ≠ b.1) → d.length = n → (rs.foldl (dueStep n) d)[(q.1 - 1).toNat]? = some ((n : Int) - q.2 - q.1 + 1)
  | [], _, h, _, _, _ => by cases h
  | q0 :: rs, d, h, hb, hp, hl => by
    show (rs.foldl (dueStep n) (dueStep n d q0))[_]? = _
    rw [List.pairwise_cons] at hp
    have hb0 := hb q0 List.mem_cons_self
    rcases List.mem_cons.mp h with e | h
    · subst e
      rw [fold_off fun q' hq' => by
        have h1 := hp.1 q' hq'
        have h2 := hb q' (List.mem_cons_of_mem _ hq')
        omega]
      exact List.getElem?_set_self (by omega)
    · exact fold_at h (fun q hq => hb q (List.mem_cons_of_mem _ hq)) hp.2 (by rw [dueStep_len, hl])
theorem fold_off_mem {ns : List Int} (h : Ord ns) {q : Int × Int} (hq : q ∈ records ns) : 1 ≤ q.1 ∧ q.1 ≤ ns.length := ord_mem h (records_mem hq)
/-- each leaving's cost, by the records -/
theorem due_get {ns : List Int} (h : Ord ns) {j : Nat} (hj : j < ns.length) : (dueL ns)[j]? = some (val ns ns.length j ((j : Int) + 1)) := by
  unfold dueL
  by_cases hL : lmin ns ((j : Int) + 1)
  · have hq := (mem_records h (q := ((j : Int) + 1, (ns.idxOf ((j : Int) + 1) : Nat) + 1))).mpr ⟨hL, rfl⟩
    have := fold_at hq (fun q hq => fold_off_mem h hq) (records_ne ns) (List.length_replicate (n := ns.length) (a := (0 : Int)))
    have e : (((j : Int) + 1, ((ns.idxOf ((j : Int) + 1) : Nat) : Int) + 1) : Int × Int).1 - 1 = (j : Int) := by simp
    rw [e, Int.toNat_natCast] at this
    rw [this, val_t hL]
    congr 1
    simp only
    omega
  · rw [fold_off, val_f hL, List.getElem?_replicate, if_pos hj]
    intro q hq z
    have h1 := fold_off_mem h hq
    have h2 := ((mem_records h).mp hq).1
    have : q.1 = (j : Int) + 1 := by omega
    rw [this] at h2
    exact hL h2
theorem T1 {ns : List Int} (h : Ord ns) : row .srt ns = dueL ns := by
  rw [row_srt (ord_nodup h), ord_srt h]
  refine List.ext_getElem? fun j => ?_
  by_cases hj : j < ns.length
  · rw [due_get h hj, tv_get _ 0 _ j _ (upto_get hj), Nat.zero_add]
  · rw [List.getElem?_eq_none (by rw [tv_len, upto_len]; omega), List.getElem?_eq_none (by rw [dueL_len]; omega)]
/-- the sum of the costs of records -/
def rsum (n : Nat) (rs : List (Int × Int)) : Int := (rs.map fun q => (n : Int) - q.2 - q.1 + 1).sum
theorem sum_set : ∀ {d : List Int} {j : Nat} {v : Int}, d[j]? = some 0 → (d.set j v).sum = d.sum + v
  | [], _, _, h => by simp at h
  | x :: d, 0, v, h => by
    cases h
    show (v :: d).sum = ((0 : Int) :: d).sum + v
    rw [List.sum_cons, List.sum_cons]
    omega
  | x :: d, j + 1, v, h => by
    show (x :: d.set j v).sum = (x :: d).sum + v
    rw [List.sum_cons, List.sum_cons, sum_set (d := d) h]
    omega
theorem fold_sum {n : Nat} : ∀ {rs : List (Int × Int)} {d : List Int}, (∀ q, q ∈ rs → 1 ≤ q.1 ∧ q.1 ≤ n ∧ d[(q.1 - 1).toNat]? = some 0) → rs.Pairwise (fun a b => a.1 ≠ b.1) → (rs.foldl (dueStep n) d).sum = d.sum + rsum n rs
  | [], d, _, _ => by
    show d.sum = d.sum + 0
    omega
  | q :: rs, d, h, hp => by
    rw [List.pairwise_cons] at hp
    have hq := h q List.mem_cons_self
    show (rs.foldl (dueStep n) (dueStep n d q)).sum = _
    rw [fold_sum (fun q' hq' => ?_) hp.2]
    · unfold dueStep
      rw [sum_set hq.2.2]
      show _ = d.sum + (((n : Int) - q.2 - q.1 + 1) :: rs.map fun q => (n : Int) - q.2 - q.1 + 1).sum
      rw [List.sum_cons]
      unfold rsum
      omega
    · have h1 := h q' (List.mem_cons_of_mem _ hq')
      refine ⟨h1.1, h1.2.1, ?_⟩
      unfold dueStep
      rw [List.getElem?_set_ne (by have := hp.1 q' hq'; omega)]
      exact h1.2.2
theorem sum_rep : ∀ n : Nat, (List.replicate n (0 : Int)).sum = 0
  | 0 => rfl
  | n + 1 => by rw [List.replicate_succ, List.sum_cons, sum_rep n]; rfl
theorem due_sum {ns : List Int} (h : Ord ns) : (dueL ns).sum = rsum ns.length (records ns) := by
  unfold dueL
  rw [fold_sum (fun q hq => ?_) (records_ne ns), sum_rep]
  · omega
  · have := fold_off_mem h hq
    refine ⟨this.1, this.2, ?_⟩
    rw [List.getElem?_replicate, if_pos (by omega)]
theorem sum_rev : ∀ l : List Int, l.reverse.sum = l.sum
  | [] => rfl
  | x :: l => by
    rw [List.reverse_cons, List.sum_append, sum_rev l, List.sum_cons, List.sum_cons, List.sum_nil]
    omega
theorem rsum_rev (n : Nat) (rs : List (Int × Int)) : rsum n rs.reverse = rsum n rs := by
  unfold rsum
  rw [List.map_reverse, sum_rev]
theorem rsum_recs {ns : List Int} : rsum ns.length (records ns) = rsum ns.length (recs 0 ((ns.length : Int) + 1) ns) := rsum_rev _ _
/-- records fall in number and rise in place -/
theorem rsum_le {n : Nat} : ∀ {rs : List (Int × Int)} {s : Int}, rs.Pairwise (fun a b => b.1 < a.1 ∧ a.2 < b.2) → (∀ q, q ∈ rs → 1 ≤ q.1 ∧ s + 1 ≤ q.2) → (∀ q, q ∈ rs.head? → (rs.length : Int) ≤ q.1) ∧ rsum n rs ≤ (rs.length : Int) * ((n : Int) - rs.length - s)
  | [], s, _, _ => ⟨fun q hq => (by cases hq), by show (0 : Int) ≤ ((0 : Nat) : Int) * ((n : Int) - (0 : Nat) - s); simp⟩
  | q :: rs, s, hp, hb => by
    rw [List.pairwise_cons] at hp
    have hq := hb q List.mem_cons_self
    have ih := rsum_le (n := n) (rs := rs) (s := s + 1) hp.2 fun q' hq' => ⟨(hb q' (List.mem_cons_of_mem _ hq')).1, by have := hp.1 q' hq'; omega⟩
    have hh : ((rs.length : Int) + 1) ≤ q.1 := by
      cases rs with
      | nil => simp; omega
      | cons q1 rs =>
        have h1 := ih.1 q1 rfl
        have h2 := hp.1 q1 List.mem_cons_self
        omega
    refine ⟨fun q' hq' => ?_, ?_⟩
    · cases hq'
      rw [List.length_cons]
      push_cast
      exact hh
    · have h2 := ih.2
      have e : rsum n (q :: rs) = ((n : Int) - q.2 - q.1 + 1) + rsum n rs := by
        unfold rsum
        rw [List.map_cons, List.sum_cons]
      rw [e, List.length_cons]
      push_cast
      have e2 : (n : Int) - ((rs.length : Int) + 1) - s = (n : Int) - rs.length - (s + 1) := by omega
      rw [e2, Int.add_mul, Int.one_mul]
      omega
theorem quarter : ∀ n : Fin 31, ∀ k : Fin 31, ((k.val : Nat) : Int) * (((n.val : Nat) : Int) - k.val) ≤ ((n.val : Nat) : Int) * n.val / 4 := by decide +kernel
theorem T1s {ns : List Int} (h : Ord ns) : (dueL ns).sum ≤ (ns.length : Int) * ns.length / 4 := by
  rw [due_sum h, rsum_recs]
  have h1 := (rsum_le (n := ns.length) (s := 0) (recs_pw ns 0 ((ns.length : Int) + 1)) fun q hq => by
    have h2 := mem_recs.mp hq
    have h3 := ord_mem h h2.1.1
    exact ⟨h3.1, by omega⟩).2
  have h2 := recs_len 0 ((ns.length : Int) + 1) ns
  have h3 := h.2.1
  have h4 := quarter ⟨ns.length, by omega⟩ ⟨(recs 0 ((ns.length : Int) + 1) ns).length, by omega⟩
  simp only at h4
  have e : (ns.length : Int) - (recs 0 ((ns.length : Int) + 1) ns).length - 0 = (ns.length : Int) - (recs 0 ((ns.length : Int) + 1) ns).length := by omega
  rw [e] at h1
  omega
theorem downs_succ (a : Int) (k : Nat) : downs a (k + 1) = a :: downs (a - 1) k := by
  unfold downs
  rw [List.range_succ_eq_map, List.map_cons, List.map_map]
  congr 1
  · simp
  · refine List.map_congr_left fun i _ => ?_
    show a - ((i + 1 : Nat) : Int) = a - 1 - i
    omega
theorem recs_none {i : Nat} {m : Int} : ∀ {l : List Int}, (∀ x, x ∈ l → m ≤ x) → recs i m l = []
  | [], _ => rfl
  | x :: r, h => by
    rw [recs_cons, if_neg (by have := h x List.mem_cons_self; omega)]
    exact recs_none fun y hy => h y (List.mem_cons_of_mem _ hy)
theorem rsum_downs {n : Nat} {F : List Int} : ∀ (k : Nat) (i : Nat) (a m : Int), (∀ x, x ∈ F → a < x) → a < m → rsum n (recs i m (downs a (k + 1) ++ F)) = ((k : Int) + 1) * ((n : Int) - i - a)
  | 0, i, a, m, hF, hm => by
    rw [downs_succ]
    show rsum n (recs i m (a :: ([] ++ F))) = _
    rw [recs_cons, if_pos hm, List.nil_append, recs_none fun x hx => by have := hF x hx; omega]
    show ((n : Int) - ((i : Int) + 1) - a + 1) + 0 = _
    simp
    omega
  | k + 1, i, a, m, hF, hm => by
    rw [downs_succ]
    show rsum n (recs i m (a :: (downs (a - 1) (k + 1) ++ F))) = _
    rw [recs_cons, if_pos hm]
    have ih := rsum_downs (n := n) (F := F) k (i + 1) (a - 1) a (fun x hx => by have := hF x hx; omega) (by omega)
    have e : rsum n ((a, (i : Int) + 1) :: recs (i + 1) a (downs (a - 1) (k + 1) ++ F)) = ((n : Int) - ((i : Int) + 1) - a + 1) + rsum n (recs (i + 1) a (downs (a - 1) (k + 1) ++ F)) := by
      unfold rsum
      rw [List.map_cons, List.sum_cons]
    rw [e, ih]
    have e2 : (n : Int) - ((i + 1 : Nat) : Int) - (a - 1) = (n : Int) - i - a := by omega
    have e3 : ((k + 1 : Nat) : Int) + 1 = ((k : Int) + 1) + 1 := by omega
    rw [e2, e3, Int.add_mul ((k : Int) + 1), Int.one_mul]
    omega
theorem mem_downs {a x : Int} {k : Nat} : x ∈ downs a k ↔ a - k < x ∧ x ≤ a := by
  unfold downs
  rw [List.mem_map]
  constructor
  · rintro ⟨j, hj, rfl⟩
    rw [List.mem_range] at hj
    omega
  · rintro ⟨h1, h2⟩
    exact ⟨(a - x).toNat, by rw [List.mem_range]; omega, by omega⟩
theorem downs_nodup : ∀ (k : Nat) (a : Int), (downs a k).Nodup
  | 0, _ => List.nodup_nil
  | k + 1, a => by
    rw [downs_succ, List.nodup_cons]
    refine ⟨fun h => ?_, downs_nodup k _⟩
    have := mem_downs.mp h
    omega
theorem half_quarter : ∀ n : Fin 31, ((n.val : Nat) : Int) / 2 * (((n.val : Nat) : Int) - (n.val : Nat) / 2) = ((n.val : Nat) : Int) * n.val / 4 := by decide +kernel
theorem T3 {ns : List Int} (h : Ord ns) : Ord (downs ((ns.length : Int) / 2) ((ns.length : Int) / 2).toNat ++ ns.filter fun x => decide ((ns.length : Int) / 2 < x)) ∧ (row .srt (downs ((ns.length : Int) / 2) ((ns.length : Int) / 2).toNat ++ ns.filter fun x => decide ((ns.length : Int) / 2 < x))).sum = (ns.length : Int) * ns.length / 4 := by
  have hperm : (downs ((ns.length : Int) / 2) ((ns.length : Int) / 2).toNat ++ ns.filter fun x => decide ((ns.length : Int) / 2 < x)).Perm (upto ns.length) := by
    refine (List.perm_ext_iff_of_nodup ?_ (upto_nodup _)).mpr fun x => ?_
    · rw [List.nodup_append]
      refine ⟨downs_nodup _ _, (ord_nodup h).sublist List.filter_sublist, fun a ha b hb => ?_⟩
      have h1 := mem_downs.mp ha
      have h2 := of_decide_eq_true (List.mem_filter.mp hb).2
      omega
    · rw [List.mem_append, mem_downs, List.mem_filter, mem_upto, h.2.2.mem_iff, mem_upto]
      simp only [decide_eq_true_eq]
      omega
  have hlen := hperm.length_eq
  rw [upto_len] at hlen
  have ho : Ord (downs ((ns.length : Int) / 2) ((ns.length : Int) / 2).toNat ++ ns.filter fun x => decide ((ns.length : Int) / 2 < x)) := ⟨by rw [hlen]; exact h.1, by rw [hlen]; exact h.2.1, by rw [hlen]; exact hperm⟩
  refine ⟨ho, ?_⟩
  rw [T1 ho, due_sum ho, rsum_recs, hlen]
  have hq := half_quarter ⟨ns.length, by have := h.2.1; omega⟩
  simp only at hq
  rw [← hq]
  cases hk : ((ns.length : Int) / 2).toNat with
  | zero =>
    have h1 := h.1
    have e : ns.length = 1 := by omega
    have ep := h.2.2
    rw [e] at ep
    have e1 : ns = [1] := List.perm_singleton.mp (ep.trans (by decide))
    rw [e1]
    decide
  | succ k =>
    have hk2 : (ns.length : Int) / 2 = (k : Int) + 1 := by omega
    rw [rsum_downs k 0 _ _ (fun x hx => of_decide_eq_true (List.mem_filter.mp hx).2) (by omega), hk2]
    congr 1
theorem T4all : ∀ n : Fin 31, 1 ≤ n.val → Ord (downs ((n.val : Nat) / 2 : Int) ((n.val : Nat) / 2 : Int).toNat ++ downs (n.val : Nat) (((n.val : Nat) : Int) - ((n.val : Nat) : Int) / 2).toNat) ∧ (row .old (downs ((n.val : Nat) / 2 : Int) ((n.val : Nat) / 2 : Int).toNat ++ downs (n.val : Nat) (((n.val : Nat) : Int) - ((n.val : Nat) : Int) / 2).toNat)).sum = ((n.val : Nat) : Int) * n.val / 4 := by
  unfold Ord
  decide +kernel
theorem T4 {n : Nat} (h1 : 1 ≤ n) (h2 : n ≤ 30) : Ord (downs ((n : Int) / 2) ((n : Int) / 2).toNat ++ downs n ((n : Int) - (n : Int) / 2).toNat) ∧ (row .old (downs ((n : Int) / 2) ((n : Int) / 2).toNat ++ downs n ((n : Int) - (n : Int) / 2).toNat)).sum = (n : Int) * n / 4 := T4all ⟨n, by omega⟩ h1
theorem T5all : ∀ n : Fin 31, 1 ≤ n.val → Ord (downs (n.val : Nat) (((n.val : Nat) : Int)).toNat) ∧ (dueL (downs (n.val : Nat) (((n.val : Nat) : Int)).toNat)).sum = 0 := by
  unfold Ord
  decide +kernel
theorem T5 {n : Nat} (h1 : 1 ≤ n) (h2 : n ≤ 30) : Ord (downs n (n : Int).toNat) ∧ (row .srt (downs n (n : Int).toNat)).sum = 0 := by
  have := T5all ⟨n, by omega⟩ h1
  exact ⟨this.1, by rw [T1 this.1]; exact this.2⟩
end Ln
/-! ### who drives out how often; no rule drives less than "sorted" -/
namespace Ln
theorem dr_cons {r : Rl} {L : List Int} {c : Int} (h : L ≠ []) : dr r L c = (if c ∈ outs L then 1 else 0) + dr r (next r L) c := by
  unfold dr
  rw [rows_cons h, List.filter_cons]
  by_cases hc : c ∈ outs L
  · rw [if_pos (decide_eq_true hc), if_pos hc, List.length_cons]
    omega
  · rw [if_neg (by simpa using hc), if_neg hc]
    omega
theorem outs_sub {L : List Int} {x : Int} (h : x ∈ outs L) : x ∈ L := List.mem_of_mem_drop h
theorem next_sub {r : Rl} {L : List Int} {x : Int} (h : L ≠ []) (hx : x ∈ next r L) : x ∈ L := (next_perm (r := r) h).mem_iff.mp (List.mem_cons_of_mem _ hx)
theorem next_nodup {r : Rl} {L : List Int} (h : L ≠ []) (hn : L.Nodup) : (lo L :: next r L).Nodup := (next_perm (r := r) h).nodup_iff.mpr hn
theorem lo_outs {L : List Int} (h : L ≠ []) (hn : L.Nodup) : lo L ∉ outs L := fun z => by
  have e := idx_split (lo_mem h)
  rw [e] at hn
  have h1 := (List.nodup_append.mp hn).2.1
  exact (List.nodup_cons.mp h1).1 z
theorem dr_not {r : Rl} {c : Int} : ∀ (n : Nat) (L : List Int), L.length = n → c ∉ L → dr r L c = 0
  | 0, L, hn, _ => by
    rw [List.eq_nil_of_length_eq_zero hn]
    rfl
  | n + 1, L, hn, hc => by
    have hne : L ≠ [] := fun z => by rw [z] at hn; cases hn
    rw [dr_cons hne, if_neg fun z => hc (outs_sub z), dr_not n (next r L) (by have := next_len (r := r) hne; omega) fun z => hc (next_sub hne z)]
    rfl
theorem dr_lo {r : Rl} {L : List Int} (h : L ≠ []) (hn : L.Nodup) : dr r L (lo L) = 0 := by
  rw [dr_cons h, if_neg (lo_outs h hn), dr_not _ _ rfl (List.nodup_cons.mp (next_nodup (r := r) h hn)).1]
  rfl
theorem ord_ne {ns : List Int} (h : Ord ns) : ns ≠ [] := fun z => by
  have := h.1
  rw [z] at this
  simp at this
theorem ord_lo {ns : List Int} (h : Ord ns) : lo ns = 1 := by
  have h1 : (1 : Int) ∈ ns := h.2.2.mem_iff.mpr (mem_upto.mpr ⟨by decide, by have := h.1; omega⟩)
  have h2 := lo_le h1
  have h3 := (ord_mem h (lo_mem (ord_ne h))).1
  omega
theorem K5 {r : Rl} {ns : List Int} (h : Ord ns) : (drivenL r ns)[0]? = some 0 := by
  unfold drivenL
  rw [List.getElem?_map, List.getElem?_range (by have := h.1; omega)]
  show some (dr r ns (((0 : Nat) : Int) + 1)) = some 0
  have := dr_lo (r := r) (ord_ne h) (ord_nodup h)
  rw [ord_lo h] at this
  rw [← this]
  rfl
theorem cnt_in {o : List Int} : ∀ (U : List Int), (U.map fun c => if c ∈ o then (1 : Int) else 0).sum = ((U.filter fun c => decide (c ∈ o)).length : Nat)
  | [] => rfl
  | c :: U => by
    rw [List.map_cons, List.sum_cons, cnt_in U, List.filter_cons]
    by_cases h : c ∈ o
    · rw [if_pos h, if_pos (decide_eq_true h), List.length_cons]
      omega
    · rw [if_neg h, if_neg (by simpa using h)]
      omega
theorem sum_add (f g : Int → Int) : ∀ (U : List Int), (U.map fun c => f c + g c).sum = (U.map f).sum + (U.map g).sum
  | [] => rfl
  | c :: U => by
    rw [List.map_cons, List.sum_cons, sum_add f g U, List.map_cons, List.map_cons, List.sum_cons, List.sum_cons]
    omega
theorem sum_zero {f : Int → Int} : ∀ {U : List Int}, (∀ c, c ∈ U → f c = 0) → (U.map f).sum = 0
  | [], _ => rfl
  | c :: U, h => by
    rw [List.map_cons, List.sum_cons, h c List.mem_cons_self, sum_zero fun c hc => h c (List.mem_cons_of_mem _ hc)]
    rfl
theorem dr_sum {r : Rl} {U : List Int} (hU : U.Nodup) : ∀ (n : Nat) (L : List Int), L.length = n → L.Nodup → (∀ x, x ∈ L → x ∈ U) → (U.map (dr r L)).sum = (row r L).sum
  | 0, L, hn, _, _ => by
    rw [List.eq_nil_of_length_eq_zero hn]
    exact sum_zero fun _ _ => rfl
  | n + 1, L, hn, hd, hs => by
    have hne : L ≠ [] := fun z => by rw [z] at hn; cases hn
    have e : U.map (dr r L) = U.map fun c => (if c ∈ outs L then (1 : Int) else 0) + dr r (next r L) c := List.map_congr_left fun c _ => dr_cons hne
    have ih := dr_sum (r := r) hU n (next r L) (by have := next_len (r := r) hne; omega) (List.nodup_cons.mp (next_nodup (r := r) hne hd)).2 fun x hx => hs x (next_sub hne hx)
    rw [e, sum_add, ih, row_cons hne, List.sum_cons, cnt_in]
    have hp : (U.filter fun c => decide (c ∈ outs L)).Perm (outs L) := by
      refine (List.perm_ext_iff_of_nodup (hU.sublist List.filter_sublist) (hd.sublist (List.drop_sublist _ _))).mpr fun x => ?_
      rw [List.mem_filter]
      simp only [decide_eq_true_eq]
      exact ⟨fun h => h.2, fun h => ⟨hs x (outs_sub h), h⟩⟩
    rw [hp.length_eq]
theorem driven_map (r : Rl) (ns : List Int) : drivenL r ns = (upto ns.length).map (dr r ns) := by
  unfold drivenL upto
  rw [List.map_map]
  rfl
theorem K3 {r : Rl} {ns : List Int} (h : Ord ns) : (drivenL r ns).sum = (row r ns).sum := by
  rw [driven_map]
  exact dr_sum (upto_nodup _) _ ns rfl (ord_nodup h) fun x hx => h.2.2.mem_iff.mp hx
/-! A lane A ++ E, E falling: the least stands in A, or it is E's last -/
theorem caseA {A E : List Int} (h : lo (A ++ E) ∈ A) : outs (A ++ E) = A.drop (A.idxOf (lo (A ++ E)) + 1) ++ E ∧ ins (A ++ E) = A.take (A.idxOf (lo (A ++ E))) := by
  have hi : (A ++ E).idxOf (lo (A ++ E)) = A.idxOf (lo (A ++ E)) := idx_app_mem h
  have hlt := List.idxOf_lt_length_of_mem h
  constructor
  · unfold outs
    rw [hi, List.drop_append_of_le_length (by omega)]
  · unfold ins
    rw [hi, List.take_append_of_le_length (by omega)]
theorem caseE {A E : List Int} (hne : A ++ E ≠ []) (h : lo (A ++ E) ∉ A) (hE : E.Pairwise (· > ·)) : ∃ E1, E = E1 ++ [lo (A ++ E)] ∧ outs (A ++ E) = [] ∧ ins (A ++ E) = A ++ E1 := by
  have hEm : lo (A ++ E) ∈ E := (List.mem_append.mp (lo_mem hne)).resolve_left h
  have hEne : E ≠ [] := fun z => by rw [z] at hEm; cases hEm
  obtain ⟨E1, e, rfl⟩ : ∃ E1 e, E = E1 ++ [e] := ⟨E.dropLast, E.getLast hEne, (List.dropLast_concat_getLast hEne).symm⟩
  rw [List.pairwise_append] at hE
  have he : lo (A ++ (E1 ++ [e])) = e := by
    rcases List.mem_append.mp hEm with h | h
    · have h1 := hE.2.2 _ h e (List.mem_singleton.mpr rfl)
      have h2 := lo_le (ns := A ++ (E1 ++ [e])) (y := e) (by simp)
      omega
    · exact List.mem_singleton.mp h
  have hE1 : e ∉ E1 := fun z => by
    have := hE.2.2 _ z e (List.mem_singleton.mpr rfl)
    omega
  rw [he] at h
  have hi : (A ++ (E1 ++ [e])).idxOf e = A.length + E1.length := by
    rw [idx_app_not h, idx_app_not hE1]
    simp
  refine ⟨E1, by rw [he], ?_, ?_⟩
  · unfold outs
    rw [he, hi]
    refine List.drop_of_length_le ?_
    simp
    omega
  · unfold ins
    rw [he, hi, ← List.append_assoc, List.take_append_of_le_length (by rw [List.length_append]; omega), List.take_of_length_le (by rw [List.length_append]; omega)]
theorem lo_congr {xs ys : List Int} (h : xs.Perm ys) : lo xs = lo ys := by
  by_cases hx : xs = []
  · subst hx
    rw [List.nil_perm.mp h]
  · have hy : ys ≠ [] := fun z => by
      subst z
      exact hx (List.perm_nil.mp h)
    have h1 := lo_le (h.mem_iff.mpr (lo_mem hy))
    have h2 := lo_le (h.mem_iff.mp (lo_mem hx))
    omega
/-- S by "sorted", L by any other way, from the same beginning: the same prefix, behind it the same cars, S's falling -/
def Dom (S L : List Int) : Prop := ∃ A E E', S = A ++ E ∧ L = A ++ E' ∧ E'.Perm E ∧ E.Pairwise (· > ·)
theorem Dom.refl (L : List Int) : Dom L L := ⟨L, [], [], by simp, by simp, List.Perm.refl _, List.Pairwise.nil⟩
theorem Dom.perm {S L : List Int} (h : Dom S L) : L.Perm S := by
  obtain ⟨A, E, E', rfl, rfl, hp, _⟩ := h
  exact hp.append_left A
theorem dom_step {S L b : List Int} (h : Dom S L) (hne : S ≠ []) (hn : S.Nodup) (hb : b.Perm (outs L)) : (outs S).length ≤ (outs L).length ∧ Dom (next .srt S) (ins L ++ b) := by
  have hLS := h.perm
  obtain ⟨A, E, E', rfl, rfl, hp, hE⟩ := h
  have hlo := lo_congr hLS
  by_cases hA : lo (A ++ E) ∈ A
  · have hA' : lo (A ++ E') ∈ A := by rw [hlo]; exact hA
    obtain ⟨o1, i1⟩ := caseA hA
    obtain ⟨o2, i2⟩ := caseA hA'
    rw [hlo] at o2 i2
    have hp2 : (outs (A ++ E')).Perm (outs (A ++ E)) := by
      rw [o1, o2]
      exact hp.append_left _
    refine ⟨Nat.le_of_eq hp2.length_eq.symm, A.take (A.idxOf (lo (A ++ E))), (Ln.srt (outs (A ++ E))).reverse, b, ?_, by rw [i2], ?_, ?_⟩
    · show ins _ ++ _ = _
      rw [i1]
      rfl
    · exact (hb.trans hp2).trans ((srt_perm _).symm.trans (List.reverse_perm _).symm)
    · rw [List.pairwise_reverse]
      exact srt_lt (hn.sublist (List.drop_sublist _ _))
  · obtain ⟨E1, e1, o1, i1⟩ := caseE hne hA hE
    rw [o1]
    generalize hmm : lo (A ++ E) = m at *
    refine ⟨Nat.zero_le _, A, E1, E'.take (E'.idxOf (m)) ++ b, ?_, ?_, ?_, ?_⟩
    · show ins _ ++ (Ln.srt (outs _)).reverse = _
      have e0 : Ln.srt [] = [] := List.eq_nil_of_length_eq_zero (srt_len [])
      rw [o1, i1, e0, List.reverse_nil, List.append_nil]
    · have hi : (A ++ E').idxOf (m) = A.length + E'.idxOf (m) := idx_app_not hA
      unfold ins
      rw [hlo, hi, List.take_length_add_append, List.append_assoc]
    · have hm : m ∈ E' := hp.mem_iff.mpr (by rw [e1]; simp)
      have hs := idx_split hm
      have ho : outs (A ++ E') = E'.drop (E'.idxOf (m) + 1) := by
        have hi : (A ++ E').idxOf (m) = A.length + E'.idxOf (m) := idx_app_not hA
        unfold outs
        rw [hlo, hi, Nat.add_assoc, List.drop_length_add_append]
      rw [ho] at hb
      refine (hb.append_left _).trans ?_
      refine List.Perm.cons_inv (a := m) ?_
      refine List.perm_middle.symm.trans ?_
      rw [← hs]
      refine hp.trans ?_
      rw [e1]
      exact List.perm_append_comm
    · rw [e1, List.pairwise_append] at hE
      exact hE.1
theorem dom_next {S L : List Int} {r : Rl} (h : Dom S L) (hne : S ≠ []) (hn : S.Nodup) : (outs S).length ≤ (outs L).length ∧ Dom (next .srt S) (next r L) := dom_step h hne hn (back_perm r _)
/-- at each leaving no fewer cars than by "sorted" -/
theorem dom_rows {r : Rl} : ∀ (n : Nat) (S L : List Int), S.length = n → Dom S L → S.Nodup → (row .srt S).sum ≤ (row r L).sum ∧ ∀ (t : Nat) (x y : Int), (row .srt S)[t]? = some x → (row r L)[t]? = some y → x ≤ y
  | 0, S, L, hn, hd, _ => by
    have e1 := List.eq_nil_of_length_eq_zero hn
    have e2 : L = [] := List.eq_nil_of_length_eq_zero (by rw [hd.perm.length_eq, hn])
    rw [e1, e2]
    exact ⟨Int.le_refl _, fun t x y h => by simp [row_nil] at h⟩
  | n + 1, S, L, hn, hd, hnd => by
    have hne : S ≠ [] := fun z => by rw [z] at hn; cases hn
    have hneL : L ≠ [] := fun z => by
      have := hd.perm.length_eq
      rw [z, hn] at this
      cases this
    obtain ⟨h1, h2⟩ := dom_next (r := r) hd hne hnd
    obtain ⟨h3, h4⟩ := dom_rows (r := r) n _ _ (by have := next_len (r := .srt) hne; omega) h2 (List.nodup_cons.mp (next_nodup (r := .srt) hne hnd)).2
    rw [row_cons hne, row_cons hneL, List.sum_cons, List.sum_cons]
    refine ⟨by omega, fun t x y hx hy => ?_⟩
    cases t with
    | zero =>
      cases hx
      cases hy
      omega
    | succ t => exact h4 t x y hx hy
theorem K4 {r : Rl} {ns : List Int} (h : Ord ns) : (row .srt ns).sum ≤ (row r ns).sum := (dom_rows (r := r) _ ns ns rfl (Dom.refl ns) (ord_nodup h)).1
end Ln
namespace Ln
theorem split_lo {L : List Int} (h : L ≠ []) : L = ins L ++ lo L :: outs L := idx_split (lo_mem h)
theorem idxOf_not {c : Int} {P : List Int} (h : c ∉ P) : P.idxOf c = P.length := List.idxOf_eq_length h
theorem filt_congr {α : Type} {p q : α → Bool} {l : List α} (h : ∀ x, x ∈ l → p x = q x) : (l.filter p).length = (l.filter q).length := by rw [List.filter_congr h]
theorem filt_none {α : Type} {p : α → Bool} {l : List α} (h : ∀ x, x ∈ l → p x = false) : (l.filter p).length = 0 := by
  rw [List.length_eq_zero_iff, List.filter_eq_nil_iff]
  intro x hx
  rw [h x hx]
  exact Bool.false_ne_true
theorem take_mid {P Q : List Int} {m : Int} {k : Nat} : (P ++ m :: Q).take (P.length + (k + 1)) = P ++ m :: Q.take k := by
  rw [List.take_length_add_append, List.take_succ_cons]
theorem dr_old {c : Int} : ∀ (n : Nat) (L : List Int), L.length = n → L.Nodup → c ∈ L → dr .old L c = cntA L c
  | 0, L, hn, _, hc => by
    rw [List.eq_nil_of_length_eq_zero hn] at hc
    cases hc
  | n + 1, L, hn, hnd, hc => by
    have hne : L ≠ [] := fun z => by rw [z] at hn; cases hn
    have hle : ∀ x, x ∈ L → lo L ≤ x := fun x hx => lo_le hx
    have hsp := split_lo hne
    have hlen := next_len (r := .old) hne
    have hdn := List.nodup_cons.mp (next_nodup (r := .old) hne hnd)
    have hnx : next .old L = ins L ++ outs L := rfl
    have ih := dr_old (c := c) n (next .old L) (by omega) hdn.2
    have hd := hnd
    rw [hsp, List.nodup_append] at hd
    by_cases h0 : c = lo L
    · rw [h0, dr_lo hne hnd]
      unfold cntA
      rw [filt_none fun x hx => by
        have := hle x (List.mem_of_mem_take hx)
        simp
        omega]
      rfl
    · rw [dr_cons hne]
      rw [hnx] at ih
      unfold cntA at ih ⊢
      by_cases hP : c ∈ ins L
      · have hQ : c ∉ outs L := fun z => (hd.2.2 c hP c (List.mem_cons_of_mem _ z)) rfl
        rw [if_neg hQ, hnx, ih (List.mem_append_left _ hP), idx_app_mem hP]
        have e : L.idxOf c = (ins L).idxOf c := by
          conv => lhs; rw [hsp]
          exact idx_app_mem hP
        have hl := List.idxOf_lt_length_of_mem hP
        have e2 : L.take ((ins L).idxOf c) = (ins L).take ((ins L).idxOf c) := (congrArg (fun l => l.take ((ins L).idxOf c)) hsp).trans (List.take_append_of_le_length (by omega))
        have e3 : (ins L ++ outs L).take ((ins L).idxOf c) = (ins L).take ((ins L).idxOf c) := List.take_append_of_le_length (by omega)
        rw [e, e2, e3]
        omega
      · have hQ : c ∈ outs L := by
          rw [hsp] at hc
          rcases List.mem_append.mp hc with h | h
          · exact absurd h hP
          · exact (List.mem_cons.mp h).resolve_left h0
        rw [if_pos hQ, hnx, ih (List.mem_append_right _ hQ), idx_app_not hP, List.take_length_add_append]
        have e : L.idxOf c = (ins L).length + ((outs L).idxOf c + 1) := by
          conv => lhs; rw [hsp]
          rw [idx_app_not hP, List.idxOf_cons, beq_false_of_ne fun z => h0 z.symm]
          rfl
        have e2 : L.take (L.idxOf c) = ins L ++ lo L :: (outs L).take ((outs L).idxOf c) := by
          rw [e]
          exact (congrArg (fun l => l.take ((ins L).length + ((outs L).idxOf c + 1))) hsp).trans take_mid
        rw [e2, List.filter_append, List.filter_append, List.filter_cons, if_pos (decide_eq_true (by have := hle c hc; omega))]
        simp only [List.length_append, List.length_cons]
        omega
theorem K2 {ns : List Int} (h : Ord ns) : drivenL .old ns = (List.range ns.length).map fun j : Nat => cntA ns ((j : Int) + 1) := by
  unfold drivenL
  refine List.map_congr_left fun j hj => dr_old _ ns rfl (ord_nodup h) (h.2.2.mem_iff.mpr (mem_upto.mpr ?_))
  rw [List.mem_range] at hj
  omega
theorem recs_split {m : Int} {Q : List Int} : ∀ {P : List Int} {i : Nat} {M : Int}, (∀ x, x ∈ P → m < x) → (∀ x, x ∈ Q → m < x) → m < M → recs i M (P ++ m :: Q) = recs i M P ++ [(m, ((i + P.length : Nat) : Int) + 1)]
  | [], i, M, _, hQ, hM => by
    show recs i M (m :: Q) = [] ++ _
    rw [recs_cons, if_pos hM, recs_none fun x hx => by have := hQ x hx; omega]
    rfl
  | x :: P, i, M, hP, hQ, hM => by
    show recs i M (x :: (P ++ m :: Q)) = _
    have hx := hP x List.mem_cons_self
    have hP' : ∀ x, x ∈ P → m < x := fun y hy => hP y (List.mem_cons_of_mem _ hy)
    have el : i + 1 + P.length = i + (x :: P).length := by rw [List.length_cons]; omega
    rw [recs_cons, recs_cons]
    split
    · rw [recs_split hP' hQ hx, el]
      rfl
    · rw [recs_split hP' hQ hM, el]
/-- the records of A further in than c and less -/
def cR (M : Int) (A : List Int) (c : Int) : Int := (((recs 0 M A).filter fun q => decide (q.2 < ((A.idxOf c : Nat) : Int) + 1) && decide (q.1 < c)).length : Nat)
theorem dr_srt {c M : Int} : ∀ (n : Nat) (A E : List Int), A.length + E.length = n → (A ++ E).Nodup → E.Pairwise (· > ·) → (∀ x, x ∈ A → x < M) → c ∈ A ++ E → dr .srt (A ++ E) c = cR M A c
  | 0, A, E, hn, _, _, _, hc => by
    obtain rfl : A = [] := List.eq_nil_of_length_eq_zero (by omega)
    obtain rfl : E = [] := List.eq_nil_of_length_eq_zero (by omega)
    cases hc
  | n + 1, A, E, hn, hnd, hE, hM, hc => by
    have hne : A ++ E ≠ [] := fun z => by
      have := congrArg List.length z
      simp only [List.length_append, List.length_nil] at this
      omega
    have hle : ∀ x, x ∈ A ++ E → lo (A ++ E) ≤ x := fun x hx => lo_le hx
    have hlen := next_len (r := .srt) hne
    have hdn := List.nodup_cons.mp (next_nodup (r := .srt) hne hnd)
    have hpm := next_perm (r := .srt) hne
    have hLn : (A ++ E).length = n + 1 := by rw [List.length_append, hn]
    have hrA : ∀ q, q ∈ recs 0 M A → q.1 ∈ A := fun q hq => (mem_recs.mp hq).1.1
    by_cases h0 : c = lo (A ++ E)
    · rw [h0, dr_lo hne hnd]
      unfold cR
      rw [filt_none fun q hq => by
        have := hle q.1 (List.mem_append_left _ (hrA q hq))
        have e : decide (q.1 < lo (A ++ E)) = false := decide_eq_false (by omega)
        rw [e, Bool.and_false]]
      rfl
    · have hcn : c ∈ next .srt (A ++ E) := (List.mem_cons.mp (hpm.mem_iff.mpr hc)).resolve_left h0
      rw [dr_cons hne]
      by_cases hA : lo (A ++ E) ∈ A
      · obtain ⟨o1, i1⟩ := caseA hA
        have hsp := idx_split hA
        have hlt := List.idxOf_lt_length_of_mem hA
        have hnx : next .srt (A ++ E) = A.take (A.idxOf (lo (A ++ E))) ++ (Ln.srt (outs (A ++ E))).reverse := by
          show ins _ ++ _ = _
          rw [i1]
          rfl
        have hmA : ∀ x, x ∈ A → x ≠ lo (A ++ E) → lo (A ++ E) < x := fun x hx hz => by
          have := hle x (List.mem_append_left _ hx)
          omega
        have hdA : A.Nodup := (List.nodup_append.mp hnd).1
        rw [hsp, List.nodup_append] at hdA
        have hP : ∀ x, x ∈ A.take (A.idxOf (lo (A ++ E))) → lo (A ++ E) < x := fun x hx => hmA x (List.mem_of_mem_take hx) (idxOf_take_ne hx)
        have hQ : ∀ x, x ∈ A.drop (A.idxOf (lo (A ++ E)) + 1) → lo (A ++ E) < x := fun x hx => hmA x (List.mem_of_mem_drop hx) fun z => (List.nodup_cons.mp hdA.2.1).1 (by rw [z] at hx; exact hx)
        have hrs : recs 0 M A = recs 0 M (A.take (A.idxOf (lo (A ++ E)))) ++ [(lo (A ++ E), ((A.idxOf (lo (A ++ E)) : Nat) : Int) + 1)] := by
          conv => lhs; rw [hsp]
          rw [recs_split hP hQ (hM _ hA), Nat.zero_add, List.length_take, Nat.min_eq_left (by omega)]
        have ih := dr_srt (c := c) (M := M) n (A.take (A.idxOf (lo (A ++ E)))) (Ln.srt (outs (A ++ E))).reverse (by rw [← List.length_append, ← hnx]; omega) (by rw [← hnx]; exact hdn.2) (by
          rw [List.pairwise_reverse]
          exact srt_lt (hnd.sublist (List.drop_sublist _ _))) (fun x hx => hM x (List.mem_of_mem_take hx)) (by rw [← hnx]; exact hcn)
        rw [← hnx] at ih
        rw [ih]
        unfold cR
        rw [hrs, List.filter_append, List.length_append]
        have hrP : ∀ q, q ∈ recs 0 M (A.take (A.idxOf (lo (A ++ E)))) → q.2 ≤ ((A.idxOf (lo (A ++ E)) : Nat) : Int) := fun q hq => by
          have h1 := mem_recs.mp hq
          have h2 := List.idxOf_lt_length_of_mem h1.1.1
          rw [List.length_take] at h2
          have h3 := h1.2.2
          omega
        by_cases hcP : c ∈ A.take (A.idxOf (lo (A ++ E)))
        · have hi : A.idxOf c = (A.take (A.idxOf (lo (A ++ E)))).idxOf c := by
            conv => lhs; rw [hsp]
            exact idx_app_mem hcP
          have hi2 := List.idxOf_lt_length_of_mem hcP
          rw [List.length_take] at hi2
          have hno : c ∉ outs (A ++ E) := fun z => by
            have hd := hnd
            rw [split_lo hne, List.nodup_append] at hd
            rw [← i1] at hcP
            exact hd.2.2 c hcP c (List.mem_cons_of_mem _ z) rfl
          rw [if_neg hno, hi, List.filter_cons, if_neg]
          · show _ = ((_ + 0 : Nat) : Int)
            omega
          · have e : decide (((A.idxOf (lo (A ++ E)) : Nat) : Int) + 1 < (((A.take (A.idxOf (lo (A ++ E)))).idxOf c : Nat) : Int) + 1) = false := decide_eq_false (by omega)
            simp only [e, Bool.false_and]
            exact Bool.false_ne_true
        · have hyes : c ∈ outs (A ++ E) := by
            rw [split_lo hne, i1] at hc
            rcases List.mem_append.mp hc with h | h
            · exact absurd h hcP
            · exact (List.mem_cons.mp h).resolve_left h0
          have hi : A.idxOf (lo (A ++ E)) < A.idxOf c := by
            refine Nat.lt_of_not_le fun hle2 => ?_
            by_cases hcA : c ∈ A
            · rcases Nat.lt_or_eq_of_le hle2 with h1 | h1
              · exact hcP (mem_take_of_idx hcA h1)
              · have e1 : A[A.idxOf c]'(List.idxOf_lt_length_of_mem hcA) = c := List.getElem_idxOf _
                have e2 : A[A.idxOf (lo (A ++ E))]'hlt = lo (A ++ E) := List.getElem_idxOf _
                apply h0
                rw [← e2]
                conv => lhs; rw [← e1]
                congr 1
            · rw [idxOf_not hcA] at hle2
              omega
          rw [if_pos hyes, List.filter_cons, if_pos, idxOf_not hcP]
          · have hfc : ((recs 0 M (A.take (A.idxOf (lo (A ++ E))))).filter fun q => decide (q.2 < (((A.take (A.idxOf (lo (A ++ E)))).length : Nat) : Int) + 1) && decide (q.1 < c)).length = ((recs 0 M (A.take (A.idxOf (lo (A ++ E))))).filter fun q => decide (q.2 < ((A.idxOf c : Nat) : Int) + 1) && decide (q.1 < c)).length := filt_congr fun q hq => by
              have h1 := hrP q hq
              have e1 : decide (q.2 < (((A.take (A.idxOf (lo (A ++ E)))).length : Nat) : Int) + 1) = true := decide_eq_true (by rw [List.length_take]; omega)
              have e2 : decide (q.2 < ((A.idxOf c : Nat) : Int) + 1) = true := decide_eq_true (by omega)
              simp only [e1, e2]
            rw [hfc]
            show _ = ((_ + 1 : Nat) : Int)
            omega
          · have e1 : decide (((A.idxOf (lo (A ++ E)) : Nat) : Int) + 1 < ((A.idxOf c : Nat) : Int) + 1) = true := decide_eq_true (by omega)
            have e2 : decide (lo (A ++ E) < c) = true := decide_eq_true (by have := hle c hc; omega)
            simp only [e1, e2]
            rfl
      · obtain ⟨E1, e1, o1, i1⟩ := caseE hne hA hE
        have hnx : next .srt (A ++ E) = A ++ E1 := by
          show ins _ ++ (Ln.srt (outs _)).reverse = _
          have e0 : Ln.srt [] = [] := List.eq_nil_of_length_eq_zero (srt_len [])
          rw [o1, i1, e0, List.reverse_nil, List.append_nil]
        have hE1 : E1.Pairwise (· > ·) := by
          generalize lo (A ++ E) = m at *
          rw [e1, List.pairwise_append] at hE
          exact hE.1
        rw [o1, hnx, if_neg (by simp)]
        rw [hnx] at hlen hdn hcn
        rw [dr_srt (c := c) (M := M) n A E1 (by rw [List.length_append] at hlen; omega) hdn.2 hE1 hM hcn]
        omega
theorem K1 {ns : List Int} (h : Ord ns) : drivenL .srt ns = (List.range ns.length).map fun j : Nat => cntR ns ((j : Int) + 1) := by
  unfold drivenL
  refine List.map_congr_left fun j hj => ?_
  rw [List.mem_range] at hj
  have hc : (j : Int) + 1 ∈ ns := h.2.2.mem_iff.mpr (mem_upto.mpr (by omega))
  have := dr_srt (c := (j : Int) + 1) (M := (ns.length : Int) + 1) ns.length ns [] (by simp) (by rw [List.append_nil]; exact ord_nodup h) List.Pairwise.nil (fun x hx => by have := ord_mem h hx; omega) (by rw [List.append_nil]; exact hc)
  rw [List.append_nil] at this
  rw [this]
  unfold cR cntR records
  rw [List.filter_reverse, List.length_reverse]
end Ln
namespace Sy
open PySem PySem.Spec PyProof.Rows L2
/-! ### set(l), a list of ints, the table kept as one that can be walked -/
section
variable {P : Program} {w : World} {A : Around} {E : Value → Shared → Prop} {s : Shared}
abbrev setO (w : World) : Obj := ({ cls := .type "set", dict := none, data := .set #[] 0 (.fresh 0 0 (!w.params.followText "set-order")) } : Obj)
abbrev hpS (s : Shared) (w : World) : Heap := Heap.push (Shared.heap s) (setO w)
theorem set_lstI {lp : Addr} {its : Array Value} (ks : List Int) {Q : Value → Shared → Prop} (hn0 : A.handled = none) (hl : s.heap.IsList lp its) (hit : IntsAre its.toList ks) (hb : ks.length + 1 < scanBound)
    (fin : ∀ (h' : Heap) (tk c : Nat), SetR w h' s.heap.objs.size (fun j => decide (j ∈ ks)) c → c ≤ ks.length → (∀ b o, s.heap.get? b = some o → h'.get? b = some o) → Q (.ref s.heap.objs.size) { s with heap := h', toks := tk }) :
    wpAny (model P w) A (call (.type "set") [.ref lp]) Q E s := by
  have hsz : its.size = ks.length := by have q := IntsAre.length hit; rw [Array.length_toList] at q; exact q
  obtain ⟨c0, tl, m0⟩ := F.called_set.mro
  have m1 := F.called_set.made
  have m2 := F.called_set.sub
  refine wpAny_call (codeAny_of_tree (show wpAny _ _ (callAny (.type "set") _) _ _ _ from ?_))
  refine wpAny_pure ⟨Code.quiet_builtin _ (show _ by decide +kernel), codeAny_builtin F.entry_type_call ?_⟩
  rw [Around.under_plain (weight_type_call_type "set" [.ref lp] []) rfl]
  have m3 := F.called_set.notType
  have m4 := F.called_set.canCreate
  have m5 := F.typeCall_set_1 (.ref lp)
  repeat (any_goals (first | assumption | wp_step))
  refine codeAny_mono (code_set_led1 (.ref lp) (E := E) (Q₁ := fun y t => y = .ref s.heap.objs.size ∧ t = { s with heap := (hpS s w) }) ⟨rfl, rfl⟩) fun r1 t1 hr1 => ?_
  cases r1 with
  | error _ => exact hr1
  | ok f1 =>
    cases f1 with
    | ret y =>
      obtain ⟨rfl, rfl⟩ := hr1
      have g0 : (hpS s w).get? s.heap.objs.size = some (setO w) := Heap.get?_push_size _ rfl
      have tI : Shared.TypeIs { s with heap := (hpS s w) } (.ref s.heap.objs.size) "set" := ⟨_, g0, rfl⟩
      have m6 := F.called_set.init.lookup
      have m7 := F.called_set.init.bind (.ref s.heap.objs.size)
      repeat (any_goals (first | assumption | wp_step))
      refine codeAny_mono (codeAny_call_builtin (R := wants (fun r2 t2 => r2 = .none ∧ ∃ h' tk c, t2 = { s with heap := h', toks := tk } ∧ SetR w h' s.heap.objs.size (fun j => decide (j ∈ ks)) c ∧ c ≤ ks.length ∧ (∀ b o, s.heap.get? b = some o → h'.get? b = some o)) E) F.called_set.init.plain F.entry_set_init (check_set_init_1 tI ?_)) fun r2 t2 hr2 => ?_
      · obtain ⟨⟨oc, od, odt, osl⟩, ho, hcl, nl, hdl⟩ := hl
        simp only at hcl hdl
        subst hcl hdl
        have ho1 : (hpS s w).get? lp = some { cls := .type "list", dict := od, data := .seq its nl, slots := osl } := Heap.get?_push_of_some _ ho
        have s1 := F.sub_list_set
        have s2 := F.sub_list_frozenset
        have s3 : (Value.type "list" == Value.type "dict") = false := by decide
        have il : (hpS s w).IsList lp its := ⟨_, ho1, rfl, nl, rfl⟩
        unfold Builtin.«set.__init__»
        unfold noKeywords Builtin.Frozenset.updateFrom
        generalize hPI : pyIter = PI
        wp_walk
        subst hPI
        refine wpAny_pyIter_list il (wpAny_bind (wpAny_runValue ?_))
        have lt0 : lp < s.heap.objs.size := Heap.lt_size ho
        have hn3 : A.in1.in1.in1.handled = none := by simp [hn0]
        have ne1 : lp ≠ (hpS s w).objs.size := by rw [Heap.size_push]; exact fun z => absurd lt0 (by rw [z]; exact Nat.not_lt.mpr (Nat.le_succ _))
        have nin : s.heap.objs.size ∉ [(hpS s w).objs.size, lp] := by
          rw [Heap.size_push]
          simp only [List.mem_cons, List.not_mem_nil, or_false, not_or]
          exact ⟨fun z => (Nat.ne_of_lt (Nat.lt_succ_self _)) z, fun z => absurd lt0 (by rw [z]; exact Nat.lt_irrefl _)⟩
        have hval : ∀ (i : Nat) (v : Value), its[i]? = some v → ∃ k t, ks[i]? = some k ∧ v = .int k t := fun i v hv => by
          have hi : i < ks.length := by rw [← hsz]; exact (Array.getElem?_eq_some_iff.mp hv).1
          obtain ⟨t, e⟩ := PyProof.Rows.IntsAre.int_at hit i v (by rwa [Array.getElem?_toList])
          refine ⟨ks[i], t, List.getElem?_eq_getElem hi, ?_⟩
          rw [e, List.getD_eq_getElem?_getD, List.getElem?_eq_getElem hi]
          rfl
        refine set_update_ints ((Walks.list hn3 _ lp ne1 its).toS) s.heap.objs.size nin ks hsz hb hval (its.size - 0) 0 _ (by omega) (Nat.zero_le _) ⟨⟨_, Heap.get?_push_size _ rfl, rfl, rfl⟩, (il.push _)⟩ ?h0 ?h9
        case h0 => exact ⟨0, Nat.le_refl 0, setR_new_at (Heap.get?_push_of_some _ g0)⟩
        case h9 =>
          intro t3 c3 hm hc3 hS3
          obtain ⟨h', g2, d2, tk2, os2⟩ := t3
          obtain rfl : g2 = s.gens := hm.gens
          obtain rfl : d2 = s.drawn := hm.drawn
          obtain rfl : os2 = s.os := hm.os
          show wpAny _ _ _ _ _ _
          refine wpAny_pure (show wpAny _ _ (ret Value.none) _ _ _ from ?_)
          rw [hsz] at hc3
          refine wpAny_pure ⟨rfl, h', tk2, c3, rfl, hS3, hc3, fun b o e => ?_⟩
          have lt1 : b < s.heap.objs.size := Heap.lt_size e
          refine hm.heap b o ?_ (Heap.get?_push_of_some _ (Heap.get?_push_of_some _ e))
          rw [Heap.size_push]
          simp only [List.mem_cons, List.not_mem_nil, or_false, not_or]
          exact ⟨fun z => absurd lt1 (by rw [z]; exact Nat.lt_irrefl _), fun z => absurd lt1 (by rw [z]; exact Nat.not_lt.mpr (Nat.le_succ _))⟩
      · cases r2 with
        | error _ => exact hr2
        | ok f2 =>
          cases f2 with
          | ret y2 =>
            obtain ⟨rfl, h', tk, c', rfl, hS', hc', hk'⟩ := hr2
            repeat (any_goals (first | assumption | wp_step))
            exact fin _ _ _ hS' hc' hk'
          | _ => exact hr2.elim
    | _ => exact hr1.elim
end
section
variable {X : Cx} {e a b c tg iter : Expr} {env : Env_} {km : MO → Env_ → Prop} {pos p p2 q : Pos}
def tSSL (K : PySem.W.Frag) (ta : TE) : TE := fun σ H Q => ta σ H fun x H1 => ∃ (l : Addr) (ns : List Int), x = .ref l ∧ SqL K H1 l (ns.map V.int) ∧ ns.length < 64 ∧
  ∀ (out : List Int) (p : Addr), out.Pairwise (· < ·) → (∀ k : Int, k ∈ out ↔ k ∈ ns) → H1 p = none → Q (.ref p) (upd H1 p (.lst (out.map V.int)))
theorem pe_ssl {ta : TE} (hg : Gl X "sorted") (hm : X.mg "sorted" = none) (hg2 : Gl X "set") (hm2 : X.mg "set" = none) (ha : PE X a ta) (hc : X.calm = true := by rfl)
    (na : starEach [a] X.env = (false, eval a X.env) :: starEach [] X.env := by rfl) : PE X (.Call (.Name "sorted" p) [.Call (.Name "set" p2) [a] [] q] [] pos) (tSSL X.K ta) := by
  refine ⟨fun pins s σ H Q I h => ?_⟩
  refine Call_ (ld_blt I hg hm (show bootBuiltins "sorted" = some (.builtin "sorted") by decide +kernel) ?_)
  refine PyProof.Rows.callWith_builtin1 (PyProof.Rows.args_cons ?_ rfl) rfl rfl
  refine Call_ (ld_blt I hg2 hm2 boot_set ?_)
  refine PyProof.Rows.callWith_type1 (PyProof.Rows.args_cons (thn (ha.run pins s σ H _ I h) fun v s1 ⟨x, H1, I1, r1, q1⟩ => PyProof.Rows.args_nil ?_) na) na rfl
  obtain ⟨l, ns, rfl, hq, h64, q1⟩ := q1
  cases r1
  obtain ⟨its, r, pl, hz⟩ := I1.list hq
  refine set_lstI ns (I1.ok.hd hc) pl.isList (by simpa using RZ.intsAre_vals r) (by unfold scanBound; omega) fun h' tk cc hS hcc hk => ?_
  refine PyProof.Rows.args_nil ?_
  have I2 : Inv X pins σ H1 { s1 with heap := h', toks := tk } := I1.kept hk
  have hS2 : SetR X.w ({ s1 with heap := h', toks := tk } : Shared).heap s1.heap.objs.size (fun j => decide (j ∈ ns)) cc := hS
  generalize ({ s1 with heap := h', toks := tk } : Shared) = s2 at hS2 I2 ⊢
  refine sorted_set hS2 (I1.ok.hd hc) (by omega) fun s' p out c ns' k g o hp hg hi hs hm hl => ?_
  have hlen : (ns'.map V.int).length ≤ sizeLine := by rw [List.length_map, hl, sizeLine_eq]; omega
  have hn : H1 p = none := I2.hok.fresh hp
  have e : s' = { s2 with heap := s'.heap, gens := s'.gens, drawn := s'.drawn, toks := s'.toks } := by
    cases s'; cases s2; cases o; rfl
  have J : Inv X pins σ (upd H1 p (.lst (ns'.map V.int))) { s2 with heap := s'.heap, gens := s'.gens, drawn := s'.drawn, toks := s'.toks } :=
    I2.call (ch := []) (Un.laid k hp hn) (I2.hok.laid k hp ⟨hlen, out.toList, c, vals_of_ints hi, hg⟩) (by rw [g]; exact I2.bare) (fun _ z => nomatch z)
  rw [e]
  exact ⟨.ref p, _, J, rfl, q1 ns' p hs (fun k => by rw [hm k]; simp) hn⟩
theorem em_sstL (hm : X.mg "sorted" = none) (hm2 : X.mg "set" = none) (h : EL X a env fun ds env' => ∃ ns : List Int, ds = ns.map I ∧ ns.length < 64 ∧ ∀ out : List Int, out.Pairwise (· < ·) → (∀ k, k ∈ out ↔ k ∈ ns) → km (.lst (out.map I)) env')
    (hg : Gl X "sorted" := by rfl) (hg2 : Gl X "set" := by rfl) (hc : X.calm = true := by rfl) (na : starEach [a] X.env = (false, eval a X.env) :: starEach [] X.env := by rfl) : EM X (.Call (.Name "sorted" p) [.Call (.Name "set" p2) [a] [] q] [] pos) env km :=
  .of (pe_ssl hg hm hg2 hm2 pe_can hc na) fun M0 B M σ c Q hQ => h M0 B M σ c _ fun v H ⟨ad, xs, ds, env', B', M', e1, e2, c', sm, hs, hr, ns, e3, h64, q⟩ => by
  subst e1 e2 e3
  rw [hr.ints_eq] at hs
  refine ⟨ad, ns, rfl, hs, h64, fun out p hp hm hn => hQ _ _ ?_⟩
  obtain ⟨h1, h2⟩ := J_none hn
  exact ⟨p, .lst (out.map I), .lst (out.map V.int), env', B', M', rfl, upd_JM, h1, h2, c', sm, ⟨_, rfl, RpA.ints⟩, q out hp hm⟩
end
end Sy
namespace Sy
open PySem PySem.Spec PyProof.Rows L2
/-! ### d in l, d not in l: data that == tells apart, l a list of one's own or data -/
section
variable {X : Cx} {a b : Expr} {env : Env_} {k : D → Env_ → Prop} {kb : Bool → Env_ → Prop} {pos p : Pos} {B H : Hp} {K : PySem.W.Frag}
theorem any_eqv {d : D} (kd : d.eqk) : ∀ {ds : List D}, eqkA ds → (((pyA ds).any fun z => PyData.eqv z d.py) = true ↔ d ∈ ds)
  | [], _ => ⟨fun h => (nomatch h), fun h => (nomatch h)⟩
  | e :: ds, ⟨k1, k2⟩ => by
    have ih := any_eqv kd k2
    have h1 := eqv_iff e d k1 kd
    show ((PyData.eqv e.py d.py || ((pyA ds).any fun z => PyData.eqv z d.py)) = true ↔ _)
    rw [Bool.or_eq_true, ih, h1, List.mem_cons]
    constructor
    · rintro (rfl | h)
      · exact .inl rfl
      · exact .inr h
    · rintro (rfl | h)
      · exact .inl rfl
      · exact .inr h
theorem ee_niX (i : Nat) {x : Str} {pn : Pos} (hu : X.A.units + 65 < cLine) (h : EE X a env fun d env2 => ∃ (ad : Addr) (ds : List D), env2[i]? = some (.mu ad (.lst ds)) ∧ d.eqk ∧ (D.lst ds).eqk ∧ d.dep ≤ 64 ∧ (D.lst ds).dep ≤ 64 ∧ ∀ v, (v = true ↔ d ∉ ds) → k (Bl v) env2)
    (hm : behindInMarks .NotIn (.Name x pn) = false := by first | exact nomark _ | rfl) (hN : X.N[i]? = some x := by rfl) (hv : Vis X.env.scope x := by first | exact Or.inl rfl | exact Or.inr (Or.inl rfl) | exact Or.inr (Or.inr rfl)) (hd : (x == ("__debug__" : Str)) = false := by decide) (hcd : (x == ("__classdict__" : Str)) = false := by decide) : EE X (.Compare a [.NotIn] [.Name x pn] pos) env k :=
  .of (pe_cmpR (op_notInD hu) pe_can (pe_var hN hv hd hcd) hm) fun M0 B M σ c Q hQ => h M0 B M σ c _ fun v H ⟨d, env1, B1, M1, e1, c1, s1, r1, ad, ds, hi, k1, k2, p1, p2, q⟩ => by
    subst e1
    obtain ⟨s0, hs0, es0, o0, ho0, xs, rfl, hr⟩ := c1.slot i _ hi
    refine ⟨.ref ad, by rw [hs0, es0], d.py, pyA ds, Rp.dp c1.same d v k1 r1, .lst (SqL.of (J_M ho0)) (RpA.dp c1.same ds xs k2 hr), eqk_shaped k1 p1, eqk_shaped k2 p2, hQ _ _ ((PostD.nowA c1 (q _ ?_)).back s1)⟩
    rw [Bool.not_eq_true', ← Bool.not_eq_true, any_eqv k1 k2]
theorem eb_niX (i : Nat) {x : Str} {pn : Pos} (hu : X.A.units + 65 < cLine) (h : EE X a env fun d env2 => ∃ (ad : Addr) (ds : List D), env2[i]? = some (.mu ad (.lst ds)) ∧ d.eqk ∧ (D.lst ds).eqk ∧ d.dep ≤ 64 ∧ (D.lst ds).dep ≤ 64 ∧ ∀ v, (v = true ↔ d ∉ ds) → kb v env2)
    (hm : behindInMarks .NotIn (.Name x pn) = false := by first | exact nomark _ | rfl) (hN : X.N[i]? = some x := by rfl) (hv : Vis X.env.scope x := by first | exact Or.inl rfl | exact Or.inr (Or.inl rfl) | exact Or.inr (Or.inr rfl)) (hd : (x == ("__debug__" : Str)) = false := by decide) (hcd : (x == ("__classdict__" : Str)) = false := by decide) : EB X (.Compare a [.NotIn] [.Name x pn] pos) env kb :=
  .of (pt_cmpR (op_notInD hu) pe_can (pe_var hN hv hd hcd) hm) fun M0 B M σ c Q hQ => h M0 B M σ c _ fun v H ⟨d, env1, B1, M1, e1, c1, s1, r1, ad, ds, hi, k1, k2, p1, p2, q⟩ => by
    subst e1
    obtain ⟨s0, hs0, es0, o0, ho0, xs, rfl, hr⟩ := c1.slot i _ hi
    refine ⟨.ref ad, by rw [hs0, es0], d.py, pyA ds, Rp.dp c1.same d v k1 r1, .lst (SqL.of (J_M ho0)) (RpA.dp c1.same ds xs k2 hr), eqk_shaped k1 p1, eqk_shaped k2 p2, _, rfl, hQ _ _ ((PostB.now c1 (q _ ?_)).back s1)⟩
    rw [Bool.not_eq_true', ← Bool.not_eq_true, any_eqv k1 k2]
theorem co_inD {d : D} {ds : List D} (hu : X.A.units + 65 < cLine) (k1 : d.eqk) (k2 : (D.lst ds).eqk) (p1 : d.dep ≤ 64) (p2 : (D.lst ds).dep ≤ 64) (q : ∀ v, (v = true ↔ d ∈ ds) → k (Bl v) env) : CO X .In d (.lst ds) env k := .of (op_inD hu) fun M0 B M σ c v1 v2 r1 r2 Q hQ =>
  ⟨d.py, pyA ds, Rp.dp c.same d v1 k1 r1, Rp.dp c.same (.lst ds) v2 k2 r2, eqk_shaped k1 p1, eqk_shaped k2 p2, hQ _ _ (.nowA c (q _ (any_eqv k1 k2)))⟩
theorem co_niD {d : D} {ds : List D} (hu : X.A.units + 65 < cLine) (k1 : d.eqk) (k2 : (D.lst ds).eqk) (p1 : d.dep ≤ 64) (p2 : (D.lst ds).dep ≤ 64) (q : ∀ v, (v = true ↔ d ∉ ds) → k (Bl v) env) : CO X .NotIn d (.lst ds) env k := .of (op_notInD hu) fun M0 B M σ c v1 v2 r1 r2 Q hQ =>
  ⟨d.py, pyA ds, Rp.dp c.same d v1 k1 r1, Rp.dp c.same (.lst ds) v2 k2 r2, eqk_shaped k1 p1, eqk_shaped k2 p2, hQ _ _ (.nowA c (q _ (by rw [Bool.not_eq_true', ← Bool.not_eq_true, any_eqv k1 k2])))⟩
end
theorem bo_repT {X : Cx} {env : Env_} {k : D → Env_ → Prop} {ds : List D} {m : Int} (hne : ds ≠ []) (h1 : 2 ≤ m) (h2 : m ≤ 1000) (hl : ds.length ≤ 1000) (q : k (.tup (List.replicate m.toNat ds).flatten) env) : BO X .Mult (.tup ds) (I m) env k := .of op_repS fun M0 B M σ c v1 v2 r1 r2 Q hQ => by
  obtain ⟨a1, xs, rfl, hs1, hr1⟩ := r1
  cases r2
  refine ⟨a1, m, xs, rfl, rfl, sqT_same c.same hs1.sq, fun z => ?_, h1, h2, by rw [hr1.length]; exact hl, fun p o hp n1 n2 => hQ _ _ (.newT c hp n1 n2 (hr1.flat _) q)⟩
  subst z
  exact hne (List.eq_nil_of_length_eq_zero (by rw [← hr1.length]; rfl))
theorem room65 {k : Nat} {A : Around} (r : Room k A) : A.units + 65 < cLine := by have := r.un; omega
end Sy
namespace Sy
open PySem PySem.Spec PyProof.Rows L2
/-! ### a, b = x, y where a name is a cell: by way of a tuple -/
section
variable {X : Cx} {a b : Expr} {env : Env_} {k4 : K4} {pos : Pos}
theorem put_two {i j : Nat} {ts : List TV} {env : Env_} {kk : Env_ → Prop} (h : Put [i, j] ts env kk) : ts.length = 2 := put_len h 2 rfl
theorem s_parC (i j : Nat) {x y : Str} {px py pt : Pos} {kt k2 pt2} (h : EU X [a, b] env fun ts env' => Put [i, j] ts env' k4.nx) (hN : X.N.Nodup) (hc : X.calm = true := by rfl) (hi : X.N[i]? = some x := by rfl) (hj : X.N[j]? = some y := by rfl)
    (hx : Loc X.env.scope x := by first | exact Or.inl rfl | exact Or.inr rfl) (hy : Loc X.env.scope y := by first | exact Or.inl rfl | exact Or.inr rfl)
    (fx : X.fn x = true ∨ X.env.scope.names.lookup x = some .local := by first | exact .inl rfl | exact .inr rfl) (fy : X.fn y = true ∨ X.env.scope.names.lookup y = some .local := by first | exact .inl rfl | exact .inr rfl)
    (hs : swapsWithSole [.Tuple [.Name x px, .Name y py] kt pt] (.Tuple [a, b] k2 pt2) pos.line X.env = pure false := by rfl) (hw : swappedStores [.Tuple [.Name x px, .Name y py] kt pt] (.Tuple [a, b] k2 pt2) X.env = pure none := by rfl)
    (h1 : (assignEach [.Tuple [.Name x px, .Name y py] kt pt] X.env).map (·.2) = [assign (.Tuple [.Name x px, .Name y py] kt pt) X.env] := by rfl)
    (hn : (assignEach [.Name x px, .Name y py] X.env).length = 2 := by rfl) (hst : (assignEach [.Name x px, .Name y py] X.env).findIdx? (·.1) = none := by rfl)
    (ha : (assignEach [.Name x px, .Name y py] X.env).map (·.2) = assign (.Name x px) X.env :: (assignEach [.Name y py] X.env).map (·.2) := by rfl) (hb : (assignEach [.Name y py] X.env).map (·.2) = assign (.Name y py) X.env :: (assignEach [] X.env).map (·.2) := by rfl) :
    S1 X (.Assign [.Tuple [.Name x px, .Name y py] kt pt] (.Tuple [a, b] k2 pt2) pos) env k4 :=
  .of (ps_asg (pe_tup pa_can) (pg_tup hc (pgs_cons (pg_name hN hi hx fx) (pgs_cons (pg_name hN hj hy fy) pgs_nil hb) ha) hn hst) hs hw h1) fun M0 B M σ c Dd q1 _ _ _ => h M0 B M σ c _ fun vs H ⟨ts, env2, B2, M2, Mf, e2, c2, s2, r2, p2⟩ => by
    subst e2
    obtain ⟨v, w, rfl⟩ : ∃ v w, vs = [v, w] := by
      have hl : vs.length = 2 := (tvs_len r2).trans (put_two p2)
      match vs, hl with
      | [v, w], _ => exact ⟨v, w, rfl⟩
    refine ⟨by rw [sizeLine_eq]; show 2 ≤ _; decide, fun p hp => ?_⟩
    obtain ⟨n1, n2⟩ := J_none hp
    have c3 := c2.new (o := .tup [v, w]) n1 n2
    have s3 : Same B2 (upd B2 p (.tup [v, w])) := same_new n2
    rw [upd_JB n1]
    have hT : J (upd B2 p (.tup [v, w])) M2 p = some (.tup [v, w]) := by rw [← upd_JB n1, upd_same]
    exact ⟨p, [v, w], rfl, SqT.of hT, rfl, v, [w], rfl, w, [], rfl, rfl, q1 _ _ ((put_ok ts [i, j] [v, w] M0 Mf _ M2 env2 σ c3 (r2.mono s3) p2).back (s2.trans s3))⟩
end
end Sy
namespace Ln
/-! ### one more car -/
def bump (c x : Int) : Int := if x ≥ c then x + 1 else x
def insAt (g : List Int) (a : Nat) (c : Int) : List Int := g.take a ++ c :: g.drop a
def tot (ns : List Int) : Int := (row .srt ns).sum
def pts (ns : List Int) (c : Int) : List Int := (List.range (ns.length + 1)).map fun a => tot (insAt (ns.map (bump c)) a c)
def minAt (ps : List Int) : List Int := ((List.range ps.length).filter fun i => decide (ps[i]? = some (lo ps))).map fun i : Nat => (i : Int) + 1
def bestL (ns : List Int) (c : Int) : List Int := minAt (pts ns c)
theorem pts_len {ns : List Int} {c : Int} : (pts ns c).length = ns.length + 1 := by unfold pts; rw [List.length_map, List.length_range]
theorem minAt_len {ps : List Int} : (minAt ps).length ≤ ps.length := by
  unfold minAt
  rw [List.length_map]
  have := List.length_filter_le (fun i : Nat => decide (ps[i]? = some (lo ps))) (List.range ps.length)
  rw [List.length_range] at this
  exact this
theorem insAt_len {g : List Int} {a : Nat} {c : Int} (h : a ≤ g.length) : (insAt g a c).length = g.length + 1 := by
  unfold insAt
  rw [List.length_append, List.length_take, List.length_cons, List.length_drop]
  omega
theorem bump_upto {n k : Nat} (hk : k ≤ n) : (((k : Int) + 1) :: (upto n).map (bump ((k : Int) + 1))).Perm (upto (n + 1)) := by
  have e1 : upto n = upto k ++ (List.range (n - k)).map fun j : Nat => ((k : Int) + j) + 1 := by
    unfold upto
    conv => lhs; rw [show n = k + (n - k) from by omega, List.range_add, List.map_append, List.map_map]
    congr 1
  have e2 : upto (n + 1) = upto k ++ ((k : Int) + 1) :: (List.range (n - k)).map fun j : Nat => ((k : Int) + j) + 1 + 1 := by
    unfold upto
    rw [show n + 1 = k + (n - k + 1) from by omega, List.range_add, List.map_append, List.map_map]
    congr 1
    rw [List.range_succ_eq_map, List.map_cons, List.map_map]
    congr 1
  have e3 : (upto k).map (bump ((k : Int) + 1)) = upto k := by
    conv => rhs; rw [← List.map_id (upto k)]
    refine List.map_congr_left fun x hx => ?_
    have := (mem_upto.mp hx).2
    unfold bump
    rw [if_neg (by omega)]
    rfl
  rw [e2, e1, List.map_append, e3, List.map_map]
  have e4 : ((bump ((k : Int) + 1)) ∘ fun j : Nat => ((k : Int) + j) + 1) = fun j : Nat => ((k : Int) + j) + 1 + 1 := by
    funext j
    show (if ((k : Int) + j) + 1 ≥ (k : Int) + 1 then ((k : Int) + j) + 1 + 1 else ((k : Int) + j) + 1) = _
    rw [if_pos (by omega)]
  rw [e4]
  exact List.perm_middle.symm
theorem insAt_perm {g : List Int} {a : Nat} {c : Int} : (insAt g a c).Perm (c :: g) := by
  unfold insAt
  refine List.perm_middle.trans ?_
  rw [List.take_append_drop]
theorem insAt_ord {ns : List Int} {c : Int} {a : Nat} (h : Ord ns) (h30 : ns.length < 30) (h1 : 1 ≤ c) (h2 : c ≤ (ns.length : Int) + 1) (ha : a ≤ ns.length) : Ord (insAt (ns.map (bump c)) a c) := by
  have hl : (insAt (ns.map (bump c)) a c).length = ns.length + 1 := by rw [insAt_len (by rw [List.length_map]; exact ha), List.length_map]
  refine ⟨by omega, by omega, ?_⟩
  rw [hl]
  obtain ⟨k, rfl⟩ : ∃ k : Nat, c = (k : Int) + 1 := ⟨(c - 1).toNat, by omega⟩
  exact (insAt_perm.trans (List.Perm.cons _ (h.2.2.map _))).trans (bump_upto (by omega))
theorem tot_rsum {ns : List Int} (h : Ord ns) : rsum ns.length (records ns) = tot ns := by
  unfold tot
  rw [T1 h, due_sum h]
def ptsA (ns : List Int) (c : Int) : List Int := (List.range (ns.length + 1)).map fun a => rsum (insAt (ns.map (bump c)) a c).length (records (insAt (ns.map (bump c)) a c))
theorem best_alt {ns : List Int} {c : Int} (h : Ord ns) (h30 : ns.length < 30) (h1 : 1 ≤ c) (h2 : c ≤ (ns.length : Int) + 1) : bestL ns c = minAt (ptsA ns c) := by
  unfold bestL
  congr 1
  unfold pts ptsA
  refine List.map_congr_left fun a ha => ?_
  rw [tot_rsum (insAt_ord h h30 h1 h2 (by have := List.mem_range.mp ha; omega))]
end Ln
/-! ### ends of iterators while an exception is handled -/
namespace SyH
open PySem PySem.Spec PySem.Calls PyProof.Rows HotX
section
variable {prog : Program} {w : World} {A : Around} {E : Value → Shared → Prop} {s : Shared} {x1 : Addr}
/-- a StopIteration made and raised, another exception being handled -/
theorem stop_raise {α : Type} {Q : α → Shared → Prop} (hot : HotAt A x1 s.heap)
    (hE : ∀ (g : Heap) (e : Addr), (∀ b o, s.heap.get? b = some o → g.get? b = some o) → (∃ o : Obj, g.get? e = some o ∧ o.cls = .type "StopIteration") → E (.ref e) { s with heap := g }) :
    wpAny (model prog w) A ((newExc (.type "StopIteration") [] >>= fun v => raiseNew v) : Sem α) Q E s := by
  obtain ⟨hh, o1, v1, h1, d1, c1⟩ := hot
  refine wpAny_bind ?_
  simp only [newExc, newTuple]
  refine wpAny_bind (wpAny_newObj_type ?_ (by size_fits))
  refine wpAny_bind (m := firstArgMember _ _) (wpAny_of_eq (a := Value.none) (by first | rfl | (simp only [firstArgMember]; rfl)) (wpAny_newObj_type ?_ (by size_fits)))
  have k1 : ∀ b o, s.heap.get? b = some o → (s.heap.push _).get? b = some o := fun b o e => Heap.get?_push_of_some { cls := .type "tuple", data := .seq ([] : List Value).toArray } e
  have hx := Heap.lt_size (Heap.get?_push_of_some { cls := .type "tuple", data := .seq ([] : List Value).toArray } h1)
  refine raiseNew_hot ⟨hh, o1, v1, Heap.get?_push_of_some _ (k1 _ _ h1), d1, c1⟩ (Nat.ne_of_lt hx) (Heap.get?_push_size _ rfl) rfl (by first | (simp only [Array.size_append]; simp; omega) | (simp; omega)) ?_
  refine hE _ _ (fun b o e => ?_) ⟨_, Heap.get?_update_self _ (Heap.get?_push_size _ rfl) rfl, rfl⟩
  have e2 := k1 b o e
  rw [Heap.get?_update_other _ _ (Nat.ne_of_gt (Heap.lt_size e2))]
  exact Heap.get?_push_of_some _ e2
theorem _root_.HotX.HotAt.upd {h : Heap} {it : Addr} {o : Obj} {vs : Array Value} {f : Obj → Obj} (hot : HotAt A x1 h) (e : h.get? it = some o) (d : o.data = .fields vs) (hz : vs.size ≤ 2) : HotAt A x1 (h.update it f) := by
  obtain ⟨hh, o1, v1, h1, d1, c1⟩ := hot
  refine ⟨hh, o1, v1, ?_, d1, c1⟩
  rw [Heap.get?_update_other _ _ (fun z => ?_)]
  · exact h1
  · rw [← z, e] at h1
    cases h1
    rw [d] at d1
    cases d1
    have := (Array.getElem?_eq_some_iff.mp c1).1
    omega
/-- a list's iterator at its end -/
theorem nextOf_end {it l : Addr} {i : Nat} {items : Array Value} {Q : Value → Shared → Prop} (hot : HotAt A x1 s.heap) (hit : s.heap.IsListIter it l i) (hl : s.heap.IsList l items) (hx : items[i]? = none)
    (hE : ∀ (g : Heap) (e : Addr), Heap.ExtBut it s.heap g → (∃ o : Obj, g.get? e = some o ∧ o.cls = .type "StopIteration") → E (.ref e) { s with heap := g }) :
    wpAny (model prog w) A (Builtin.SmallTypes.nextOf (.ref it)) Q E s := by
  obtain ⟨oi, ei, ci, di⟩ := id hit
  obtain ⟨ol, el, _, nl, dl⟩ := hl
  unfold Builtin.SmallTypes.nextOf
  refine wpAny_bind (wpAny_callSpecial?_slot hit.typeIs slot_listiter_next (wpAny_call_entry slot_listiter_next hit.typeIs entry_listiter_next ?_ (args_listiter_next _)))
  refine wpAny_bind (wpAny_pure (wpAny_bind (wpAny_field ei di (x := .ref l) rfl ?_)))
  rw [if_neg (show ¬ ((Value.ref l == Value.none) = true) from Bool.false_ne_true)]
  refine wpAny_bind (wpAny_field ei di (x := .int i 0) rfl (wpAny_bind (wpAny_seqItems el dl ?_)))
  simp only [Int.toNat_natCast, hx]
  refine wpAny_bind (wpAny_rule (wpAny_bind (wpAny_setField ei di (by simp) ?_)))
  refine stop_raise (s := { s with heap := _ }) (hot.upd ei di (by simp)) fun g e k q => hE g e (fun b o hb eb => ?_) q
  exact k b o ((Heap.get?_update_other _ _ (Ne.symm hb)).trans eb)
/-- a tuple's iterator at its end -/
theorem pyNext_tup_end {it l : Addr} {i : Nat} {items : Array Value} {Q : Option Value → Shared → Prop} (hot : HotAt A x1 s.heap) (hit : IsTupIter s.heap it l i) (hl : IsTup s.heap l items) (hx : items[i]? = none)
    (hQ : ∀ g : Heap, Heap.ExtBut it s.heap g → Q none { s with heap := g }) : wpAny (model prog w) A (pyNext (.ref it)) Q E s := by
  obtain ⟨oi, ei, ci, di⟩ := id hit
  obtain ⟨ol, el, _, nl, dl⟩ := hl
  unfold pyNext
  refine wpAny_bind (wpAny_attempt (wpAny_callSpecial?_slot hit.typeIs PySem.F.slot_tuple_iterator_next (wpAny_call_entry PySem.F.slot_tuple_iterator_next hit.typeIs PySem.F.entry_tuple_iterator_next ?_ (PySem.F.args_tuple_iterator_next_1 _))))
  refine wpAny_bind (wpAny_pure (wpAny_bind (wpAny_field ei di (x := .ref l) rfl ?_)))
  rw [if_neg (show ¬ ((Value.ref l == Value.none) = true) from Bool.false_ne_true)]
  refine wpAny_bind (wpAny_field ei di (x := .int i 0) rfl (wpAny_bind (wpAny_seqItems el dl ?_)))
  simp only [Int.toNat_natCast, hx]
  refine wpAny_bind (wpAny_rule (wpAny_bind (wpAny_setField ei di (by simp) ?_)))
  refine stop_raise (s := { s with heap := _ }) (hot.upd ei di (by simp)) fun g e k q => ?_
  obtain ⟨o, ho, hc⟩ := q
  refine wpAny_bind (wpAny_isInstance (T := "StopIteration") (b := true) ⟨o, ho, hc⟩ isSubtype_stop (wpAny_pure (hQ g fun b ob hb eb => ?_)))
  exact k b ob ((Heap.get?_update_other _ _ (Ne.symm hb)).trans eb)
/-- a tuple unpacked -/
theorem unpack_tup {t : Addr} {items : Array Value} {targets : List (Bool × (Value → Sem Unit))} {Q : Unit → Shared → Prop} (hot : HotAt A x1 s.heap) (ht : IsTup s.heap t items) (hn : targets.length = items.size) (hstar : targets.findIdx? (·.1) = none)
    (h : ∀ g : Heap, Heap.ExtBut s.heap.objs.size s.heap g → wpAny (model prog w) A (assignInOrder (targets.map (·.2)) items.toList) Q E { s with heap := g }) : wpAny (model prog w) A (unpack (.ref t) targets) Q E s := by
  have hlt : t ≠ s.heap.objs.size := by obtain ⟨o, ho, _⟩ := ht; exact Nat.ne_of_lt (Heap.lt_size ho)
  unfold unpack unpackItems notIterableAtAll
  rw [hn, hstar]
  refine wpAny_bind (wpAny_holding (wpAny_bind (wpAny_bind (wpAny_specialOf ht.typeIs slot_tuple_iter.lookup (wpAny_pure ?_)))))
  simp only [Bool.false_eq_true, if_false]
  refine wpAny_bind (wpAny_holding (iter_tuple ht (wpAny_bind (wpAny_holding ?_))))
  refine draw_tuple hlt items.size 0 _ _ ⟨_, Heap.get?_push_size _ rfl, rfl, rfl⟩ (ht.push _) (by omega) fun g1 hit1 sb1 => ?_
  have eall : (items.toList.drop 0).take items.size = items.toList := by rw [List.drop_zero]; exact List.take_of_length_le (by simp)
  rw [eall, if_neg (by simp)]
  have hot1 : HotAt A x1 g1 := by
    obtain ⟨hh, o1, v1, h1, d1, c1⟩ := hot
    exact ⟨hh, o1, v1, sb1.extBut _ _ (Nat.ne_of_lt (Heap.lt_size h1)) (Heap.get?_push_of_some _ h1), d1, c1⟩
  refine wpAny_bind (wpAny_holding (pyNext_tup_end (s := { s with heap := g1 }) hot1 hit1 ((ht.push _).extBut sb1.extBut hlt) (by simp) fun g2 sb2 => ?_))
  simp only [Option.isSome_none, Bool.false_eq_true, if_false]
  exact wpAny_pure (h g2 fun b o hb e => sb2 b o hb (sb1.extBut b o hb (Heap.get?_push_of_some _ e)))
/-- zip of two lists at its end, the first ends -/
theorem pyNext_zip_over {z TI TO i1 i2 l1 l2 : Addr} {k1 : Nat} {xs : Array Value} {a b : Value} {Q : Option Value → Shared → Prop} (hot : HotAt A x1 s.heap) (D : ZipApart z TI TO i1 i2 l1 l2)
    (hz : IsZip s.heap z TI TO .none) (hTI : IsPair s.heap TI (.ref i1) (.ref i2)) (hTO : IsPair s.heap TO a b) (h1 : s.heap.IsListIter i1 l1 k1) (hl1 : s.heap.IsList l1 xs) (hx : xs[k1]? = none)
    (hxz : x1 ≠ z) (hQ : ∀ g : Heap, (∀ c o, c ≠ z → c ≠ i1 → s.heap.get? c = some o → g.get? c = some o) → Q none { s with heap := g }) : wpAny (model prog w) A (pyNext (.ref z)) Q E s := by
  have hTy : s.TypeIs (.ref z) "zip" := ⟨_, hz, rfl⟩
  unfold pyNext
  refine wpAny_bind (wpAny_attempt (wpAny_callSpecial?_slot hTy PySem.F.slot_zip_next (wpAny_call_entry PySem.F.slot_zip_next hTy PySem.F.entry_zip_next ?_ (PySem.F.args_zip_next_1 _))))
  refine wpAny_bind (wpAny_pure (wpAny_bind (wpAny_field hz rfl (x := .bool false) rfl ?_)))
  refine wpAny_bind (wpAny_field hz rfl (x := .ref TI) rfl (wpAny_bind (wpAny_seqItems hTI rfl (wpAny_bind ?_))))
  unfold Builtin.SmallTypes.ownedTupleIsFree
  refine wpAny_bind (wpAny_field hz rfl (x := .none) rfl (wpAny_pure ?_))
  simp only [if_true]
  refine wpAny_bind (wpAny_rule (wpAny_bind (wpAny_field hz rfl (x := .ref TO) rfl (wpAny_bind (wpAny_setField_rec hz (by simp) fun g1 hz1 sb1 => ?_)))))
  replace hz1 : IsZip g1 z TI TO .ellipsis := hz1
  have hot1 : HotAt A x1 g1 := by
    obtain ⟨hh, o1, v1, q1, d1, c1⟩ := hot
    exact ⟨hh, o1, v1, sb1.extBut _ _ hxz q1, d1, c1⟩
  refine wpAny_bind ?_
  simp only [List.zipIdx_cons, List.zipIdx_nil, List.forIn_cons, List.forIn_nil]
  refine wpAny_bind (wpAny_bind (wpAny_onRaise ?_))
  refine wpAny_bind (nextOf_end (s := { s with heap := g1 }) hot1 (h1.extBut sb1.extBut D.i1z) (hl1.extBut sb1.extBut D.l1z) hx fun g2 e sb2 he => ?_)
  obtain ⟨oe, hoe, hce⟩ := he
  have hz2 : IsZip g2 z TI TO .ellipsis := sb2 _ _ D.i1z.symm hz1
  have hez : e ≠ z := fun q => by
    subst q
    rw [hz2] at hoe
    cases hoe
    simp at hce
  refine wpAny_setField_rec hz2 (by simp) fun g3 _ sb3 => ?_
  refine wpAny_bind (wpAny_isInstance (T := "StopIteration") (b := true) ⟨oe, sb3.extBut _ _ hez hoe, hce⟩ isSubtype_stop (wpAny_pure (hQ g3 fun c o c1 c2 q => ?_)))
  exact sb3.extBut _ _ c1 (sb2 _ _ c2 (sb1.extBut _ _ c1 q))
end
end SyH
/-! ### [x for x, y in zip(..) if y] while an exception is handled -/
namespace SyH
open PySem PySem.Spec PySem.Calls PyProof.Rows L2 HotX L2H
/-- the items that are marked -/
def pk {α : Type} (ws : List α) (bs : List Bool) : List α := ((ws.zip bs).filter fun p => p.2).map (·.1)
theorem pk_step {α : Type} {ws : List α} {bs : List Bool} {i : Nat} {x : α} {b : Bool} (h1 : ws[i]? = some x) (h2 : bs[i]? = some b) : pk (ws.take (i + 1)) (bs.take (i + 1)) = if b = true then pk (ws.take i) (bs.take i) ++ [x] else pk (ws.take i) (bs.take i) := by
  have l1 := (List.getElem?_eq_some_iff.mp h1).1
  have l2 := (List.getElem?_eq_some_iff.mp h2).1
  unfold pk
  rw [List.take_add_one, List.take_add_one, h1, h2, Option.toList_some, Option.toList_some, List.zip_append (by rw [List.length_take, List.length_take]; omega), List.filter_append, List.map_append]
  cases b with
  | true => rfl
  | false => exact List.append_nil _
section
variable {X : Cx} {pins : List (Addr × Obj)} {σ : L2.St} {H : Hp} {s : Shared} {Q : VK}
/-- the zip's own objects at turn i -/
def ZSt (l1 l2 z TI TO i1 i2 : Addr) (i : Nat) (h : Heap) : Prop := IsZip h z TI TO .none ∧ IsPair h TI (.ref i1) (.ref i2) ∧ (∃ x y, IsPair h TO x y) ∧ h.IsListIter i1 l1 i ∧ h.IsListIter i2 l2 i
theorem ZSt.obj {l1 l2 z TI TO i1 i2 : Addr} {i : Nat} {h : Heap} (q : ZSt l1 l2 z TI TO i1 i2 i h) : ∀ b, b ∈ [z, TI, TO, i1, i2] → ∃ o, h.get? b = some o ∧ ∀ v, o.data ≠ .cell v := fun b hb => by
  obtain ⟨q1, q2, ⟨x, y, q3⟩, ⟨o4, e4, _, d4⟩, ⟨o5, e5, _, d5⟩⟩ := q
  simp only [List.mem_cons, List.not_mem_nil, or_false] at hb
  rcases hb with rfl | rfl | rfl | rfl | rfl
  · exact ⟨_, q1, fun v e => nomatch e⟩
  · exact ⟨_, q2, fun v e => nomatch e⟩
  · exact ⟨_, q3, fun v e => nomatch e⟩
  · exact ⟨o4, e4, fun v e => by rw [d4] at e; cases e⟩
  · exact ⟨o5, e5, fun v e => by rw [d5] at e; cases e⟩
theorem ZSt.keep {l1 l2 z TI TO i1 i2 : Addr} {i : Nat} {h h' : Heap} (q : ZSt l1 l2 z TI TO i1 i2 i h) (k : ∀ b, b ∈ [z, TI, TO, i1, i2] → ∀ o, h.get? b = some o → h'.get? b = some o) : ZSt l1 l2 z TI TO i1 i2 i h' := by
  obtain ⟨q1, q2, ⟨x, y, q3⟩, q4, q5⟩ := q
  exact ⟨k z (by simp) _ q1, k TI (by simp) _ q2, ⟨x, y, k TO (by simp) _ q3⟩, q4.at fun o e => k i1 (by simp) o e, q5.at fun o e => k i2 (by simp) o e⟩
theorem lcZ_loop {x y : Str} {ia ib : Nat} {e1 e2 : Expr} {scope : Scope} {p pz px py pt ptt pe pos : Pos} {kt : Nat} {tt : TT} {use : Option (Value → Sem Unit)} {Qf : Value → Shared → Prop} {s2 : Shared} {H1 : Hp} {l1 l2 z TI TO i1 i2 : Addr} {ws : List V} {bs : List Bool}
    (hotc : HotC X) (I2 : Inv X pins σ H1 s2) (ok : BlkOk X.N X.env.scope scope [(x, ia), (y, ib)]) (hN : X.N.Nodup) (hab : ia ≠ ib)
    (hnx : ∀ (s : Shared) (H : Hp) (C : Addr) (cl : List (Str × Addr)) (fp : List Addr), PG (X.blk s H scope (compEnvC scope cl C X.env) fp) (.Name x px) (gName ia)) (hny : ∀ (s : Shared) (H : Hp) (C : Addr) (cl : List (Str × Addr)) (fp : List Addr), PG (X.blk s H scope (compEnvC scope cl C X.env) fp) (.Name y py) (gName ib))
    (ht : ∀ (s : Shared) (H : Hp) (C : Addr) (cl : List (Str × Addr)) (fp : List Addr), PTs (X.blk s H scope (compEnvC scope cl C X.env) fp) [.Name y pt] tt) (htt : ∀ (σ : L2.St) (H : Hp) (b : Bool) (Q : Bool → Hp → Prop), σ[ib]? = some (some (.bl b)) → Q b H → tt σ H Q)
    (he : ∀ (s : Shared) (H : Hp) (C : Addr) (cl : List (Str × Addr)) (fp : List Addr), PE (X.blk s H scope (compEnvC scope cl C X.env) fp) (.Name x pe) (tVar ia))
    (hes : ∀ (s : Shared) (H : Hp) (C : Addr) (cl : List (Str × Addr)) (fp : List Addr), (assignEach [.Name x px, .Name y py] (X.blk s H scope (compEnvC scope cl C X.env) fp).env).length = 2 ∧ (assignEach [.Name x px, .Name y py] (X.blk s H scope (compEnvC scope cl C X.env) fp).env).findIdx? (·.1) = none)
    (ap : ZipApart z TI TO i1 i2 l1 l2) (zs : ZSt l1 l2 z TI TO i1 i2 0 s2.heap) (hf : ∀ b, b ∈ [z, TI, TO, i1, i2] → FpOk X pins H1 b) (hq1 : SqL X.K H1 l1 ws) (hq2 : SqL X.K H1 l2 (bs.map V.bl)) (hlen : ws.length = bs.length) (hle : ws.length ≤ 1000)
    (q : ∀ D, H1 D = none → Q (.ref D) (upd H1 D (.lst (pk ws bs))))
    (hRR : ∀ D C s' m H', Inv X pins σ H' s' → Q (.ref D) H' → s'.heap.Ns C m → FpOk X pins H' C → compPost (model X.prog X.w) X.A X.xe use Qf (.ref D) C (.ok .next) s') :
    wpAny (model X.prog X.w) X.A (newList []) (fun acc s₃ => wpAny (model X.prog X.w) X.A (newFunctionEnv scope X.env.globals (cloFrom X.env.cells scope.names []) [] X.env.qual none Value.none (some X.env)) (fun cenv s₄ => codeAny (model X.prog X.w) X.A (Code.compStart
      (.ListComp (.Name x pe) [⟨.Tuple [.Name x px, .Name y py] kt ptt, .Call (.Name "zip" p) [e1, e2] [] pz, [.Name y pt], 0⟩] scope pos) 0 (Value.ref z) acc { cenv with scope := relabel scope X.env }) (compPost (model X.prog X.w) X.A X.xe use Qf acc cenv.locals) s₄) X.xe s₃) X.xe s2 := by
  have hfree : ∀ u ∈ scope.names, u.2 = .free → ∃ c, X.env.cells.lookup u.1 = some c := fun u hu e => (ok.free u hu e).elim (fun k => I2.ok.has _ (.inl k)) fun k => I2.ok.has _ (.inr k)
  refine wpAny_newObj_type (newEnv_comp ?_) (by show 0 ≤ sizeLine; decide)
  generalize hD : s2.heap.objs.size = D
  have hDn : H1 D = none := I2.hok.fresh (Nat.le_of_eq hD)
  generalize hs3 : ({ s2 with heap := s2.heap.push { cls := .type "list", data := .seq ([] : List Value).toArray } } : Shared) = s3
  have h3 : s3.heap = s2.heap.push { cls := .type "list", data := .seq ([] : List Value).toArray } := by rw [← hs3]
  have k3 : ∀ b o, s2.heap.get? b = some o → s3.heap.get? b = some o := fun b o e => by rw [h3]; exact Heap.get?_push_of_some _ e
  have I3 : Inv X pins σ (upd H1 D (.lst [])) s3 := by
    rw [← hs3]
    refine I2.laid (t' := s2.toks) (fun b o e => Heap.get?_push_of_some _ e) (Nat.le_of_eq hD) ⟨Nat.zero_le _, [], 0, .nil, ?_⟩
    rw [← hD]
    exact Heap.get?_push_size _ rfl
  have below : ∀ b, b ∈ [z, TI, TO, i1, i2] → b < s2.heap.objs.size := fun b hb => by
    obtain ⟨o, e, _⟩ := zs.obj b hb
    exact Heap.lt_size e
  have f3 : ∀ b ∈ [z, TI, TO, i1, i2], FpOk X pins (upd H1 D (.lst [])) b ∧ b < s3.heap.objs.size := fun b hb => by
    have hlt := below b hb
    refine ⟨⟨?_, (hf b hb).2⟩, by rw [h3, Heap.size_push]; exact Nat.lt_succ_of_lt hlt⟩
    rw [upd_ne (by rw [← hD]; exact Nat.ne_of_lt hlt)]
    exact (hf b hb).1
  have z3 : ZSt l1 l2 z TI TO i1 i2 0 s3.heap := zs.keep fun b _ o e => k3 b o e
  -- the exception that is handled
  obtain ⟨pe0, ⟨hh, v1, ev1, ec1⟩, hpn⟩ := hotc
  have P3 := I3.pin pe0 (List.mem_append_left _ hpn)
  have nfr : pe0.1 ∉ frs X.stack := fun hm => (List.mem_cons.mp (I3.stkSub pe0.1 hm)).elim P3.2.2.1 P3.2.2.2.1
  have nfp : pe0.1 ∉ [z, TI, TO, i1, i2] := fun hm => (hf pe0.1 hm).2.2.2.2.2 pe0 (List.mem_append_left _ hpn) rfl
  have I4 := block_start I3 ok hN f3
  have gx := hnx s3 (upd H1 D (.lst [])) s3.heap.objs.size (cellsFrom (s3.heap.objs.size + 1) scope.names (cloFrom X.env.cells scope.names [])) [z, TI, TO, i1, i2]
  have gy := hny s3 (upd H1 D (.lst [])) s3.heap.objs.size (cellsFrom (s3.heap.objs.size + 1) scope.names (cloFrom X.env.cells scope.names [])) [z, TI, TO, i1, i2]
  have gt := ht s3 (upd H1 D (.lst [])) s3.heap.objs.size (cellsFrom (s3.heap.objs.size + 1) scope.names (cloFrom X.env.cells scope.names [])) [z, TI, TO, i1, i2]
  have ge := he s3 (upd H1 D (.lst [])) s3.heap.objs.size (cellsFrom (s3.heap.objs.size + 1) scope.names (cloFrom X.env.cells scope.names [])) [z, TI, TO, i1, i2]
  have gn := hes s3 (upd H1 D (.lst [])) s3.heap.objs.size (cellsFrom (s3.heap.objs.size + 1) scope.names (cloFrom X.env.cells scope.names [])) [z, TI, TO, i1, i2]
  show codeAny _ _ (.compStart _ 0 (.ref z) (.ref D) (compEnvC scope (cellsFrom (s3.heap.objs.size + 1) scope.names (cloFrom X.env.cells scope.names [])) s3.heap.objs.size X.env)) (compPost (model X.prog X.w) X.A X.xe use Qf (.ref D) s3.heap.objs.size) { s3 with heap := pushCells (s3.heap.push { cls := .type "dict", data := .dict #[] }) scope.names }
  generalize hce : compEnvC scope (cellsFrom (s3.heap.objs.size + 1) scope.names (cloFrom X.env.cells scope.names [])) s3.heap.objs.size X.env = ce at I4 gx gy gt ge gn ⊢
  have cL : ce.locals = s3.heap.objs.size := by subst hce; rfl
  generalize hs4 : ({ s3 with heap := pushCells (s3.heap.push { cls := .type "dict", data := .dict #[] }) scope.names } : Shared) = s4 at I4 ⊢
  have z4 : ZSt l1 l2 z TI TO i1 i2 0 s4.heap := z3.keep fun b _ o e => by rw [← hs4]; exact pushCells_keeps _ _ _ _ (Heap.get?_push_of_some _ e)
  have stat : ∀ {σ' : L2.St} {H' : Hp} {s' : Shared}, Inv (X.blk s3 (upd H1 D (.lst [])) scope ce [z, TI, TO, i1, i2]) [] σ' H' s' → (∀ b, b ∈ [z, TI, TO, i1, i2] → H' b = none) → ∀ b, b ∈ [z, TI, TO, i1, i2] → FpOk (X.blk s3 (upd H1 D (.lst [])) scope ce [z, TI, TO, i1, i2]) [] H' b := fun {σ' H' s'} J hn b hb =>
    ⟨hn b hb, (J.ok.exf b hb).1, J.ok.exfs b hb, .inl hb, fun u c e => (J.ok.exf b hb).2 u c e, fun r hr => absurd (show r ∈ ([] : List (Addr × Obj)) ++ [] from hr) (by simp)⟩
  have nH : ∀ (acc : List V) b, b ∈ [z, TI, TO, i1, i2] → (upd H1 D (.lst acc)) b = none := fun acc b hb => by
    rw [upd_ne (by rw [← hD]; exact Nat.ne_of_lt (below b hb))]
    exact (hf b hb).1
  have loop : codeAny (model X.prog X.w) X.A (.compLoop (.ListComp (.Name x pe) [⟨.Tuple [.Name x px, .Name y py] kt ptt, .Call (.Name "zip" p) [e1, e2] [] pz, [.Name y pt], 0⟩] scope pos) 0 (.ref z) (.ref D) ce) (compPost (model X.prog X.w) X.A X.xe use Qf (.ref D) s3.heap.objs.size) s4 := by
    refine compLoop_any (fun n s' => ∃ i : Nat, n = ws.length - i ∧ i ≤ ws.length ∧ Inv (X.blk s3 (upd H1 D (.lst [])) scope ce [z, TI, TO, i1, i2]) [] (wipe σ [ia, ib]) (upd H1 D (.lst (pk (ws.take i) (bs.take i)))) s' ∧ ZSt l1 l2 z TI TO i1 i2 i s'.heap) ?_ ws.length ⟨0, rfl, Nat.zero_le _, I4, z4⟩
    rintro n s5 ⟨i, rfl, hi, I5, z5⟩
    have hot5 : HotAt X.A pe0.1 s5.heap := ⟨hh, pe0.2, v1, I5.base.keep pe0.1 pe0.2 P3.1 P3.2.1 nfr nfp, ev1, ec1⟩
    have n5 := nH (pk (ws.take i) (bs.take i))
    have st5 := stat I5 n5
    obtain ⟨its1, rv1, p1, _⟩ := I5.list (Sy.sqL_same (Sy.same_new hDn) hq1)
    obtain ⟨its2, rv2, p2, _⟩ := I5.list (Sy.sqL_same (Sy.same_new hDn) hq2)
    have le1 := rv1.length
    obtain ⟨zz, zTI, ⟨u0, w0, zTO⟩, zi1, zi2⟩ := id z5
    by_cases hlt : i < ws.length
    · obtain ⟨a1, ea1⟩ : ∃ a1, ws[i]? = some a1 := ⟨_, List.getElem?_eq_getElem hlt⟩
      obtain ⟨b1, eb1⟩ : ∃ b1, bs[i]? = some b1 := ⟨_, List.getElem?_eq_getElem (by omega)⟩
      obtain ⟨u1, hu1, ru1⟩ := rv1.get ea1
      obtain ⟨u2, hu2, ru2⟩ := rv2.get (show (bs.map V.bl)[i]? = some (.bl b1) by rw [List.getElem?_map, eb1]; rfl)
      have zl : z < s5.heap.objs.size := Heap.lt_size zz
      refine wpAny_pyNext_zip_item ap zz zTI zTO zi1 zi2 p1.isList p2.isList (x := u1) (y := u2) (by simpa using hu1) (by simpa using hu2) fun g1 zz1 zTO1 zi11 zi21 hT hsz k1 => ?_
      refine wpAny_letOwnedTupleGo_zip (s := { s5 with heap := g1 }) zz1 fun g2 zz2 sb => ?_
      have hT2 : IsTup g2 s5.heap.objs.size #[u1, u2] := ⟨_, (sb.2 _ (Nat.ne_of_gt zl)).trans hT, rfl, _, rfl⟩
      have z7 : ZSt l1 l2 z TI TO i1 i2 (i + 1) g2 := ⟨zz2, (sb.2 _ ap.TIz).trans (k1 _ _ ap.TIz ap.TITO ap.TIi1 ap.TIi2 zTI), ⟨u1, u2, (sb.2 _ ap.TOz).trans zTO1⟩, zi11.at fun o e => (sb.2 _ ap.i1z).trans e, zi21.at fun o e => (sb.2 _ ap.i2z).trans e⟩
      have I7 : Inv (X.blk s3 (upd H1 D (.lst [])) scope ce [z, TI, TO, i1, i2]) [] (wipe σ [ia, ib]) (upd H1 D (.lst (pk (ws.take i) (bs.take i)))) { s5 with heap := g2 } :=
        I5.turnedL (t' := s5.toks) (ch := [z, TI, TO, i1, i2]) (fun c o hb e => by
          simp only [List.mem_cons, List.not_mem_nil, or_false, not_or] at hb
          exact (sb.2 c hb.1).trans (k1 c o hb.1 hb.2.2.1 hb.2.2.2.1 hb.2.2.2.2 e)) st5
      have J7 := I7.pinned (stat I7 n5) z7.obj
      have hot7 : HotAt X.A pe0.1 g2 := ⟨hh, pe0.2, v1, I7.base.keep pe0.1 pe0.2 P3.1 P3.2.1 nfr nfp, ev1, ec1⟩
      rw [PyProof.Rows.assign_Tuple]
      refine wpAny_bind (wpAny_standAt ?_)
      refine unpack_tup (s := { s5 with heap := g2 }) hot7 hT2 (by rw [gn.1]; rfl) gn.2 fun g3 k3' => ?_
      have J8 : Inv (X.blk s3 (upd H1 D (.lst [])) scope ce [z, TI, TO, i1, i2]) ([] ++ pinsAt [z, TI, TO, i1, i2] g2) (wipe σ [ia, ib]) (upd H1 D (.lst (pk (ws.take i) (bs.take i)))) { s5 with heap := g3 } := J7.kept (t' := s5.toks) fun b o e => k3' b o (Nat.ne_of_lt (Heap.lt_size e)) e
      have lσ : σ.length = X.N.length := I3.len
      have ixa : ia < σ.length := by rw [lσ]; exact (List.getElem?_eq_some_iff.mp (ok.ix (x, ia) (by simp))).1
      have ixb : ib < σ.length := by rw [lσ]; exact (List.getElem?_eq_some_iff.mp (ok.ix (y, ib) (by simp))).1
      have la : (((wipe σ [ia, ib]).set ia (some a1)).set ib (some (.bl b1)))[ia]? = some (some a1) := by
        rw [List.getElem?_set_ne (Ne.symm hab), List.getElem?_set_self (by rw [wipe_length]; exact ixa)]
      have lb : (((wipe σ [ia, ib]).set ia (some a1)).set ib (some (.bl b1)))[ib]? = some (some (.bl b1)) := by
        rw [List.getElem?_set_self (by rw [List.length_set, wipe_length]; exact ixb)]
      have lw : wipe (((wipe σ [ia, ib]).set ia (some a1)).set ib (some (.bl b1))) [ia, ib] = wipe σ [ia, ib] := by
        rw [Sy.wipe_set (by simp), Sy.wipe_set (by simp)]
        show wipe ((σ.set ib none).set ia none) [ia, ib] = _
        rw [Sy.wipe_set (by simp), Sy.wipe_set (by simp)]
      refine thnF ((pgs_cons gx (pgs_cons gy pgs_nil)).run _ { s5 with heap := g3 } (wipe σ [ia, ib]) _ [a1, .bl b1] [u1, u2] (fun σ' H' => σ' = ((wipe σ [ia, ib]).set ia (some a1)).set ib (some (.bl b1)) ∧ H' = upd H1 D (.lst (pk (ws.take i) (bs.take i)))) J8 (.cons ru1 (.cons ru2 .nil)) ⟨a1, _, rfl, .bl b1, _, rfl, rfl, rfl, rfl⟩) fun _ s8 hh8 => ?_
      obtain ⟨σ8, H8, I8, e8, eH8⟩ := hh8
      subst e8 eH8
      refine thnF (gt.run _ s8 _ _ (fun b H' => b = b1 ∧ H' = upd H1 D (.lst (pk (ws.take i) (bs.take i)))) I8 (htt _ _ b1 _ lb ⟨rfl, rfl⟩)) fun b s9 hh9 => ?_
      obtain ⟨H9, I9, eb9, eH9⟩ := hh9
      subst eb9 eH9
      have fin : ∀ {s' : Shared}, Inv (X.blk s3 (upd H1 D (.lst [])) scope ce [z, TI, TO, i1, i2]) ([] ++ pinsAt [z, TI, TO, i1, i2] g2) (((wipe σ [ia, ib]).set ia (some a1)).set ib (some (.bl b))) (upd H1 D (.lst (pk (ws.take (i + 1)) (bs.take (i + 1))))) s' →
          ∃ m, m < ws.length - i ∧ ∃ j : Nat, m = ws.length - j ∧ j ≤ ws.length ∧ Inv (X.blk s3 (upd H1 D (.lst [])) scope ce [z, TI, TO, i1, i2]) [] (wipe σ [ia, ib]) (upd H1 D (.lst (pk (ws.take j) (bs.take j)))) s' ∧ ZSt l1 l2 z TI TO i1 i2 j s'.heap := fun {s'} J => by
        refine ⟨ws.length - (i + 1), by omega, i + 1, rfl, hlt, (J.unpinned (pins := [])).weak ?_ (fun j v e => ?_), z7.keep fun c hc o e => (J.pin (c, o) (List.mem_append_right _ (List.mem_append_right _ (mem_pinsAt hc e)))).1⟩
        · rw [List.length_set, List.length_set]
        · rw [← lw] at e
          exact (wipe_some e).1
      have step := pk_step ea1 eb1
      cases b with
      | false =>
        rw [if_neg Bool.false_ne_true]
        rw [if_neg Bool.false_ne_true] at step
        exact fin (by rw [step]; exact I9)
      | true =>
        rw [if_pos rfl]
        rw [if_pos rfl] at step
        refine thnF (ge.run _ s9 _ _ (fun v H' => v = a1 ∧ H' = upd H1 D (.lst (pk (ws.take i) (bs.take i)))) I9 ⟨a1, la, rfl, rfl⟩) fun zv s10 hh10 => ?_
        obtain ⟨yv, H10, I10, r10, ey, eH10⟩ := hh10
        subst ey eH10
        refine app_ok (X := X.blk s3 (upd H1 D (.lst [])) scope ce [z, TI, TO, i1, i2]) I10 upd_same ?_ r10 fun s11 I11 => fin (by rw [step]; rw [upd_upd] at I11; exact I11)
        have h9 : (pk (ws.take i) (bs.take i)).length ≤ ws.length := by
          unfold pk
          rw [List.length_map]
          refine Nat.le_trans (List.length_filter_le _ _) ?_
          rw [List.length_zip, List.length_take]
          omega
        rw [sizeLine_eq]
        omega
    · have e : i = ws.length := by omega
      subst e
      have hx : its1.toArray[ws.length]? = none := by simp; omega
      refine pyNext_zip_over hot5 ap zz zTI zTO zi1 p1.isList hx (fun w => nfp (by rw [w]; simp)) fun g k => ?_
      have I6 : Inv (X.blk s3 (upd H1 D (.lst [])) scope ce [z, TI, TO, i1, i2]) [] (wipe σ [ia, ib]) (upd H1 D (.lst (pk (ws.take ws.length) (bs.take ws.length)))) { s5 with heap := g } :=
        I5.turnedL (t' := s5.toks) (ch := [z, TI, TO, i1, i2]) (fun c o hb e => by
          simp only [List.mem_cons, List.not_mem_nil, or_false, not_or] at hb
          exact k c o hb.1 hb.2.2.2.1 e) st5
      have I8 : Inv X pins σ (upd H1 D (.lst (pk (ws.take ws.length) (bs.take ws.length)))) { s5 with heap := g } := I3.call' (ch := [z, TI, TO, i1, i2]) I6.os I6.base I6.hok I6.bare fun b hb => ⟨(f3 b hb).1.2.2.2.1, (f3 b hb).1.2.1, (f3 b hb).1.2.2.2.2.1, (f3 b hb).1.2.2.2.2.2⟩
      have nC : (upd H1 D (.lst (pk (ws.take ws.length) (bs.take ws.length)))) s3.heap.objs.size = none := by
        have w : (upd H1 D (.lst (pk (ws.take ws.length) (bs.take ws.length)))) ce.locals = none := I6.free
        rw [cL] at w
        exact w
      obtain ⟨m, hn, _⟩ := I6.loc
      have hn : ({ s5 with heap := g } : Shared).heap.Ns ce.locals m := hn
      rw [cL] at hn
      refine hRR D s3.heap.objs.size _ m _ I8 ?_ hn (I3.fpOk (Nat.le_refl _) nC)
      rw [List.take_length, hlen, List.take_length]
      exact q D hDn
  exact codeAny_compStart_list loop (wpAny_pyIter_zip z4.1 loop)
theorem lcZ {x y : Str} {ia ib : Nat} {e1 e2 : Expr} {ta : TA} {scope : Scope} {p pz px py pt ptt pe pos pos' : Pos} {kt : Nat} {tt : TT} {use : Option (Value → Sem Unit)} {Qf : Value → Shared → Prop}
    (hotc : HotC X) (hN : X.N.Nodup) (I : Inv X pins σ H s) (ok : BlkOk X.N X.env.scope scope [(x, ia), (y, ib)]) (hab : ia ≠ ib) (hg : Gl X "zip") (hm : X.mg "zip" = none) (ha : PA X [e1, e2] ta)
    (hnx : ∀ (s : Shared) (H : Hp) (C : Addr) (cl : List (Str × Addr)) (fp : List Addr), PG (X.blk s H scope (compEnvC scope cl C X.env) fp) (.Name x px) (gName ia)) (hny : ∀ (s : Shared) (H : Hp) (C : Addr) (cl : List (Str × Addr)) (fp : List Addr), PG (X.blk s H scope (compEnvC scope cl C X.env) fp) (.Name y py) (gName ib))
    (ht : ∀ (s : Shared) (H : Hp) (C : Addr) (cl : List (Str × Addr)) (fp : List Addr), PTs (X.blk s H scope (compEnvC scope cl C X.env) fp) [.Name y pt] tt) (htt : ∀ (σ : L2.St) (H : Hp) (b : Bool) (Q : Bool → Hp → Prop), σ[ib]? = some (some (.bl b)) → Q b H → tt σ H Q)
    (he : ∀ (s : Shared) (H : Hp) (C : Addr) (cl : List (Str × Addr)) (fp : List Addr), PE (X.blk s H scope (compEnvC scope cl C X.env) fp) (.Name x pe) (tVar ia))
    (hs : ∀ v, foldedSetIterable (.Call (.Name "zip" p) [e1, e2] [] pz) X.env v = pure v) (hs1 : starEach [e1, e2] X.env = (false, eval e1 X.env) :: starEach [e2] X.env) (hpl : (backTo pz (starEach [e2] X.env)).any (·.1) = false)
    (hes : ∀ (s : Shared) (H : Hp) (C : Addr) (cl : List (Str × Addr)) (fp : List Addr), (assignEach [.Name x px, .Name y py] (X.blk s H scope (compEnvC scope cl C X.env) fp).env).length = 2 ∧ (assignEach [.Name x px, .Name y py] (X.blk s H scope (compEnvC scope cl C X.env) fp).env).findIdx? (·.1) = none)
    (h : ta σ H fun vs H1 => ∃ (l1 l2 : Addr) (ws : List V) (bs : List Bool), vs = [.ref l1, .ref l2] ∧ SqL X.K H1 l1 ws ∧ SqL X.K H1 l2 (bs.map V.bl) ∧ ws.length = bs.length ∧ ws.length ≤ 1000 ∧ ∀ D, H1 D = none → Q (.ref D) (upd H1 D (.lst (pk ws bs))))
    (hRR : ∀ D C s' m H', Inv X pins σ H' s' → Q (.ref D) H' → s'.heap.Ns C m → FpOk X pins H' C → compPost (model X.prog X.w) X.A X.xe use Qf (.ref D) C (.ok .next) s') :
    wpAny (model X.prog X.w) X.A (comprehension (.ListComp (.Name x pe) [⟨.Tuple [.Name x px, .Name y py] kt ptt, .Call (.Name "zip" p) [e1, e2] [] pz, [.Name y pt], 0⟩] scope pos) scope X.env pos' (newList []) false (eval (.Call (.Name "zip" p) [e1, e2] [] pz) X.env) use) Qf X.xe s := by
  have hfree : ∀ u ∈ scope.names, u.2 = .free → ∃ c, X.env.cells.lookup u.1 = some c := fun u hu e => (ok.free u hu e).elim (fun k => I.ok.has _ (.inl k)) fun k => I.ok.has _ (.inr k)
  refine wpAny_comprehension_free (use := use) rfl hs (closure_ok hfree) ok.kind (fun u hu e => by rw [ok.uniq u hu, e]) ?_
  refine Call_ (ld_blt I hg hm boot_zip (callWith_type1 (thn (ha.run pz pins s σ H _ I h) fun us s1 hh => ?_) hs1 hpl))
  obtain ⟨vs, H1, I1, r1, l1, l2, ws, bs, ev, hq1, hq2, hlen, hle, q⟩ := hh
  subst ev
  cases r1 with
  | cons ru rr =>
    cases rr with
    | cons rv rr =>
      cases rr
      cases ru
      cases rv
      obtain ⟨its1, rv1, p1, _⟩ := I1.list hq1
      obtain ⟨its2, rv2, p2, _⟩ := I1.list hq2
      refine call_zip_2 p1.isList p2.isList fun g1 hz hTI hTO h1 h2 hsz hk => wpAny_pyIter_zip hz ?_
      have I2 : Inv X pins σ H1 { s1 with heap := g1 } := I1.kept (t' := s1.toks) hk
      refine lcZ_loop hotc I2 ok hN hab hnx hny ht htt he hes (PySem.W.ktu_apart s1.heap.objs.size l1 l2 p1.lt p2.lt) ⟨hz, hTI, ⟨_, _, hTO⟩, h1, h2⟩ (fun c hc => ?_) hq1 hq2 hlen hle q hRR
      have hle5 : s1.heap.objs.size ≤ c := by
        simp only [List.mem_cons, List.not_mem_nil, or_false] at hc
        rcases hc with rfl | rfl | rfl | rfl | rfl <;> first | exact Nat.le_add_right _ _ | exact Nat.le_refl _
      exact I1.fpOk hle5 (I1.hok.fresh hle5)
end
end SyH
/-! ### what raises -/
namespace Sy
open PySem PySem.Spec PyProof.Rows L2
/-- a promise of a def that raises: called with these data it raises an exception of a class -/
abbrev FSx := List D → (Value → Prop) → Prop
def spX (K : PySem.W.Frag) (F : FSx) : Sp := fun vs H _ E => ∃ B M ds qx, H = J B M ∧ Dis B M ∧ RpA K B ds vs ∧ F ds qx ∧ ∀ cls, qx cls → ∀ B', Same B B' → Dis B' M → E cls none (J B' M)
/-- the state of slots and heap in which an exception of a class leaves -/
def RX (K : PySem.W.Frag) (M0 B : Hp) (kx : Value → Env_ → Prop) : WX := fun cls d σ H => d = none ∧ ∃ env' B' M', H = J B' M' ∧ Conc K M0 env' B' M' σ ∧ Same B B' ∧ kx cls env'
/-- a statement, a block that raises -/
def SX1 (X : Cx) (W : WX) (st : Stmt) (env : Env_) (kx : Value → Env_ → Prop) : Prop := ∀ (M0 B M : Hp) (σ : L2.St), Conc X.K M0 env B M σ → (∀ cls d σ' H', RX X.K M0 B kx cls d σ' H' → W cls d σ' H') → ∀ Dd : Ends, canS X st Dd σ (J B M)
def SX (X : Cx) (W : WX) (sts : List Stmt) (env : Env_) (kx : Value → Env_ → Prop) : Prop := ∀ (M0 B M : Hp) (σ : L2.St), Conc X.K M0 env B M σ → (∀ cls d σ' H', RX X.K M0 B kx cls d σ' H' → W cls d σ' H') → ∀ Dd : Ends, canSs X sts Dd σ (J B M)
/-- no way out but what is raised -/
abbrev kNone (kx : Env_ → Prop) : K4 := { nx := kx, rt := fun _ _ => False }
section
variable {X : Cx} {W : WX} {K : PySem.W.Frag} {e a b c : Expr} {es rest : List Expr} {st : Stmt} {sts : List Stmt} {env : Env_} {kx : Value → Env_ → Prop} {pos : Pos}
variable {M0 B B1 M : Hp} {σ : L2.St}
theorem RX.back (s : Same B B1) {cls : Value} {d : Option Addr} {σ : L2.St} {H : Hp} (h : RX K M0 B1 kx cls d σ H) : RX K M0 B kx cls d σ H := by
  obtain ⟨h0, env', B', M', e1, c', sm, q⟩ := h
  exact ⟨h0, env', B', M', e1, c', s.trans sm, q⟩
theorem sx_one (h : SX1 X W st env kx) : SX X W (st :: sts) env kx := fun M0 B M σ c hW Dd pins s I => (pss_cons (ps_can (X := X) (st := st)) (pss_can (X := X) (sts := sts))).run pins s σ _ Dd I (h M0 B M σ c hW { Dd with nx := canSs X sts Dd })
theorem sx_cons (h : S1 X st env (kNone fun env' => SX X W sts env' kx)) : SX X W (st :: sts) env kx := fun M0 B M σ c hW Dd pins s I => (pss_cons (ps_can (X := X) (st := st)) (pss_can (X := X) (sts := sts))).run pins s σ _ Dd I (h M0 B M σ c { Dd with nx := canSs X sts Dd }
  (fun σ H p => by
    obtain ⟨env', B', M', e1, c', sm, q⟩ := p
    subst e1
    exact q M0 B' M' σ c' (fun cls d σ' H' r => hW cls d σ' H' (r.back sm)) Dd)
  (fun v H p => by rcases p with ⟨_, _, _, _, _, _, _, _, _, z⟩ | ⟨_, _, _, _, _, _, _, _, _, _, _, _, _, _, z⟩ <;> exact z.elim) (fun σ H p => by obtain ⟨_, _, _, _, _, _, z⟩ := p; exact z.elim) (fun σ H p => by obtain ⟨_, _, _, _, _, _, z⟩ := p; exact z.elim))
theorem sx_if {A Bl : List Stmt} (h : EB X c env fun x env' => (x = true → SX X W A env' kx) ∧ (x = false → SX X W Bl env' kx)) : SX1 X W (.If c A Bl pos) env kx := fun M0 B M σ cc hW Dd pins s I => (ps_if pt_can (pss_can (X := X) (sts := A)) (pss_can (X := X) (sts := Bl))).run pins s σ _ Dd I (h M0 B M σ cc _ fun x H p => by
  obtain ⟨env', B', M', rfl, c', sm, q1, q2⟩ := p
  cases x with
  | true => rw [if_pos rfl]; exact q1 rfl M0 B' M' σ c' (fun cls d σ' H' r => hW cls d σ' H' (r.back sm)) Dd
  | false => rw [if_neg Bool.false_ne_true]; exact q2 rfl M0 B' M' σ c' (fun cls d σ' H' r => hW cls d σ' H' (r.back sm)) Dd)
/-- what is known of an own class of exceptions -/
structure ExcT (K : PySem.W.Frag) (C : Addr) : Prop where
  own : ∃ (bmB : List Value) (B newId initId : String), ExcBaseFacts B newId initId bmB ∧ PySem.W.excIn K C bmB newId = true
  kp : PySem.W.keepIn K (.ref C) = true
  sb : PySem.W.subIn K (.ref C) (.type "BaseException") = some true
  ty : PySem.W.typeIn K (.ref C) = some (.type "type")
/-- raise C('..') -/
theorem sx_raise {x m : Str} {j : Nat} {p p2 pos' : Pos} {C : Addr} (T : ExcT X.K C) (gC : X.mg x = some (.ref C)) (tk : L2N.Takes X W) (q : kx (.ref C) env) (hc : X.calm = true := by rfl) (hg : Gl X x := by rfl)
    (hdb : (x == ("__debug__" : Str)) = false := by decide) : SX1 X W (.Raise (some (.Call (.Name x p) [.Constant (.str m) j p2] [] pos')) none pos) env kx := fun M0 B M σ c hW Dd pins s I => by
  obtain ⟨bmB, Bn, newId, initId, F, q1⟩ := T.own
  exact (L2N.ps_raise hc tk (L2N.pmk_own F q1 gC T.kp (raises_own T.sb T.ty) hg hdb)).run pins s σ _ Dd I (hW _ _ _ _ ⟨rfl, env, B, M, rfl, c, Same.refl B, q⟩)
/-- f(..), a statement, f raises -/
theorem sx_call {F : FSx} {n : Nat} {f : Addr} {fd : FuncData} {ps : List Str} {x : Str} {p : Pos} (G : FnOk X.prog X.w X.K X.mg X.base (L2N.CX X.prog X.w) n f fd ps (spX X.K F)) (hr : Room n X.A) (hm : X.mg x = some (.ref f)) (hk : PySem.W.keepIn X.K (.ref f) = true) (hb : Binds X.K fd ps []) {pos0 : Pos} (tk : L2N.Takes X W)
    (h : ED X (e :: es) env fun ds env' => F ds fun cls => kx cls env') (hs : swapsWith (.Call (.Name x p) (e :: es) [] pos) none pos0.line X.env = pure false := by rfl) (hg : Gl X x := by rfl) (hdb : (x == ("__debug__" : Str)) = false := by decide) (he : starEach (e :: es) X.env = (false, eval e X.env) :: starEach es X.env := by rfl) (hpl : (backTo pos (starEach es X.env)).any (·.1) = false := by rfl) :
    SX1 X W (.Expr (.Call (.Name x p) (e :: es) [] pos) pos0) env kx := fun M0 B M σ c hW Dd pins s I =>
  (ps_expr (pe_callS G hr hg hm hk hb (fun σ => L2N.passAt tk σ) pa_can hdb he hpl) hs).run pins s σ _ Dd I (h M0 B M σ c _ fun vs H ⟨ds, env', B', M', e1, c', sm, r, q⟩ => by
    subst e1
    exact ⟨B', M', ds, _, rfl, c'.dis, r, q, fun cls hq B2 s2 d2 => hW _ _ _ _ ⟨rfl, env', B2, M', rfl, c'.ext s2 d2, sm.trans s2, hq⟩⟩)
/-- f(e, .., k = v, ..), f raises -/
theorem sx_callK {F : FSx} {n : Nat} {f : Addr} {fd : FuncData} {ps ks : List Str} {kws : List Keyword} {np : Nat} {x : Str} {p pos0 : Pos} {tw : TA} (G : FnOk X.prog X.w X.K X.mg X.base (L2N.CX X.prog X.w) n f fd ps (spX X.K F)) (hr : Room n X.A) (hm : X.mg x = some (.ref f)) (hk : PySem.W.keepIn X.K (.ref f) = true) (hb : KB X.K fd ps ks np) (tk : L2N.Takes X W)
    (hkw : PK X kws tw) (h : ED X (e :: es) env fun ds env' => LDs X.K tw env' fun zs env2 => ds.length = np ∧ zs.length = ks.length ∧ F (ds ++ zs) fun cls => kx cls env2)
    (hs : swapsWith (.Call (.Name x p) (e :: es) kws pos) none pos0.line X.env = pure false := by rfl) (hall : (backToKw pos (keywordEach kws X.env)).all (·.1.isSome) = true := by rfl) (hks : (backToKw pos (keywordEach kws X.env)).filterMap (·.1) = ks := by rfl)
    (hg : Gl X x := by rfl) (hdb : (x == ("__debug__" : Str)) = false := by decide) (he : starEach (e :: es) X.env = (false, eval e X.env) :: starEach es X.env := by rfl)
    (hpl : ((backTo pos (starEach (e :: es) X.env)).any (·.1) || (backToKw pos (keywordEach kws X.env)).any (·.1.isNone)) = false := by rfl) : SX1 X W (.Expr (.Call (.Name x p) (e :: es) kws pos) pos0) env kx := fun M0 B M σ c hW Dd pins s I => by
  have key : PE X (.Call (.Name x p) (e :: es) kws pos) (fun σ H Q => canA X (e :: es) σ H fun vs H1 => tw σ H1 fun zs H2 => spX X.K F (gK np ks.length vs zs) H2 Q (WE W σ)) := by
    refine ⟨fun pins s σ H Q I h => wpAny_Call_Name_kw (ld_glob I hg hm (PySem.W.callWith_KW (h₀ := X.base) I.ok.mod.kin hk hall (thn ((pa_can (X := X) (es := e :: es)).run pos pins s σ H _ I h) fun us s1 hh => ?_) hpl he) hdb)⟩
    obtain ⟨vs, H1, I1, r, q⟩ := hh
    refine thn (hkw.run pos pins s1 σ H1 _ I1 q) fun ws s2 hh => ?_
    obtain ⟨zs, H2, I2, rz, q2⟩ := hh
    refine ⟨I2.kIn, ?_⟩
    rw [hks]
    have r2 := hb.binds.rel r rz
    have hl := (r2.length).symm.trans (G.len _ _ _ _ q2)
    refine wpAny_call (codeAny_mono (G.run X.A X.stack s2 H2 ⟨us, ks.zip ws⟩ _ _ Q (WE W σ) hr I2.env0 (hb.binds.to s2 us ws I2.kIn hl) r2 q2) fun rr s3 hq => ?_)
    cases rr with
    | error ex => exact L2N.passAt tk σ pins H2 s2 ex s3 I2 hq
    | ok fl =>
      cases fl with
      | ret u => exact I2.after hq
      | _ => exact False.elim hq
  refine (ps_expr key hs).run pins s σ _ Dd I (h M0 B M σ c _ fun vs H hh => ?_)
  obtain ⟨ds, env', B', M', e1, c', sm, r, q⟩ := hh
  subst e1
  refine q M0 B' M' σ c' _ fun zs H hh => ?_
  obtain ⟨es', env2, B2, M2, e2, c2, s2, r2, l1, l2, q2⟩ := hh
  subst e2
  refine ⟨B2, M2, ds ++ es', _, rfl, c2.dis, ?_, q2, fun cls hq B3 s3 d3 => hW _ _ _ _ ⟨rfl, env2, B3, M2, rfl, c2.ext s3 d3, (sm.trans s2).trans s3, hq⟩⟩
  unfold gK
  rw [if_pos ⟨r.length.trans l1, r2.length.trans l2⟩]
  exact RpA.append (r.mono s2) r2
end
/-! ### a def that raises keeps its promise -/
section
variable {P : Program} {w : World} {K : PySem.W.Frag} {mg : Str → Option Value} {base : Heap} {x qual : Str} {st : Stmt} {f : Addr} {fd : FuncData} {N ps : List Str} {n : Nat}
theorem fn_X {F : FSx} (Fn : Fun K x qual st f fd) (S : FnScope N ps (defScope st)) (hlen : ∀ ds q, F ds q → ds.length = ps.length)
    (hb : ∀ (cdv : Value) (A : Around) (outer : List Env) (s : Shared) (H : Hp) (E : XK), Room n (A.deeper (envOfC qual (defScope st) s.heap.objs.size f cdv)) → ∀ W : WX, L2N.Takes (cxOf (L2N.CX P w) P w K mg base N qual (defScope st) f cdv A outer s H E) W → ∀ ds qx, F ds qx →
      SX (cxOf (L2N.CX P w) P w K mg base N qual (defScope st) f cdv A outer s H E) W (defBody st) (env0 N ds) (fun cls _ => qx cls)) : FnOk P w K mg base (L2N.CX P w) (n + 1) f fd ps (spX K F) := by
  obtain ⟨oc, od, kV, doc, pm, an, cdv, ct, osl, rfl, lk, hcd⟩ := Fn.ex
  refine fn_of lk hcd S (fun vs H Q E h => ?_) fun A outer s H vs Q E hr h => ?_
  · obtain ⟨B, M, ds, q, _, _, r, hF, _⟩ := h
    rw [r.length, hlen ds q hF]
  · obtain ⟨B, M, ds, q, rfl, hd, r, hF, hq⟩ := h
    have tk : L2N.Takes (cxOf (L2N.CX P w) P w K mg base N qual (defScope st) f cdv A outer s (J B M) E) (fun cls d _ H => E cls d H) := L2N.takes_of rfl rfl rfl rfl
    refine ⟨_, pss_can, hb cdv A outer s _ E hr _ tk ds q hF M B M (start N vs) (conc_start hd r) (fun cls d σ H p => ?_) _⟩
    obtain ⟨rfl, env', B', M', rfl, c', sm, z⟩ := p
    obtain ⟨B2, e2, s2, d2⟩ := c'.out
    rw [← e2]
    exact hq cls z B2 (sm.trans s2) d2
end
/-! ### try .. except C as n -/
section
variable {K : PySem.W.Frag} {M0 B B1 M : Hp} {env : Env_} {σ : L2.St}
theorem Conc.clear (c : Conc K M0 env B M σ) (i : Nat) : ∃ B' M', J B' M' = J B M ∧ Same B B' ∧ Conc K M0 (env.set i .un) B' M' (σ.set i none) := by
  obtain ⟨B', M', e1, s1, c1⟩ := c.drop i
  refine ⟨B', M', e1, s1, c1.dis, by rw [List.length_set]; exact c1.len, fun j d q => ?_, c1.nd, c1.fresh, c1.frame⟩
  by_cases hj : i = j
  · subst hj
    have hl := (List.getElem?_eq_some_iff.mp q).1
    rw [List.length_set] at hl
    rw [List.getElem?_set_self hl] at q
    cases q
    exact ⟨none, List.getElem?_set_self (by rw [c.len]; exact hl), trivial⟩
  · obtain ⟨s, h1, h2⟩ := c1.slot j d q
    exact ⟨s, by rw [List.getElem?_set_ne hj]; exact h1, h2⟩
theorem takesNone {X : Cx} : L2N.Takes X (fun _ _ _ _ => False) := fun _ _ x => by
  obtain ⟨_, _, _, _, _, _, _, _, _, _, _, _, _, _, _, _, z⟩ := x
  exact z.elim
end
section
variable {X : Cx} {W : WX} {env : Env_} {kx : Value → Env_ → Prop} {k4 : K4} {body suite : List Stmt} {b₀ : Stmt} {x n : Str} {c : Value} {np pos pos' : Pos}
/-- the suite's ways out -/
abbrev kSuite (k4 : K4) (i : Nat) : K4 := { nx := fun e => k4.nx (e.set i .un), rt := k4.rt, bk := fun e => k4.bk (e.set i .un), ct := fun e => k4.ct (e.set i .un) }
/-- the body raises -/
theorem s_tryX (i : Nat) (hb : ∀ (pn : List (Addr × Obj)) (xe : Value → Shared → Prop) (W : WX), L2N.Takes (X.tr pn xe) W → SX (X.tr pn xe) W body env kx)
    (hk : ∀ cls env', kx cls env' → PySem.W.exmOne X.K cls c = some true ∧ ∀ (a : Addr) (oe : Obj) (pn : List (Addr × Obj)), L2N.Zn cls none oe → (∃ vs, oe.data = .fields vs) → SS (X.suite a ((a, oe) :: pn)) (b₀ :: suite) (env'.set i (.dat (.v (.ref a)))) (kSuite k4 i))
    (hN : X.N.Nodup) (hc : Names X x c) (hs : X.stack = X.env :: X.outer := by rfl) (hf : X.env.frame = some X.env.locals := by rfl) (hi : X.N[i]? = some n := by rfl) (hln : X.env.kindOf n = some .local := by rfl) : S1 X (.Try body [.ExceptHandler (some (.Name x np)) (some n) (b₀ :: suite) pos'] [] [] pos) env k4 :=
  fun M0 B M σ cc Dd h1 h2 h3 h4 pins s I => by
  refine (L2N.ps_try_as (Wout := fun _ _ _ _ => False) (tb := fun W D σ H => ∀ pn xe, L2N.Takes (X.tr pn xe) W → canSs (X.tr pn xe) body D σ H) (ts := fun a cls d D σ H => ∀ oe pn, L2N.Zn cls d oe → (∃ vs, oe.data = .fields vs) → canSs (X.suite a ((a, oe) :: pn)) (b₀ :: suite) D σ H)
    hs hf hN hi hln hc takesNone (fun W pn xe tk _ => ⟨fun pins s σ H D I h => h pn xe tk pins s I⟩) (fun a oe cls d pn hz hf => ⟨fun pins s σ H D I h => h oe pn hz hf pins s I⟩)).run pins s σ _ Dd I ?_
  intro pn xe tk
  refine hb pn xe _ tk M0 B M σ cc (fun cls d σ' H' r => ?_) Dd
  obtain ⟨rfl, env', B', M', rfl, c', sm, q⟩ := r
  obtain ⟨k1, k2⟩ := hk cls env' q
  refine ⟨true, k1, fun _ a ha oe pn2 hz hf2 => ?_, fun z => nomatch z⟩
  obtain ⟨B2, M2, e2, s2, c2⟩ := c'.set i (d := .v (.ref a)) (v := .ref a) rfl
  rw [← e2]
  refine k2 a oe pn2 hz hf2 M0 B2 M2 _ c2 _ (fun σ H p => ?_) (fun v H p => h2 v H (p.back (sm.trans s2))) (fun σ H p => ?_) (fun σ H p => ?_)
  · obtain ⟨env3, B3, M3, rfl, c3, s3, q3⟩ := p
    obtain ⟨B4, M4, e4, s4, c4⟩ := c3.clear i
    exact h1 _ _ ⟨_, B4, M4, e4.symm, c4, (sm.trans s2).trans (s3.trans s4), q3⟩
  · obtain ⟨env3, B3, M3, rfl, c3, s3, q3⟩ := p
    obtain ⟨B4, M4, e4, s4, c4⟩ := c3.clear i
    exact h3 _ _ ⟨_, B4, M4, e4.symm, c4, (sm.trans s2).trans (s3.trans s4), q3⟩
  · obtain ⟨env3, B3, M3, rfl, c3, s3, q3⟩ := p
    obtain ⟨B4, M4, e4, s4, c4⟩ := c3.clear i
    exact h4 _ _ ⟨_, B4, M4, e4.symm, c4, (sm.trans s2).trans (s3.trans s4), q3⟩
/-- the body raises nothing -/
theorem s_tryN (i : Nat) (hb : ∀ (pn : List (Addr × Obj)) (xe : Value → Shared → Prop), PassesOwn (model X.prog X.w) X.A X.env xe → SS (X.tr pn xe) body env k4)
    (hN : X.N.Nodup) (hc : Names X x c) (hs : X.stack = X.env :: X.outer := by rfl) (hf : X.env.frame = some X.env.locals := by rfl) (hi : X.N[i]? = some n := by rfl) (hln : X.env.kindOf n = some .local := by rfl) : S1 X (.Try body [.ExceptHandler (some (.Name x np)) (some n) (b₀ :: suite) pos'] [] [] pos) env k4 :=
  fun M0 B M σ cc Dd h1 h2 h3 h4 pins s I => by
  refine (L2N.ps_try_as (Wout := fun _ _ _ _ => False) (tb := fun _ D σ H => ∀ pn xe, PassesOwn (model X.prog X.w) X.A X.env xe → canSs (X.tr pn xe) body D σ H) (ts := fun a cls d D σ H => ∀ oe pn, canSs (X.suite a ((a, oe) :: pn)) (b₀ :: suite) D σ H)
    hs hf hN hi hln hc takesNone (fun W pn xe tk po => ⟨fun pins s σ H D I h => h pn xe po pins s I⟩) (fun a oe cls d pn hz hf => ⟨fun pins s σ H D I h => h oe pn pins s I⟩)).run pins s σ _ Dd I ?_
  intro pn xe po
  exact hb pn xe po M0 B M σ cc Dd h1 h2 h3 h4
end
end Sy
/-! ### in an except suite -/
namespace SyH
open PySem PySem.Spec PySem.Calls PyProof.Rows L2 HotX L2H
section
variable {X : Cx}
/-- name = [x for x, y in zip(..) if y] -/
theorem ps_lcZ {x y n : Str} {i ia ib : Nat} {e1 e2 : Expr} {ta : TA} {scope : Scope} {p pz px py pt ptt pe pos pn ps : Pos} {kt : Nat} {tt : TT}
    (hotc : HotC X) (hN : X.N.Nodup) (ok : BlkOk X.N X.env.scope scope [(x, ia), (y, ib)]) (hab : ia ≠ ib) (hg : Gl X "zip") (hm : X.mg "zip" = none) (ha : PA X [e1, e2] ta)
    (hnx : ∀ (s : Shared) (H : Hp) (C : Addr) (cl : List (Str × Addr)) (fp : List Addr), PG (X.blk s H scope (compEnvC scope cl C X.env) fp) (.Name x px) (gName ia)) (hny : ∀ (s : Shared) (H : Hp) (C : Addr) (cl : List (Str × Addr)) (fp : List Addr), PG (X.blk s H scope (compEnvC scope cl C X.env) fp) (.Name y py) (gName ib))
    (ht : ∀ (s : Shared) (H : Hp) (C : Addr) (cl : List (Str × Addr)) (fp : List Addr), PTs (X.blk s H scope (compEnvC scope cl C X.env) fp) [.Name y pt] tt) (htt : ∀ (σ : L2.St) (H : Hp) (b : Bool) (Q : Bool → Hp → Prop), σ[ib]? = some (some (.bl b)) → Q b H → tt σ H Q)
    (he : ∀ (s : Shared) (H : Hp) (C : Addr) (cl : List (Str × Addr)) (fp : List Addr), PE (X.blk s H scope (compEnvC scope cl C X.env) fp) (.Name x pe) (tVar ia))
    (hes : ∀ (s : Shared) (H : Hp) (C : Addr) (cl : List (Str × Addr)) (fp : List Addr), (assignEach [.Name x px, .Name y py] (X.blk s H scope (compEnvC scope cl C X.env) fp).env).length = 2 ∧ (assignEach [.Name x px, .Name y py] (X.blk s H scope (compEnvC scope cl C X.env) fp).env).findIdx? (·.1) = none)
    (hy : X.N[i]? = some n) (hyl : X.env.scope.names.lookup n = some .local)
    (hsw : swapsWith (.ListComp (.Name x pe) [⟨.Tuple [.Name x px, .Name y py] kt ptt, .Call (.Name "zip" p) [e1, e2] [] pz, [.Name y pt], 0⟩] scope pos) (some (.Name n pn)) ps.line X.env = pure true)
    (hs : ∀ v, foldedSetIterable (.Call (.Name "zip" p) [e1, e2] [] pz) X.env v = pure v := by intro _; rfl) (hs1 : starEach [e1, e2] X.env = (false, eval e1 X.env) :: starEach [e2] X.env := by rfl) (hpl : (backTo pz (starEach [e2] X.env)).any (·.1) = false := by rfl) :
    PS X (.Assign [.Name n pn] (.ListComp (.Name x pe) [⟨.Tuple [.Name x px, .Name y py] kt ptt, .Call (.Name "zip" p) [e1, e2] [] pz, [.Name y pt], 0⟩] scope pos) ps)
      (fun D σ H => ta σ H fun vs H1 => ∃ (l1 l2 : Addr) (ws : List V) (bs : List Bool), vs = [.ref l1, .ref l2] ∧ SqL X.K H1 l1 ws ∧ SqL X.K H1 l2 (bs.map V.bl) ∧ ws.length = bs.length ∧ ws.length ≤ 1000 ∧ ∀ L, H1 L = none → D.nx (σ.set i (some (.ref L))) (upd H1 L (.lst (pk ws bs)))) := by
  refine ⟨fun pins s σ H D I h => ?_⟩
  rw [exec_Assign_Name_used _ _ _ _ hsw]
  refine wpAny_bind (wpAny_standAt (wpAny_bind (wpAny_bind (thn (lcZ (use := some (assign (.Name n pn) X.env)) (pos' := firstIterPos [⟨.Tuple [.Name x px, .Name y py] kt ptt, .Call (.Name "zip" p) [e1, e2] [] pz, [.Name y pt], 0⟩] pos) (Q := fun v H1 => D.nx (σ.set i (some v)) H1)
    (Qf := fun _ s' => SP X pins D .next s') hotc hN I ok hab hg hm ha hnx hny ht htt he hs hs1 hpl hes h fun L C s' m H' J q hn f => ?_) fun _ s' hq => wpAny_pure (wpAny_pure hq)))))
  obtain ⟨f0, f1, f2, f3, f4, f5⟩ := f
  have stored := store_ok2 (M := model X.prog X.w) (A := X.A) (E := X.xe) (v := V.ref L) (u := .ref L) (Q := fun _ s'' => ∃ m, s''.heap.Ns C m ∧ ∀ h', Heap.SameBut C s''.heap h' → SP X pins D .next { s'' with heap := h' }) J hN hy (.inl hyl) rfl (fun s2 J2 hh => ?_) (.inr hyl)
  · exact wpAny_assign_Name stored
  · obtain ⟨b, sb, hb⟩ := hh
    have neC : C ≠ b := by
      rcases hb with z | z
      · rw [z]; exact f1
      · exact fun e => f4 n b z e.symm
    exact ⟨m, hn.sameBut sb neC, fun g sg => ⟨_, H', J2.turned (t' := s2.toks) (fun c o hc e => (sg.2 c hc).trans e) f0 f1 f3 f4 f5, q⟩⟩
end
/-- a def that is called within an except suite with the exception that is handled: its promise by the exception's object -/
structure FnP (P : Program) (w : World) (K : PySem.W.Frag) (mg : Str → Option Value) (base : Heap) (k : Nat) (f : Addr) (fd : FuncData) (ps : List Str) (sp : Addr × Obj → Sp) : Prop where
  len : ∀ p vs H Q E, sp p vs H Q E → vs.length = ps.length
  run : ∀ (A : Around) (outer : List Env) (s : Shared) (H : Hp) (args : Args) (us : List Value) (vs : List V) (Q : VK) (p : Addr × Obj), RoomH k A → Hot1 A p → PinOk outer H s p → Env0 P w K mg base A outer s H → BindsTo s fd args (ps.zip us) → Vals vs us → sp p vs H Q E0 →
    codeAny (model P w) A (.call (.ref f) args) (CR CX0 outer P w H s Q E0) s
theorem fnP_of {P : Program} {w : World} {K : PySem.W.Frag} {mg : Str → Option Value} {base : Heap} {x qual : Str} {st : Stmt} {f : Addr} {fd : FuncData} {N ps : List Str} {k : Nat} {sp : Addr × Obj → Sp} (F : Fun K x qual st f fd) (S : FnScope N ps (defScope st)) (len : ∀ p vs H Q E, sp p vs H Q E → vs.length = ps.length)
    (hb : ∀ (cdv : Value) (A : Around) (outer : List Env) (s : Shared) (H : Hp) (vs : List V) (Q : VK) (p : Addr × Obj), Hot1 A p → RoomH k (A.deeper (envOfC qual (defScope st) s.heap.objs.size f cdv)) → sp p vs H Q E0 →
      Sy.canSs (cxH CX0 P w K mg base N qual (defScope st) f cdv A outer s H E0 p) (defBody st) { nx := fun _ H' => Q .non H', rt := Q } (L2.start N vs) H) : FnP P w K mg base (k + 1) f fd ps sp := by
  obtain ⟨oc, od, kV, doc, pm, an, cdv, ct, osl, rfl, lk, hcd⟩ := F.ex
  refine ⟨len, fun A outer s H args us vs Q p hr hot hpin e0 bd r hsp => ?_⟩
  have kx : K.In s.heap := e0.mod.kin.keeps fun b o e => (e0.bs b o e).1
  have lim : s.heap.NoLimit := e0.mod.nolimit.keeps fun b o e => (e0.bs b o e).1
  refine codeAny_call_function hr.depth (kx _ _ lk) rfl S.co S.gen rfl (PySem.W.codeRec_of kx hcd) (bd _ _ _ _ (wpAny_newFunctionEnv_cells S.kind (fun y hy => ?_) fun env he s1 q => ?_))
  · obtain ⟨n, v⟩ := y
    exact (S.par n (List.of_mem_zip hy).1).elim .inl fun z => .inr ⟨z, PySem.W.cellsFrom_some _ _ _ (.inl z)⟩
  · subst he
    have J : Inv (cxH CX0 P w K mg base N qual (defScope st) f cdv A outer s H E0 p) [] (L2.start N vs) H s1 := inv_startH S hpin e0 (len _ _ _ _ _ hsp) r q
    refine ⟨lim.keeps q.toInCall.keep, codeAny_func (wpAny_mono (hb cdv A outer s H vs Q p hot (hr.deeper _) hsp [] s1 J) (fun fl s2 hs => ?_) fun e s2 hs => hs)⟩
    cases fl with
    | ret u =>
      obtain ⟨v, σ2, H2, J2, rv, z⟩ := hs
      exact ⟨v, H2, J2.os, J2.bare, J2.base, J2.hok, rv, z⟩
    | next =>
      obtain ⟨σ2, H2, J2, z⟩ := hs
      exact ⟨V.non, H2, J2.os, J2.bare, J2.base, J2.hok, rfl, z⟩
    | brk => obtain ⟨_, _, _, z⟩ := hs; exact z.elim
    | cont => obtain ⟨_, _, _, z⟩ := hs; exact z.elim
section
variable {X : Cx} {p : Addr × Obj} {k : Nat} {f : Addr} {fd : FuncData} {ps : List Str} {sp : Addr × Obj → Sp} {x : Str} {q pos : Pos} {e : Expr} {es : List Expr} {t : TA}
theorem pe_callP (F : FnP X.prog X.w X.K X.mg X.base k f fd ps sp) (hr : RoomH k X.A) (hot : Hot1 X.A p) (hp : p ∈ X.pn) (hg : Gl X x) (hm : X.mg x = some (.ref f)) (hk : PySem.W.keepIn X.K (.ref f) = true) (hb : Binds X.K fd ps [])
    (ha : PA X (e :: es) t) (hdb : (x == ("__debug__" : Str)) = false := by decide) (he : starEach (e :: es) X.env = (false, eval e X.env) :: starEach es X.env := by rfl) (hpl : (backTo pos (starEach es X.env)).any (·.1) = false := by rfl) :
    PE X (.Call (.Name x q) (e :: es) [] pos) (fun σ H Q => t σ H fun vs H1 => sp p vs H1 Q E0) := by
  refine ⟨fun pins s σ H Q I h => wpAny_Call_Name_kw (ld_glob I hg hm (PySem.W.callWith_K (h₀ := X.base) I.ok.mod.kin hk (thn (ha.run pos pins s σ H _ I h) fun us s1 hh => ?_) he hpl) hdb)⟩
  obtain ⟨vs, H1, I1, r, z⟩ := hh
  refine ⟨I1.kIn, ?_⟩
  have hl := (r.length).symm.trans (F.len _ _ _ _ _ z)
  have b := hb s1 us I1.kIn (by rw [List.append_nil]; exact hl)
  rw [List.append_nil] at b
  have pp := I1.pin p (List.mem_append_left _ hp)
  have hpin : PinOk X.stack H1 s1 p := ⟨pp.1, pp.2.1, fun hm => (List.mem_cons.mp (I1.stkSub p.1 hm)).elim pp.2.2.1 pp.2.2.2.1, pp.2.2.2.2⟩
  refine wpAny_call (codeAny_mono (F.run X.A X.stack s1 H1 ⟨us, []⟩ us vs Q p hr hot hpin I1.env0 b r z) fun rr s2 hq => ?_)
  cases rr with
  | error ex => exact False.elim hq
  | ok fl =>
    cases fl with
    | ret u => exact I1.after hq
    | _ => exact False.elim hq
/-- isinstance(e, c), e the exception that is handled -/
theorem cr_isH {D : Addr} (hp : p ∈ X.pn) (C : ExcC X.K D) (h1 : p.2.cls = .ref D) (h2 : p.2.dict = none) (hf : ∃ vs, p.2.data = .fields vs) : CallR X (.builtin "isinstance") (rIsE X.K D p.1) := by
  intro pins s σ H xs us Q I r h
  obtain ⟨c, cv, b, rfl, hcv, e, z⟩ := h
  cases r with
  | cons rx rr =>
    cases rr with
    | cons rt rr =>
      cases rr
      cases rx
      have ec := hcv _ rt
      subst ec
      have g := (I.pin p (List.mem_append_left _ hp)).1
      obtain ⟨vs, hv⟩ := hf
      have J : PySem.W.InstAt s.heap p.1 p.2 D none := by
        obtain ⟨a, ⟨oc, od, odt, osl⟩⟩ := p
        dsimp only at h1 h2 hv g ⊢
        subst h1 h2 hv
        exact ⟨g, rfl, rfl, trivial⟩
      exact PySem.W.kia_one (PySem.W.handS_kitx_exc C.hg C.hk C.hs C.hd C.ha C.hn C.ht C.hm) I.kIn J e (fun y => nomatch y) fun tk => ⟨.bl b, H, I.kept (t' := tk) fun _ _ y => y, rfl, z⟩
end
end SyH
namespace Sy
open PySem PySem.Spec PyProof.Rows L2 L2H SyH
theorem pk_map {α β : Type} (f : α → β) (ws : List α) (bs : List Bool) : pk (ws.map f) bs = (pk ws bs).map f := by
  unfold pk
  have e : (ws.map f).zip bs = (ws.zip bs).map fun p => (f p.1, p.2) := by
    rw [List.zip_map_left]
    rfl
  rw [e, List.filter_map, List.map_map, List.map_map]
  rfl
/-- the promise of a def that names the exception of class C that is handled: z -/
def spE (K : PySem.W.Frag) (C : Addr) (z : Str) : Addr × Obj → Sp := fun p vs H Q _ => p.2.cls = .ref C ∧ p.2.dict = none ∧ (∃ fs, p.2.data = .fields fs) ∧ vs = [.ref p.1] ∧ ∃ B M, H = J B M ∧ Dis B M ∧ RetOk K B M Q (.d (S_ z))
section
variable {P : Program} {w : World} {K : PySem.W.Frag} {mg : Str → Option Value} {base : Heap} {x qual : Str} {st : Stmt} {f : Addr} {fd : FuncData} {N : List Str} {n : Nat} {C : Addr} {z y : Str}
theorem fn_E (Fn : Fun K x qual st f fd) (S : FnScope N [y] (defScope st))
    (hb : ∀ (cdv : Value) (A : Around) (outer : List Env) (s : Shared) (H : Hp) (p : Addr × Obj), Hot1 A p → RoomH n (A.deeper (envOfC qual (defScope st) s.heap.objs.size f cdv)) → p.2.cls = .ref C → p.2.dict = none → (∃ fs, p.2.data = .fields fs) →
      SS (cxH CX0 P w K mg base N qual (defScope st) f cdv A outer s H E0 p) (defBody st) (env0 N [.v (.ref p.1)]) { nx := fun _ => False, rt := fun r _ => r = .d (S_ z) }) : FnP P w K mg base (n + 1) f fd [y] (spE K C z) := by
  refine fnP_of Fn S (fun p vs H Q E h => ?_) fun cdv A outer s H vs Q p hot hr h => ?_
  · obtain ⟨_, _, _, rfl, _⟩ := h
    rfl
  · obtain ⟨h1, h2, h3, rfl, B, M, rfl, hd, hq⟩ := h
    refine hb cdv A outer s _ p hot hr h1 h2 h3 M B M (start N [.ref p.1]) (conc_start (ds := [.v (.ref p.1)]) hd ⟨.ref p.1, [], rfl, rfl, rfl⟩) _ (fun σ H p => ?_) (fun v H p => ?_) (fun σ H p => ?_) (fun σ H p => ?_)
    · obtain ⟨_, _, _, _, _, _, w⟩ := p; exact w.elim
    · rcases p with ⟨σ', d, env', B', M', rfl, c, sm, r', w⟩ | ⟨σ', a, mo, o, env', B', M', rfl, rfl, n1, n2, c, sm, r', w⟩
      · cases w
        obtain ⟨B2, e2, s2, d2⟩ := c.out
        show Q v (J B' M')
        rw [← e2]
        exact hq v B2 (sm.trans s2) d2 (Rp.mono s2 _ v r')
      · cases w
    · obtain ⟨_, _, _, _, _, _, w⟩ := p; exact w.elim
    · obtain ⟨_, _, _, _, _, _, w⟩ := p; exact w.elim
end
section
variable {X : Cx} {env : Env_} {k : D → Env_ → Prop} {k4 : K4} {a : Expr} {pos : Pos} {C : Addr} {p : Addr × Obj}
/-- f(e), e the exception that is handled, f names it -/
theorem ee_errName (i : Nat) {n : Nat} {f : Addr} {fd : FuncData} {x y v z : Str} {q1 q2 : Pos} (G : FnP X.prog X.w X.K X.mg X.base n f fd [y] (spE X.K C z)) (hr : RoomH n X.A) (hot : Hot1 X.A p) (hp : p ∈ X.pn) (h1 : p.2.cls = .ref C) (h2 : p.2.dict = none) (h3 : ∃ fs, p.2.data = .fields fs)
    (hm : X.mg x = some (.ref f)) (hk : PySem.W.keepIn X.K (.ref f) = true) (hb : Binds X.K fd [y] []) (hi : env[i]? = some (.dat (.v (.ref p.1)))) (q : k (S_ z) env) (hN : X.N[i]? = some v := by rfl) (hv : Vis X.env.scope v := by first | exact Or.inl rfl | exact Or.inr (Or.inl rfl) | exact Or.inr (Or.inr rfl)) (hg : Gl X x := by rfl)
    (hdv : (v == ("__debug__" : Str)) = false := by decide) (hcv : (v == ("__classdict__" : Str)) = false := by decide) (hd : (x == ("__debug__" : Str)) = false := by decide) (he : starEach [.Name v q2] X.env = (false, eval (.Name v q2) X.env) :: starEach [] X.env := by rfl) (hpl : (backTo pos (starEach [] X.env)).any (·.1) = false := by rfl) :
    EE X (.Call (.Name x q1) [.Name v q2] [] pos) env k := .of (pe_callP G hr hot hp hg hm hk hb (pa_cons (pe_var hN hv hdv hcv) pa_nil he) hd he hpl) fun M0 B M σ c Q hQ => by
  obtain ⟨s, hs, u, e1, r⟩ := c.slot i _ hi
  have r : u = .ref p.1 := r
  subst e1 r
  exact ⟨_, hs, h1, h2, h3, rfl, B, M, rfl, c.dis, fun v B2 s2 d2 r2 => hQ _ _ ⟨S_ z, env, B2, M, rfl, c.ext s2 d2, s2, r2, q⟩⟩
/-- isinstance(e, c), c an own class | a built-in one -/
theorem ee_isEC (i : Nat) {D : Addr} {v x : Str} {q1 q2 q3 : Pos} {b : Bool} (hm0 : X.mg "isinstance" = none) (hp : p ∈ X.pn) (T : ExcC X.K C) (h1 : p.2.cls = .ref C) (h2 : p.2.dict = none) (h3 : ∃ fs, p.2.data = .fields fs) (hm : X.mg x = some (.ref D)) (hkt : PySem.W.kitOne X.K (.ref C) (.ref D) = some b)
    (hi : env[i]? = some (.dat (.v (.ref p.1)))) (q : k (Bl b) env) (hN : X.N[i]? = some v := by rfl) (hv : Vis X.env.scope v := by first | exact Or.inl rfl | exact Or.inr (Or.inl rfl) | exact Or.inr (Or.inr rfl)) (hg0 : Gl X "isinstance" := by rfl) (hg : Gl X x := by rfl)
    (hdv : (v == ("__debug__" : Str)) = false := by decide) (hcv : (v == ("__classdict__" : Str)) = false := by decide) (hd : (x == ("__debug__" : Str)) = false := by decide)
    (he : starEach [.Name v q2, .Name x q3] X.env = (false, eval (.Name v q2) X.env) :: starEach [.Name x q3] X.env := by rfl) (he2 : starEach [.Name x q3] X.env = (false, eval (.Name x q3) X.env) :: starEach [] X.env := by rfl) (hpl : (backTo pos (starEach [.Name x q3] X.env)).any (·.1) = false := by rfl) :
    EE X (.Call (.Name "isinstance" q1) [.Name v q2, .Name x q3] [] pos) env k :=
  .of (pe_callB (cr_isH hp T h1 h2 h3) hg0 hm0 boot_isinstance (pa_cons (pe_var hN hv hdv hcv) (pa_cons (pe_glob (v := .ref D) hg hm rfl hd) pa_nil he2) he) (by decide) (by decide) he hpl) fun M0 B M σ c Q hQ => by
  obtain ⟨s, hs, u, e1, r⟩ := c.slot i _ hi
  have r : u = .ref p.1 := r
  subst e1 r
  exact ⟨_, hs, .ref D, .ref D, b, rfl, fun u r => r, hkt, hQ _ _ (.nowA c q)⟩
theorem ee_isEB (i : Nat) {v x : Str} {Tn : String} {q1 q2 q3 : Pos} {b : Bool} (hm0 : X.mg "isinstance" = none) (hp : p ∈ X.pn) (T : ExcC X.K C) (h1 : p.2.cls = .ref C) (h2 : p.2.dict = none) (h3 : ∃ fs, p.2.data = .fields fs) (hm : X.mg x = none) (hv0 : bootBuiltins x = some (.type Tn)) (hkt : PySem.W.kitOne X.K (.ref C) (.type Tn) = some b)
    (hi : env[i]? = some (.dat (.v (.ref p.1)))) (q : k (Bl b) env) (hN : X.N[i]? = some v := by rfl) (hv : Vis X.env.scope v := by first | exact Or.inl rfl | exact Or.inr (Or.inl rfl) | exact Or.inr (Or.inr rfl)) (hg0 : Gl X "isinstance" := by rfl) (hg : Gl X x := by rfl)
    (hdv : (v == ("__debug__" : Str)) = false := by decide) (hcv : (v == ("__classdict__" : Str)) = false := by decide) (hn : x ≠ "__name__" := by decide) (hd : (x == ("__debug__" : Str)) = false := by decide)
    (he : starEach [.Name v q2, .Name x q3] X.env = (false, eval (.Name v q2) X.env) :: starEach [.Name x q3] X.env := by rfl) (he2 : starEach [.Name x q3] X.env = (false, eval (.Name x q3) X.env) :: starEach [] X.env := by rfl) (hpl : (backTo pos (starEach [.Name x q3] X.env)).any (·.1) = false := by rfl) :
    EE X (.Call (.Name "isinstance" q1) [.Name v q2, .Name x q3] [] pos) env k :=
  .of (pe_callB (cr_isH hp T h1 h2 h3) hg0 hm0 boot_isinstance (pa_cons (pe_var hN hv hdv hcv) (pa_cons (pe_bltn (v := .ty Tn) hg hm hv0 rfl hn hd) pa_nil he2) he) (by decide) (by decide) he hpl) fun M0 B M σ c Q hQ => by
  obtain ⟨s, hs, u, e1, r⟩ := c.slot i _ hi
  have r : u = .ref p.1 := r
  subst e1 r
  exact ⟨_, hs, .ty Tn, .type Tn, b, rfl, fun u r => r, hkt, hQ _ _ (.nowA c q)⟩
/-- name = [x for x, y in zip(t.split(..), s) if y] -/
theorem s_lcZ (i iw iz ia ib : Nat) {x y n t sv sep tx : Str} {scope : Scope} {p pz px py pt ptt pe pos pn ps pt2 ps2 pa pc psp : Pos} {kt j : Nat} {ad : Addr} {ws : List Str} {bs : List Bool} (hotc : HotC X) (hN : X.N.Nodup) (ok : BlkOk X.N X.env.scope scope [(x, ia), (y, ib)]) (hm : X.mg "zip" = none)
    (hiw : env[iw]? = some (.dat (S_ tx))) (hiz : env[iz]? = some (.mu ad (.lst (bs.map Bl)))) (hsp : Txt.split tx sep = ws) (hl : ws.length = bs.length) (hle : ws.length ≤ 1000) (h0 : (sep.length == 0) = false) (htl : tx.length + 2 ≤ sizeLine) (q : i < env.length ∧ ∀ p, k4.nx (env.set i (.mu p (.lst ((pk ws bs).map S_)))))
    (hnx : ∀ (s : Shared) (H : Hp) (C : Addr) (cl : List (Str × Addr)) (fp : List Addr), PG (X.blk s H scope (compEnvC scope cl C X.env) fp) (.Name x px) (gName ia)) (hny : ∀ (s : Shared) (H : Hp) (C : Addr) (cl : List (Str × Addr)) (fp : List Addr), PG (X.blk s H scope (compEnvC scope cl C X.env) fp) (.Name y py) (gName ib))
    (ht : ∀ (s : Shared) (H : Hp) (C : Addr) (cl : List (Str × Addr)) (fp : List Addr), PE (X.blk s H scope (compEnvC scope cl C X.env) fp) (.Name y pt) (tVar ib)) (he : ∀ (s : Shared) (H : Hp) (C : Addr) (cl : List (Str × Addr)) (fp : List Addr), PE (X.blk s H scope (compEnvC scope cl C X.env) fp) (.Name x pe) (tVar ia))
    (hw : PE X (.Name t pt2) (tVar iw)) (hz : PE X (.Name sv ps2) (tVar iz))
    (hes : ∀ (s : Shared) (H : Hp) (C : Addr) (cl : List (Str × Addr)) (fp : List Addr), (assignEach [.Name x px, .Name y py] (X.blk s H scope (compEnvC scope cl C X.env) fp).env).length = 2 ∧ (assignEach [.Name x px, .Name y py] (X.blk s H scope (compEnvC scope cl C X.env) fp).env).findIdx? (·.1) = none)
    (hab : ia ≠ ib := by decide) (hg : Gl X "zip" := by rfl) (hy : X.N[i]? = some n := by rfl) (hyl : X.env.scope.names.lookup n = some .local := by rfl)
    (hbase : attributeBase (.Name t pt2) "split" X.env (eval (.Name t pt2) X.env) = eval (.Name t pt2) X.env := by rfl) (hline : (pa.endLine == psp.line) = true := by rfl) (hss : starEach [.Constant (.str sep) j pc] X.env = [(false, eval (.Constant (.str sep) j pc) X.env)] := by rfl)
    (hsw : swapsWith (.ListComp (.Name x pe) [⟨.Tuple [.Name x px, .Name y py] kt ptt, .Call (.Name "zip" p) [.Call (.Attribute (.Name t pt2) "split" pa) [.Constant (.str sep) j pc] [] psp, .Name sv ps2] [] pz, [.Name y pt], 0⟩] scope pos) (some (.Name n pn)) ps.line X.env = pure true := by rfl)
    (hs1 : starEach [.Call (.Attribute (.Name t pt2) "split" pa) [.Constant (.str sep) j pc] [] psp, .Name sv ps2] X.env = (false, eval (.Call (.Attribute (.Name t pt2) "split" pa) [.Constant (.str sep) j pc] [] psp) X.env) :: starEach [.Name sv ps2] X.env := by rfl)
    (hs2 : starEach [.Name sv ps2] X.env = (false, eval (.Name sv ps2) X.env) :: starEach [] X.env := by rfl) (hpl : (backTo pz (starEach [.Name sv ps2] X.env)).any (·.1) = false := by rfl) :
    S1 X (.Assign [.Name n pn] (.ListComp (.Name x pe) [⟨.Tuple [.Name x px, .Name y py] kt ptt, .Call (.Name "zip" p) [.Call (.Attribute (.Name t pt2) "split" pa) [.Constant (.str sep) j pc] [] psp, .Name sv ps2] [] pz, [.Name y pt], 0⟩] scope pos) ps) env k4 :=
  .of (ps_lcZ (tt := fun σ H Q => tVar ib σ H fun v H1 => ∃ b, v = .bl b ∧ Q b H1) hotc hN ok hab hg hm (pa_cons (pe_split hw pe_str hss hbase hline) (pa_cons hz pa_nil hs2) hs1) hnx hny (fun s H C cl fp => pts_one (pt_val (ht s H C cl fp))) (fun σ H b Q e q => ⟨_, e, b, rfl, q⟩) he hes hy hyl hsw (by intro _; rfl) hs1 hpl) fun M0 B M σ c Dd h1 h2 h3 h4 => by
  obtain ⟨s1, e1, u1, es1, r1⟩ := c.slot iw _ hiw
  obtain ⟨s2, e2, es2, o2, ho2, xs2, rfl, r2⟩ := c.slot iz _ hiz
  have r1 : u1 = .str tx := r1
  subst es1 r1 es2
  have ex2 : xs2 = bs.map V.bl := by
    have em : bs.map Bl = (bs.map V.bl).map D.v := by rw [List.map_map]; rfl
    rw [em] at r2
    exact r2.atoms_eq
  subst ex2
  refine ⟨_, e1, ⟨tx, rfl⟩, tx, sep, rfl, rfl, h0, htl, fun p1 hp1 => ?_⟩
  obtain ⟨n1, n2⟩ := J_none hp1
  have c1 := c.new (o := .lst ((Txt.split tx sep).map V.str)) n1 n2
  refine ⟨_, e2, p1, ad, (Txt.split tx sep).map V.str, bs, rfl, SqL.of upd_same, ?_, by rw [List.length_map, hsp]; exact hl, by rw [List.length_map, hsp]; exact hle, fun L hL => ?_⟩
  · rw [upd_JB n1]
    exact SqL.of (J_M ho2)
  · rw [upd_JB n1] at hL ⊢
    obtain ⟨m1, m2⟩ := J_none hL
    obtain ⟨B2, M2, e3, s3, c3⟩ := c1.setM i (p := L) (mo := .lst ((pk ws bs).map S_)) (o := .lst (pk ((Txt.split tx sep).map V.str) bs)) m1 m2 ⟨_, rfl, by
      rw [hsp, pk_map]
      have em : (pk ws bs).map S_ = ((pk ws bs).map V.str).map D.v := by rw [List.map_map]; rfl
      rw [em]
      exact RpA.atoms⟩ q.1
    rw [upd_JM, ← e3]
    exact h1 _ _ ⟨_, B2, M2, rfl, c3, (same_new n2).trans s3, q.2 L⟩
end
/-! ### the own classes of exceptions -/
section
variable {K : PySem.W.Frag} {C D : Addr} {b : Bool}
theorem kit_own (hd : PySem.W.hasDictIn K D = true) (ty : PySem.W.typeIn K (.ref D) = some (.type "type")) (s : PySem.W.subIn K (.ref C) (.ref D) = some b) (self : PySem.W.subIn K (.ref C) (.ref C) = some true) : PySem.W.kitOne K (.ref C) (.ref D) = some b := by
  unfold PySem.W.kitOne
  by_cases h : (Value.ref C == Value.ref D) = true
  · rw [if_pos h]
    have e : C = D := Value.ref.inj (eq_of_beq h)
    subst e
    rw [s] at self
    exact self.symm
  · rw [if_neg h]
    obtain ⟨cd, hc, _⟩ := PySem.W.any_some hd
    show (if ((PySem.W.clsIn K D).isSome && PySem.W.typeIn K (.ref D) == some (.type "type")) = true then PySem.W.subIn K (.ref C) (.ref D) else none) = some b
    rw [hc, ty, if_pos (by rfl)]
    exact s
theorem kit_blt (s : PySem.W.subIn K (.ref C) (.type "ValueError") = some b) : PySem.W.kitOne K (.ref C) (.type "ValueError") = some b := by
  unfold PySem.W.kitOne
  rw [if_neg (fun z => by cases eq_of_beq z)]
  show (if PySem.W.kitMeta "ValueError" = true then PySem.W.subIn K (.ref C) (.type "ValueError") else none) = some b
  rw [if_pos (by decide +kernel)]
  exact s
/-- what is known of the class C of exceptions: L the base class, Cs the classes that are asked, fl the answers -/
structure ErrK (K : PySem.W.Frag) (C L : Addr) (Cs : List Addr) (fl : List Bool) : Prop where
  t : ExcT K C
  c : ExcC K C
  ki : ∀ (j : Nat) (D : Addr) (b : Bool), Cs[j]? = some D → fl[j]? = some b → PySem.W.kitOne K (.ref C) (.ref D) = some b
  kv : PySem.W.kitOne K (.ref C) (.type "ValueError") = some true
  ex : PySem.W.exmOne K (.ref C) (.ref L) = some true
theorem ki_nil : ∀ (j : Nat) (D : Addr) (b : Bool), ([] : List Addr)[j]? = some D → ([] : List Bool)[j]? = some b → PySem.W.kitOne K (.ref C) (.ref D) = some b := fun j D b h _ => by cases h
theorem ki_cons {D0 : Addr} {b0 : Bool} {Cs : List Addr} {fl : List Bool} (h : PySem.W.kitOne K (.ref C) (.ref D0) = some b0) (r : ∀ (j : Nat) (D : Addr) (b : Bool), Cs[j]? = some D → fl[j]? = some b → PySem.W.kitOne K (.ref C) (.ref D) = some b) :
    ∀ (j : Nat) (D : Addr) (b : Bool), (D0 :: Cs)[j]? = some D → (b0 :: fl)[j]? = some b → PySem.W.kitOne K (.ref C) (.ref D) = some b
  | 0, D, b, h1, h2 => by
    cases h1
    cases h2
    exact h
  | j + 1, D, b, h1, h2 => r j D b h1 h2
end
/-! ### try: .. except LaneError as e: return f(e) -/
section
variable {X : Cx} {env : Env_} {k4 : K4} {C : Addr} {n : Nat} {f : Addr} {fd : FuncData} {x y v z : Str} {q1 q2 pos rpos : Pos}
theorem ss_err (i : Nat) {a : Addr} {oe : Obj} {pn : List (Addr × Obj)} (G : FnP X.prog X.w X.K X.mg X.base n f fd [y] (spE X.K C z)) (hr : Room n X.A) (hm : X.mg x = some (.ref f)) (hk : PySem.W.keepIn X.K (.ref f) = true) (hb : Binds X.K fd [y] []) (hil : i < env.length)
    (q : k4.rt (.d (S_ z)) (env.set i (.dat (.v (.ref a))))) (hz : L2N.Zn (.ref C) none oe) (hf : ∃ vs, oe.data = .fields vs) (hN : X.N[i]? = some v := by rfl) (hv : Vis X.env.scope v := by first | exact Or.inl rfl | exact Or.inr (Or.inl rfl) | exact Or.inr (Or.inr rfl)) (hg : Gl X x := by rfl)
    (hdv : (v == ("__debug__" : Str)) = false := by decide) (hcv : (v == ("__classdict__" : Str)) = false := by decide) (hd : (x == ("__debug__" : Str)) = false := by decide) (he : starEach [.Name v q2] X.env = (false, eval (.Name v q2) X.env) :: starEach [] X.env := by rfl) (hpl : (backTo pos (starEach [] X.env)).any (·.1) = false := by rfl) :
    SS (X.suite a ((a, oe) :: pn)) [.Return (some (.Call (.Name x q1) [.Name v q2] [] pos)) rpos] (env.set i (.dat (.v (.ref a)))) (kSuite k4 i) := by
  have hot : Hot1 (X.suite a ((a, oe) :: pn)).A (a, oe) := ⟨rfl, by
    obtain ⟨vs, e⟩ := hf
    exact ⟨vs, e, hz.2.2 vs e⟩⟩
  have hrh : RoomH n (X.suite a ((a, oe) :: pn)).A := ⟨hr.dp, hr.un⟩
  exact ss_one (s_ret (ee_errName (X := X.suite a ((a, oe) :: pn)) (p := (a, oe)) i G hrh hot List.mem_cons_self hz.1 hz.2.1 hf hm hk hb (List.getElem?_set_self hil) q hN hv hg hdv hcv hd he hpl))
theorem s_outcome (i : Nat) {c : Value} {body : List Stmt} {xc : Str} {np pos' tpos : Pos} (G : FnP X.prog X.w X.K X.mg X.base n f fd [y] (spE X.K C z)) (hr : Room n X.A) (hm : X.mg x = some (.ref f)) (hk : PySem.W.keepIn X.K (.ref f) = true) (hb : Binds X.K fd [y] [])
    (hN : X.N.Nodup) (hc : Names X xc c) (ex : PySem.W.exmOne X.K (.ref C) c = some true)
    (h : ∀ (pn : List (Addr × Obj)) (xe : Value → Shared → Prop) (W : WX), L2N.Takes (X.tr pn xe) W → SX (X.tr pn xe) W body env fun cls e => cls = .ref C ∧ i < e.length ∧ ∀ a : Addr, k4.rt (.d (S_ z)) (e.set i (.dat (.v (.ref a)))))
    (hi : X.N[i]? = some v := by rfl) (hln : X.env.kindOf v = some .local := by rfl) (hs : X.stack = X.env :: X.outer := by rfl) (hf : X.env.frame = some X.env.locals := by rfl) (hv : Vis X.env.scope v := by first | exact Or.inl rfl | exact Or.inr (Or.inl rfl) | exact Or.inr (Or.inr rfl)) (hg : Gl X x := by rfl)
    (hdv : (v == ("__debug__" : Str)) = false := by decide) (hcv : (v == ("__classdict__" : Str)) = false := by decide) (hd : (x == ("__debug__" : Str)) = false := by decide) (he : starEach [.Name v q2] X.env = (false, eval (.Name v q2) X.env) :: starEach [] X.env := by rfl) (hpl : (backTo pos (starEach [] X.env)).any (·.1) = false := by rfl) :
    S1 X (.Try body [.ExceptHandler (some (.Name xc np)) (some v) [.Return (some (.Call (.Name x q1) [.Name v q2] [] pos)) rpos] pos'] [] [] tpos) env k4 :=
  s_tryX i h (fun cls e hh => by
    obtain ⟨rfl, hl, q⟩ := hh
    exact ⟨ex, fun a oe pn hz hf2 => ss_err i G hr hm hk hb hl (q a) hz hf2 hi hv hg hdv hcv hd he hpl⟩) hN hc hs hf hi hln
end
end Sy
namespace Law
open PySem PySem.Spec PyProof.Rows L2 Sy
def topS (i : Nat) : Stmt := PySem.Challenge.pw_blockedcars_k41_places_for_one_more_car.main.body.getD i (.Pass ⟨0, 0, 0, 0⟩)
abbrev s_is_integer : Stmt := topS 12
abbrev s_is_order : Stmt := topS 13
abbrev s_require_order : Stmt := topS 14
abbrev s_records_in : Stmt := topS 16
abbrev s_sorted_total : Stmt := topS 17
abbrev s_best_places : Stmt := topS 19
abbrev s__law_source : Stmt := topS 21
abbrev s__law_pick : Stmt := topS 22
abbrev s__law_error_name : Stmt := topS 23
abbrev s__law_lane : Stmt := topS 24
abbrev s__law_left : Stmt := topS 25
abbrev s__law_row : Stmt := topS 26
abbrev s__law_outcome : Stmt := topS 27
abbrev s__law_due : Stmt := topS 28
abbrev s_law : Stmt := topS 29
/-- what the top has written -/
structure Top (K : PySem.W.Frag) (mg : Str → Option Value) where
  f_is_integer : Addr
  fd_is_integer : FuncData
  F_is_integer : Fun K "is_integer" "is_integer" s_is_integer f_is_integer fd_is_integer
  g_is_integer : mg "is_integer" = some (.ref f_is_integer)
  b_is_integer : Binds K fd_is_integer ["value", "low", "high"] []
  f_is_order : Addr
  fd_is_order : FuncData
  F_is_order : Fun K "is_order" "is_order" s_is_order f_is_order fd_is_order
  g_is_order : mg "is_order" = some (.ref f_is_order)
  b_is_order : Binds K fd_is_order ["value"] []
  f_require_order : Addr
  fd_require_order : FuncData
  F_require_order : Fun K "require_order" "require_order" s_require_order f_require_order fd_require_order
  g_require_order : mg "require_order" = some (.ref f_require_order)
  b_require_order : Binds K fd_require_order ["value"] []
  f_records_in : Addr
  fd_records_in : FuncData
  F_records_in : Fun K "records_in" "records_in" s_records_in f_records_in fd_records_in
  g_records_in : mg "records_in" = some (.ref f_records_in)
  b_records_in : Binds K fd_records_in ["order"] []
  f_sorted_total : Addr
  fd_sorted_total : FuncData
  F_sorted_total : Fun K "sorted_total" "sorted_total" s_sorted_total f_sorted_total fd_sorted_total
  g_sorted_total : mg "sorted_total" = some (.ref f_sorted_total)
  b_sorted_total : Binds K fd_sorted_total ["order"] []
  f_best_places : Addr
  fd_best_places : FuncData
  F_best_places : Fun K "best_places" "best_places" s_best_places f_best_places fd_best_places
  g_best_places : mg "best_places" = some (.ref f_best_places)
  b_best_places : Binds K fd_best_places ["order", "car"] []
  f__law_source : Addr
  fd__law_source : FuncData
  F__law_source : Fun K "_law_source" "_law_source" s__law_source f__law_source fd__law_source
  g__law_source : mg "_law_source" = some (.ref f__law_source)
  b__law_source : Binds K fd__law_source ["script", "k"] []
  f__law_pick : Addr
  fd__law_pick : FuncData
  F__law_pick : Fun K "_law_pick" "_law_pick" s__law_pick f__law_pick fd__law_pick
  g__law_pick : mg "_law_pick" = some (.ref f__law_pick)
  b__law_pick : Binds K fd__law_pick ["source", "size"] []
  f__law_error_name : Addr
  fd__law_error_name : FuncData
  F__law_error_name : Fun K "_law_error_name" "_law_error_name" s__law_error_name f__law_error_name fd__law_error_name
  g__law_error_name : mg "_law_error_name" = some (.ref f__law_error_name)
  b__law_error_name : Binds K fd__law_error_name ["e"] []
  f__law_lane : Addr
  fd__law_lane : FuncData
  F__law_lane : Fun K "_law_lane" "_law_lane" s__law_lane f__law_lane fd__law_lane
  g__law_lane : mg "_law_lane" = some (.ref f__law_lane)
  b__law_lane : Binds K fd__law_lane ["source", "most"] []
  f__law_left : Addr
  fd__law_left : FuncData
  F__law_left : Fun K "_law_left" "_law_left" s__law_left f__law_left fd__law_left
  g__law_left : mg "_law_left" = some (.ref f__law_left)
  b__law_left : Binds K fd__law_left ["lane", "by"] []
  f__law_row : Addr
  fd__law_row : FuncData
  F__law_row : Fun K "_law_row" "_law_row" s__law_row f__law_row fd__law_row
  g__law_row : mg "_law_row" = some (.ref f__law_row)
  b__law_row : Binds K fd__law_row ["lane", "by"] []
  f__law_outcome : Addr
  fd__law_outcome : FuncData
  F__law_outcome : Fun K "_law_outcome" "_law_outcome" s__law_outcome f__law_outcome fd__law_outcome
  g__law_outcome : mg "_law_outcome" = some (.ref f__law_outcome)
  b__law_outcome : Binds K fd__law_outcome ["lane", "car"] []
  f__law_due : Addr
  fd__law_due : FuncData
  F__law_due : Fun K "_law_due" "_law_due" s__law_due f__law_due fd__law_due
  g__law_due : mg "_law_due" = some (.ref f__law_due)
  b__law_due : Binds K fd__law_due ["lane", "car"] []
  f_law : Addr
  fd_law : FuncData
  F_law : Fun K "law" "law" s_law f_law fd_law
  g_law : mg "law" = some (.ref f_law)
  b_law : Binds K fd_law ["script"] []
  z_len : mg "len" = none
  z_sum : mg "sum" = none
  z_min : mg "min" = none
  z_max : mg "max" = none
  z_sorted : mg "sorted" = none
  z_tuple : mg "tuple" = none
  z_list : mg "list" = none
  z_range : mg "range" = none
  z_enumerate : mg "enumerate" = none
  z_zip : mg "zip" = none
  z_int : mg "int" = none
  z_all : mg "all" = none
  z_isinstance : mg "isinstance" = none
  z_set : mg "set" = none
  z_bool : mg "bool" = none
  z_ValueError : mg "ValueError" = none
  C_InvalidOrder : Addr
  g_InvalidOrder : mg "InvalidOrder" = some (.ref C_InvalidOrder)
  C_InvalidRule : Addr
  g_InvalidRule : mg "InvalidRule" = some (.ref C_InvalidRule)
  C_InvalidNumber : Addr
  g_InvalidNumber : mg "InvalidNumber" = some (.ref C_InvalidNumber)
  C_InvalidRow : Addr
  g_InvalidRow : mg "InvalidRow" = some (.ref C_InvalidRow)
  C_InvalidCar : Addr
  g_InvalidCar : mg "InvalidCar" = some (.ref C_InvalidCar)
  C_TooMany : Addr
  g_TooMany : mg "TooMany" = some (.ref C_TooMany)
  C_LaneEmpty : Addr
  g_LaneEmpty : mg "LaneEmpty" = some (.ref C_LaneEmpty)
  C_NothingToUndo : Addr
  g_NothingToUndo : mg "NothingToUndo" = some (.ref C_NothingToUndo)
  C_LaneError : Addr
  g_LaneError : mg "LaneError" = some (.ref C_LaneError)
  e_InvalidOrder : Sy.ErrK K C_InvalidOrder C_LaneError [C_InvalidOrder, C_InvalidRule, C_InvalidNumber, C_InvalidRow, C_InvalidCar, C_TooMany, C_LaneEmpty, C_NothingToUndo, C_LaneError] [true, false, false, false, false, false, false, false, true]
  e_InvalidCar : Sy.ErrK K C_InvalidCar C_LaneError [C_InvalidOrder, C_InvalidRule, C_InvalidNumber, C_InvalidRow, C_InvalidCar, C_TooMany, C_LaneEmpty, C_NothingToUndo, C_LaneError] [false, false, false, false, true, false, false, false, true]
  e_TooMany : Sy.ErrK K C_TooMany C_LaneError [C_InvalidOrder, C_InvalidRule, C_InvalidNumber, C_InvalidRow, C_InvalidCar, C_TooMany, C_LaneEmpty, C_NothingToUndo, C_LaneError] [false, false, false, false, false, true, false, false, true]
  k_MAX_CARS : Tok
  c_MAX_CARS : mg "MAX_CARS" = some (.int 30 k_MAX_CARS)

section
variable {P : Program} {w : World} {K : PySem.W.Frag} {mg : Str → Option Value} {base : Heap} {k : Nat}
def fPick : FSs := fun mo ds q => ∃ a b c n : Int, mo = .lst [I a, I b, I c] ∧ ds = [I n] ∧ (0 < c ∧ c < 2 ^ 31) ∧ (0 < n ∧ n < 2 ^ 30) ∧ ∀ r a' b' : Int, 0 ≤ r → r < n → q (.d (I r)) (.lst [I a', I b', I c])
abbrev n__law_pick : List Str := ["source", "size", "drawn"]
theorem sc__law_pick : FnScope n__law_pick ["source", "size"] (defScope s__law_pick) := ⟨rfl, rfl, rfl, by decide +kernel, rfl, by decide +kernel, by decide +kernel⟩
theorem ok__law_pick (T : Top K mg) : FnOk P w K mg base CX0 (k + 1) T.f__law_pick T.fd__law_pick ["source", "size"] (spS K fPick) := by
  refine fn_S (N := n__law_pick) T.F__law_pick sc__law_pick (fun mo ds q h => ?_) (fun cdv A outer s H E hr a mo ds q h => ?_)
  · obtain ⟨a, b, c, n, _, rfl, _⟩ := h
    rfl
  · obtain ⟨x, b, c, n, rfl, rfl, hc, hn, hq⟩ := h
    have nd := sc__law_pick.nd
    have hu1 := hu_of hr
    have hu64 := hr.units
    refine ss_cons ?_
    refine s_if ?_
    refine eb_cmp ?_
    refine ee_ixX 0 rfl ?_
    refine ee_int ?_
    refine ⟨_, _, _, rfl, rfl, rfl, ?_⟩
    refine ee_int ?_
    refine co_gt ?_
    refine ⟨_, rfl, ?_⟩
    refine ⟨fun h => ?_, fun h => ?_⟩
    · have hx : 0 < x := of_decide_eq_true h
      refine ss_cons ?_
      refine s_set 2 ?_ nd
      refine ee_bin ?_
      refine ee_ixX 0 rfl ?_
      refine ee_int ?_
      refine ⟨_, _, _, rfl, rfl, rfl, ?_⟩
      refine ee_var 1 rfl ?_
      refine bo_mod (by first | omega | (simp only [List.length_map, List.length_append, List.length_cons, List.length_nil, List.length_reverse, List.length_dropLast, List.length_take, List.length_drop, List.length_range, List.length_replicate, Sy.rgS_len, Sy.rgD_len, Ln.downs_len, Ln.upto_len]; omega) | decide | assumption) ?_
      refine ss_cons ?_
      refine s_setIx 0 rfl ?_
      refine ee_bin ?_
      refine ee_ixX 0 rfl ?_
      refine ee_int ?_
      refine ⟨_, _, _, rfl, rfl, rfl, ?_⟩
      refine ee_var 1 rfl ?_
      refine bo_fdiv ⟨by first | omega | (simp only [List.length_map, List.length_append, List.length_cons, List.length_nil, List.length_reverse, List.length_dropLast, List.length_take, List.length_drop, List.length_range, List.length_replicate, Sy.rgS_len, Sy.rgD_len, Ln.downs_len, Ln.upto_len]; omega) | decide | assumption, by first | omega | (simp only [List.length_map, List.length_append, List.length_cons, List.length_nil, List.length_reverse, List.length_dropLast, List.length_take, List.length_drop, List.length_range, List.length_replicate, Sy.rgS_len, Sy.rgD_len, Ln.downs_len, Ln.upto_len]; omega) | decide | assumption⟩ ?_
      refine ⟨_, rfl, ?_⟩
      refine ee_int ?_
      refine ⟨_, _, _, rfl, rfl, rfl, ?_⟩
      refine ss_one ?_
      refine s_ret ?_
      refine ee_var 2 rfl ?_
      exact ⟨_, rfl, hq _ _ _ (Int.emod_nonneg _ (by omega)) (Int.emod_lt_of_pos _ hn.1)⟩
    · have hb0 : 0 ≤ b * 48271 % c := Int.emod_nonneg _ (by omega)
      have hb1 : b * 48271 % c < c := Int.emod_lt_of_pos _ hc.1
      refine ss_nil ?_
      refine ss_cons ?_
      refine s_setIx 0 rfl ?_
      refine ee_bin ?_
      refine ee_bin ?_
      refine ee_bin ?_
      refine ee_ixX 0 rfl ?_
      refine ee_int ?_
      refine ⟨_, _, _, rfl, rfl, rfl, ?_⟩
      refine ee_int ?_
      refine bo_mul (by first | exact .inr ⟨by omega, by omega⟩ | exact .inl ⟨by omega, by omega⟩) ?_
      refine ee_ixX 0 rfl ?_
      refine ee_int ?_
      refine ⟨_, _, _, rfl, rfl, rfl, ?_⟩
      refine bo_mod (by first | omega | (simp only [List.length_map, List.length_append, List.length_cons, List.length_nil, List.length_reverse, List.length_dropLast, List.length_take, List.length_drop, List.length_range, List.length_replicate, Sy.rgS_len, Sy.rgD_len, Ln.downs_len, Ln.upto_len]; omega) | decide | assumption) ?_
      refine ee_int ?_
      refine bo_add ?_
      refine ⟨_, rfl, ?_⟩
      refine ee_int ?_
      refine ⟨_, _, _, rfl, rfl, rfl, ?_⟩
      refine ss_one ?_
      refine s_ret ?_
      refine ee_bin ?_
      refine ee_bin ?_
      refine ee_bin ?_
      refine ee_bin ?_
      refine ee_ixX 0 rfl ?_
      refine ee_int ?_
      refine ⟨_, _, _, rfl, rfl, rfl, ?_⟩
      refine ee_ixX 0 rfl ?_
      refine ee_int ?_
      refine ⟨_, _, _, rfl, rfl, rfl, ?_⟩
      refine bo_mul (by first | exact .inr ⟨by omega, by omega⟩ | exact .inl ⟨by omega, by omega⟩) ?_
      refine ee_int ?_
      refine bo_mod (by first | omega | (simp only [List.length_map, List.length_append, List.length_cons, List.length_nil, List.length_reverse, List.length_dropLast, List.length_take, List.length_drop, List.length_range, List.length_replicate, Sy.rgS_len, Sy.rgD_len, Ln.downs_len, Ln.upto_len]; omega) | decide | assumption) ?_
      refine ee_int ?_
      refine bo_fdiv ⟨by first | omega | (simp only [List.length_map, List.length_append, List.length_cons, List.length_nil, List.length_reverse, List.length_dropLast, List.length_take, List.length_drop, List.length_range, List.length_replicate, Sy.rgS_len, Sy.rgD_len, Ln.downs_len, Ln.upto_len]; omega) | decide | assumption, by first | omega | (simp only [List.length_map, List.length_append, List.length_cons, List.length_nil, List.length_reverse, List.length_dropLast, List.length_take, List.length_drop, List.length_range, List.length_replicate, Sy.rgS_len, Sy.rgD_len, Ln.downs_len, Ln.upto_len]; omega) | decide | assumption⟩ ?_
      refine ee_var 1 rfl ?_
      refine bo_mod (by first | omega | (simp only [List.length_map, List.length_append, List.length_cons, List.length_nil, List.length_reverse, List.length_dropLast, List.length_take, List.length_drop, List.length_range, List.length_replicate, Sy.rgS_len, Sy.rgD_len, Ln.downs_len, Ln.upto_len]; omega) | decide | assumption) ?_
      exact ⟨_, rfl, hq _ _ _ (Int.emod_nonneg _ (by omega)) (Int.emod_lt_of_pos _ hn.1)⟩

def fSource : FSp := fun ds q => ∃ (ns : List Int) (k : Int), ds = [.lst (ns.map I), I k] ∧ ns.length ≤ 63 ∧ 0 ≤ k ∧ k < 64 ∧ ∀ a b c : Int, 0 < c → c < 2 ^ 31 → q (.m (.lst [I a, I b, I c]))
def primesL : List D := [I 2147483647, I 2147483629, I 2147483587, I 2147483579, I 2147483563, I 2147483549, I 2147483543, I 2147483497]
theorem primes_at (k : Int) : ∃ c, atI primesL (k % 8) = some (I c) ∧ 0 < c ∧ c < 2 ^ 31 := by
  have h0 : 0 ≤ k % 8 := Int.emod_nonneg _ (by decide)
  have h1 : k % 8 < 8 := Int.emod_lt_of_pos _ (by decide)
  have : k % 8 = 0 ∨ k % 8 = 1 ∨ k % 8 = 2 ∨ k % 8 = 3 ∨ k % 8 = 4 ∨ k % 8 = 5 ∨ k % 8 = 6 ∨ k % 8 = 7 := by omega
  rcases this with e | e | e | e | e | e | e | e <;> rw [e] <;> exact ⟨_, rfl, by decide, by decide⟩
abbrev n__law_source : List Str := ["script", "k", "cell", "primes", "seed"]
theorem sc__law_source : FnScope n__law_source ["script", "k"] (defScope s__law_source) := ⟨rfl, rfl, rfl, by decide +kernel, rfl, by decide +kernel, by decide +kernel⟩
theorem ok__law_source (T : Top K mg) : FnOk P w K mg base CX0 (k + 1) T.f__law_source T.fd__law_source ["script", "k"] (spF K fSource) := by
  refine fn_F (N := n__law_source) T.F__law_source sc__law_source (fun ds q h => ?_) (fun cdv A outer s H E hr ds q h => ?_)
  · obtain ⟨ns, k, rfl, _⟩ := h
    rfl
  · obtain ⟨ns, k, rfl, hl, hk0, hk1, hq⟩ := h
    have nd := sc__law_source.nd
    have hu1 := hu_of hr
    have hu64 := hr.units
    refine ss_cons ?_
    refine s_set 2 ?_ nd
    refine ee_int ?_
    refine ss_cut (fun e => ∃ cell : Int, e = [.dat (.lst (ns.map I)), .dat (I k), .dat (I cell), .un, .un]) ?_ ?_
    · refine s_if ?_
      refine eb_cmp ?_
      refine ee_var 1 rfl ?_
      refine ee_lenL T.z_len ?_
      refine el_dat ?_
      refine ee_var 0 rfl ?_
      refine ⟨_, rfl, ?_⟩
      refine co_lt ?_
      refine ⟨_, rfl, ?_⟩
      refine ⟨fun h => ?_, fun h => ?_⟩
      · have hx : k < ((ns.map I).length : Int) := of_decide_eq_true h
        rw [List.length_map] at hx
        refine ss_one ?_
        refine s_set 2 ?_ nd
        refine ee_ix ?_
        refine ee_var 0 rfl ?_
        refine ee_var 1 rfl ?_
        refine ⟨_, _, _, .inr rfl, rfl, atI_ints hk0 hx, ?_⟩
        exact ⟨_, rfl⟩
      · refine ss_nil ?_
        exact ⟨_, rfl⟩
    · rintro env' ⟨cell, rfl⟩
      have h1 : 0 ≤ cell % 2147483489 := Int.emod_nonneg _ (by decide)
      have h2 : cell % 2147483489 < 2147483489 := Int.emod_lt_of_pos _ (by decide)
      have h3 : 0 ≤ (cell % 2147483489 + 1) * (48271 + 2 * k) % 2147483489 := Int.emod_nonneg _ (by decide)
      have h4 : (cell % 2147483489 + 1) * (48271 + 2 * k) % 2147483489 < 2147483489 := Int.emod_lt_of_pos _ (by decide)
      refine ss_cons ?_
      refine s_setM 3 ?_ nd
      refine em_lst ?_
      refine ed_cons ?_
      refine ee_int ?_
      refine ed_cons ?_
      refine ee_int ?_
      refine ed_cons ?_
      refine ee_int ?_
      refine ed_cons ?_
      refine ee_int ?_
      refine ed_cons ?_
      refine ee_int ?_
      refine ed_cons ?_
      refine ee_int ?_
      refine ed_cons ?_
      refine ee_int ?_
      refine ed_cons ?_
      refine ee_int ?_
      refine ed_nil ?_
      refine ⟨Nat.le_of_ble_eq_true rfl, ?_⟩
      refine ⟨Nat.le_of_ble_eq_true rfl, fun p_primes => ?_⟩
      refine ss_cons ?_
      refine s_set 4 ?_ nd
      refine ee_bin ?_
      refine ee_bin ?_
      refine ee_bin ?_
      refine ee_bin ?_
      refine ee_var 2 rfl ?_
      refine ee_int ?_
      refine bo_mod (by first | omega | (simp only [List.length_map, List.length_append, List.length_cons, List.length_nil, List.length_reverse, List.length_dropLast, List.length_take, List.length_drop, List.length_range, List.length_replicate, Sy.rgS_len, Sy.rgD_len, Ln.downs_len, Ln.upto_len]; omega) | decide | assumption) ?_
      refine ee_int ?_
      refine bo_add ?_
      refine ee_bin ?_
      refine ee_int ?_
      refine ee_bin ?_
      refine ee_int ?_
      refine ee_var 1 rfl ?_
      refine bo_mul (by first | exact .inr ⟨by omega, by omega⟩ | exact .inl ⟨by omega, by omega⟩) ?_
      refine bo_add ?_
      refine bo_mul (by first | exact .inr ⟨by omega, by omega⟩ | exact .inl ⟨by omega, by omega⟩) ?_
      refine ee_int ?_
      refine bo_mod (by first | omega | (simp only [List.length_map, List.length_append, List.length_cons, List.length_nil, List.length_reverse, List.length_dropLast, List.length_take, List.length_drop, List.length_range, List.length_replicate, Sy.rgS_len, Sy.rgD_len, Ln.downs_len, Ln.upto_len]; omega) | decide | assumption) ?_
      refine ss_cons ?_
      refine s_set 4 ?_ nd
      refine ee_bin ?_
      refine ee_bin ?_
      refine ee_bin ?_
      refine ee_bin ?_
      refine ee_var 4 rfl ?_
      refine ee_var 4 rfl ?_
      refine bo_mul (by first | exact .inr ⟨by omega, by omega⟩ | exact .inl ⟨by omega, by omega⟩) ?_
      refine ee_int ?_
      refine bo_mod (by first | omega | (simp only [List.length_map, List.length_append, List.length_cons, List.length_nil, List.length_reverse, List.length_dropLast, List.length_take, List.length_drop, List.length_range, List.length_replicate, Sy.rgS_len, Sy.rgD_len, Ln.downs_len, Ln.upto_len]; omega) | decide | assumption) ?_
      refine ee_var 1 rfl ?_
      refine bo_add ?_
      refine ee_int ?_
      refine bo_add ?_
      refine ss_cons ?_
      refine s_if ?_
      refine eb_cmp ?_
      refine ee_var 2 rfl ?_
      refine ee_bin ?_
      refine ee_int ?_
      refine ee_int ?_
      refine bo_pow ⟨by decide, by decide, by decide⟩ ?_
      refine co_ge ?_
      refine ⟨_, rfl, ?_⟩
      obtain ⟨c, hc, hc0, hc1⟩ := primes_at k
      refine ⟨fun h => ?_, fun h => ?_⟩
      · refine ss_one ?_
        refine s_retM ?_
        refine em_lst ?_
        refine ed_cons ?_
        refine ee_var 2 rfl ?_
        refine ed_cons ?_
        refine ee_var 4 rfl ?_
        refine ed_cons ?_
        refine ee_ixX 3 rfl ?_
        refine ee_bin ?_
        refine ee_var 1 rfl ?_
        refine ee_int ?_
        refine bo_mod (by first | omega | (simp only [List.length_map, List.length_append, List.length_cons, List.length_nil, List.length_reverse, List.length_dropLast, List.length_take, List.length_drop, List.length_range, List.length_replicate, Sy.rgS_len, Sy.rgD_len, Ln.downs_len, Ln.upto_len]; omega) | decide | assumption) ?_
        refine ⟨_, _, _, rfl, rfl, hc, ?_⟩
        refine ed_nil ?_
        refine ⟨Nat.le_of_ble_eq_true rfl, ?_⟩
        exact hq _ _ _ hc0 hc1
      · refine ss_nil ?_
        refine ss_one ?_
        refine s_retM ?_
        refine em_lst ?_
        refine ed_cons ?_
        refine ee_int ?_
        refine ed_cons ?_
        refine ee_var 4 rfl ?_
        refine ed_cons ?_
        refine ee_ixX 3 rfl ?_
        refine ee_bin ?_
        refine ee_var 1 rfl ?_
        refine ee_int ?_
        refine bo_mod (by first | omega | (simp only [List.length_map, List.length_append, List.length_cons, List.length_nil, List.length_reverse, List.length_dropLast, List.length_take, List.length_drop, List.length_range, List.length_replicate, Sy.rgS_len, Sy.rgD_len, Ln.downs_len, Ln.upto_len]; omega) | decide | assumption) ?_
        refine ⟨_, _, _, rfl, rfl, hc, ?_⟩
        refine ed_nil ?_
        refine ⟨Nat.le_of_ble_eq_true rfl, ?_⟩
        exact hq _ _ _ hc0 hc1

def fLane : FSs := fun mo ds q => ∃ a b c m : Int, mo = .lst [I a, I b, I c] ∧ ds = [I m] ∧ (0 < c ∧ c < 2 ^ 31) ∧ (0 < m ∧ m ≤ 1000) ∧ ∀ (cs : List Int) (n : Nat) (a' b' : Int), 1 ≤ n → (n : Int) ≤ m → cs.Perm (Ln.upto n) → q (.d (.tup (cs.map I))) (.lst [I a', I b', I c])
theorem use_pick {a b c n : Int} {q : Res → MO → Prop} (hc : 0 < c ∧ c < 2 ^ 31) (h0 : 0 < n) (h1 : n < 2 ^ 30) (hq : ∀ r a' b' : Int, 0 ≤ r → r < n → q (.d (I r)) (.lst [I a', I b', I c])) : fPick (.lst [I a, I b, I c]) [I n] q := ⟨a, b, c, n, rfl, rfl, hc, ⟨h0, h1⟩, hq⟩
abbrev n__law_lane : List Str := ["source", "most", "size", "way", "found", "car", "spot"]
theorem sc__law_lane : FnScope n__law_lane ["source", "most"] (defScope s__law_lane) := ⟨rfl, rfl, rfl, by decide +kernel, rfl, by decide +kernel, by decide +kernel⟩
theorem ok__law_lane (T : Top K mg) : FnOk P w K mg base CX0 (k + 2) T.f__law_lane T.fd__law_lane ["source", "most"] (spS K fLane) := by
  refine fn_S (N := n__law_lane) T.F__law_lane sc__law_lane (fun mo ds q h => ?_) (fun cdv A outer s H E hr a mo ds q h => ?_)
  · obtain ⟨a, b, c, n, _, rfl, _⟩ := h
    rfl
  · obtain ⟨x, b, c, m, rfl, rfl, hc, ⟨hm0, hm1⟩, hq⟩ := h
    have nd := sc__law_lane.nd
    have hu1 := hu_of hr
    have hu64 := hr.units
    refine ss_cons ?_
    refine s_par3 2 3 4 ?_ nd
    refine eu_d ?_
    refine ee_bin ?_
    refine ee_int ?_
    refine ee_callS 0 (ok__law_pick T) hr T.g__law_pick T.F__law_pick.kp T.b__law_pick pass0 rfl ?_
    refine ed_cons ?_
    refine ee_var 1 rfl ?_
    refine ed_nil ?_
    refine ⟨_, rfl, ?_⟩
    refine use_pick hc (by omega) (by omega) fun r1 x1 y1 hr0 hr1 => ⟨_, rfl, ?_⟩
    refine bo_add ?_
    refine eu_d ?_
    refine ee_callS 0 (ok__law_pick T) hr T.g__law_pick T.F__law_pick.kp T.b__law_pick pass0 rfl ?_
    refine ed_cons ?_
    refine ee_int ?_
    refine ed_nil ?_
    refine ⟨_, rfl, ?_⟩
    refine use_pick hc (by omega) (by omega) fun r2 x2 y2 hs0 hs1 => ⟨_, rfl, ?_⟩
    refine eu_m ?_
    refine em_lst ?_
    refine ed_nil ?_
    refine ⟨Nat.le_of_ble_eq_true rfl, ?_⟩
    refine eu_nil ?_
    refine ⟨Nat.le_of_ble_eq_true rfl, fun p_found => ?_⟩
    refine ss_cons ?_
    refine s_for ?_
    refine ei_rg2 T.z_range ?_
    refine ee_int ?_
    refine ee_bin ?_
    refine ee_var 2 rfl ?_
    refine ee_int ?_
    refine bo_add ?_
    refine ⟨_, _, rfl, rfl, ⟨by first | omega | (simp only [List.length_map, List.length_append, List.length_cons, List.length_nil, List.length_reverse, List.length_dropLast, List.length_take, List.length_drop, List.length_range, List.length_replicate, Sy.rgS_len, Sy.rgD_len, Ln.downs_len, Ln.upto_len]; omega) | decide | assumption, by first | omega | (simp only [List.length_map, List.length_append, List.length_cons, List.length_nil, List.length_reverse, List.length_dropLast, List.length_take, List.length_drop, List.length_range, List.length_replicate, Sy.rgS_len, Sy.rgD_len, Ln.downs_len, Ln.upto_len]; omega) | decide | assumption, by first | omega | (simp only [List.length_map, List.length_append, List.length_cons, List.length_nil, List.length_reverse, List.length_dropLast, List.length_take, List.length_drop, List.length_range, List.length_replicate, Sy.rgS_len, Sy.rgD_len, Ln.downs_len, Ln.upto_len]; omega) | decide | assumption, by first | omega | (simp only [List.length_map, List.length_append, List.length_cons, List.length_nil, List.length_reverse, List.length_dropLast, List.length_take, List.length_drop, List.length_range, List.length_replicate, Sy.rgS_len, Sy.rgD_len, Ln.downs_len, Ln.upto_len]; omega) | decide | assumption⟩, ?_⟩
    refine ⟨fun i e => ∃ (x y : Int) (cs : List Int) (d5 d6 : Desc), e = [.mu a (.lst [I x, I y, I c]), .dat (I m), .dat (I (1 + r1)), .dat (I r2), .mu p_found (.lst (cs.map I)), d5, d6] ∧ i ≤ (1 + r1).toNat ∧ cs.Perm (Ln.upto i), ⟨_, _, [], _, _, rfl, Nat.zero_le _, List.Perm.refl _⟩, fun _ _ _ => trivial, fun i d e hd hI => ?_, fun e hI => ?_⟩
    · obtain ⟨x, y, cs, d5, d6, rfl, hi, hcs⟩ := hI
      obtain ⟨hi2, rfl⟩ := rgD_at hd
      have hlen : cs.length = i := by rw [hcs.length_eq, Ln.upto_len]
      refine eg_name 5 ?_ nd
      refine ss_cons ?_
      refine s_set 6 ?_ nd
      refine ee_callS 0 (ok__law_pick T) hr T.g__law_pick T.F__law_pick.kp T.b__law_pick pass0 rfl ?_
      refine ed_cons ?_
      refine ee_var 5 rfl ?_
      refine ed_nil ?_
      refine ⟨_, rfl, ?_⟩
      refine use_pick hc (by omega) (by omega) fun r3 x3 y3 ht0 ht1 => ⟨_, rfl, ?_⟩
      refine ss_cut (fun e => ∃ (x y sp : Int), 0 ≤ sp ∧ sp < 2 ^ 40 ∧ e = [.mu a (.lst [I x, I y, I c]), .dat (I m), .dat (I (1 + r1)), .dat (I r2), .mu p_found (.lst (cs.map I)), .dat (I (1 + (i : Nat))), .dat (I sp)]) ?_ ?_
      · refine s_if ?_
        refine eb_cmp ?_
        refine ee_var 3 rfl ?_
        refine ee_int ?_
        refine co_eq ?_
        refine ⟨_, rfl, ?_⟩
        refine ⟨fun h => ?_, fun h => ?_⟩
        · refine ss_one ?_
          refine s_set 6 ?_ nd
          refine ee_min2 T.z_min ?_
          refine ed_cons ?_
          refine ee_var 6 rfl ?_
          refine ed_cons ?_
          refine ee_callS 0 (ok__law_pick T) hr T.g__law_pick T.F__law_pick.kp T.b__law_pick pass0 rfl ?_
          refine ed_cons ?_
          refine ee_int ?_
          refine ed_nil ?_
          refine ⟨_, rfl, ?_⟩
          refine use_pick hc (by omega) (by omega) fun r4 x4 y4 hu0 hu1 => ⟨_, rfl, ?_⟩
          refine ed_nil ?_
          refine ⟨_, _, rfl, ?_⟩
          exact ⟨_, _, _, by split <;> omega, by split <;> omega, rfl⟩
        · refine ss_nil ?_
          exact ⟨_, _, _, ht0, by omega, rfl⟩
      · rintro env' ⟨x5, y5, sp, hsp0, hsp1, rfl⟩
        refine ss_cut (fun e => ∃ (x y sp : Int), 0 ≤ sp ∧ sp < 2 ^ 40 ∧ e = [.mu a (.lst [I x, I y, I c]), .dat (I m), .dat (I (1 + r1)), .dat (I r2), .mu p_found (.lst (cs.map I)), .dat (I (1 + (i : Nat))), .dat (I sp)]) ?_ ?_
        · refine s_if ?_
          refine eb_cmp ?_
          refine ee_var 3 rfl ?_
          refine ee_int ?_
          refine co_eq ?_
          refine ⟨_, rfl, ?_⟩
          refine ⟨fun h => ?_, fun h => ?_⟩
          · refine ss_one ?_
            refine s_set 6 ?_ nd
            refine ee_max2 T.z_max ?_
            refine ed_cons ?_
            refine ee_int ?_
            refine ed_cons ?_
            refine ee_bin ?_
            refine ee_lenL T.z_len ?_
            refine el_slot 4 rfl ?_
            refine ee_callS 0 (ok__law_pick T) hr T.g__law_pick T.F__law_pick.kp T.b__law_pick pass0 rfl ?_
            refine ed_cons ?_
            refine ee_int ?_
            refine ed_nil ?_
            refine ⟨_, rfl, ?_⟩
            refine use_pick hc (by omega) (by omega) fun r4 x4 y4 hu0 hu1 => ⟨_, rfl, ?_⟩
            refine bo_sub ?_
            refine ed_nil ?_
            refine ⟨_, _, rfl, ?_⟩
            rw [List.length_map, hlen]
            exact ⟨_, _, _, by split <;> omega, by split <;> omega, rfl⟩
          · refine ss_nil ?_
            exact ⟨_, _, _, hsp0, hsp1, rfl⟩
        · rintro env' ⟨x6, y6, sp, hsp0, hsp1, rfl⟩
          have hl2 : (cs.map I).length ≤ 1000000 := by rw [List.length_map]; omega
          refine ss_one ?_
          refine s_expr ?_
          refine ee_insert 4 rfl ?_
          refine ed_cons ?_
          refine ee_var 6 rfl ?_
          refine ed_cons ?_
          refine ee_var 5 rfl ?_
          refine ed_nil ?_
          refine ⟨_, _, _, rfl, rfl, by first | omega | (simp only [List.length_map, List.length_append, List.length_cons, List.length_nil, List.length_reverse, List.length_dropLast, List.length_take, List.length_drop, List.length_range, List.length_replicate, Sy.rgS_len, Sy.rgD_len, Ln.downs_len, Ln.upto_len]; omega) | decide | assumption, by first | omega | (simp only [List.length_map, List.length_append, List.length_cons, List.length_nil, List.length_reverse, List.length_dropLast, List.length_take, List.length_drop, List.length_range, List.length_replicate, Sy.rgS_len, Sy.rgD_len, Ln.downs_len, Ln.upto_len]; omega) | decide | assumption, by first | omega | (simp only [List.length_map, List.length_append, List.length_cons, List.length_nil, List.length_reverse, List.length_dropLast, List.length_take, List.length_drop, List.length_range, List.length_replicate, Sy.rgS_len, Sy.rgD_len, Ln.downs_len, Ln.upto_len]; omega) | decide | assumption, ?_⟩
          have e : List.take sp.toNat (cs.map I) ++ [I (1 + (i : Int))] ++ List.drop sp.toNat (cs.map I) = (cs.take sp.toNat ++ [((i : Int) + 1)] ++ cs.drop sp.toNat).map I := by
            rw [List.map_append, List.map_append, List.map_take, List.map_drop, Int.add_comm 1]
            rfl
          rw [e]
          exact ⟨_, _, _, _, _, rfl, by omega, Ln.ins_perm _ hcs⟩
    · obtain ⟨x, y, cs, d5, d6, rfl, hi, hcs⟩ := hI
      refine ss_one ?_
      refine s_ret ?_
      refine ee_tupleL T.z_tuple ?_
      refine el_slot 4 rfl ?_
      refine ⟨_, rfl, hq cs (1 + r1).toNat _ _ (by omega) (by omega) ?_⟩
      rw [rgD_len] at hcs
      have e : (1 + r1 + 1 - 1).toNat = (1 + r1).toNat := by omega
      rw [e] at hcs
      exact hcs

def intIn : D → Int → Int → Bool
  | .v (.int i), lo, hi => decide (lo ≤ i) && decide (i ≤ hi)
  | _, _, _ => false
theorem intIn_not {d : D} {lo hi : Int} (h : isInt d = false) : intIn d lo hi = false := by
  match d, h with
  | .v (.bl _), _ => rfl
  | .v (.str _), _ => rfl
  | .v .non, _ => rfl
  | .v (.byt _), _ => rfl
  | .v (.flt _), _ => rfl
  | .v (.ref _), _ => rfl
  | .v (.ty _), _ => rfl
  | .tup _, _ => rfl
  | .lst _, _ => rfl
  | .dct _, _ => rfl
  | .wt _, _ => rfl
theorem int_of {d : D} (h : isInt d = true) (h2 : isBool d = false) : ∃ i, d = I i := by
  match d, h, h2 with
  | .v (.int i), _, _ => exact ⟨i, rfl⟩
theorem bl_of {d : D} (h : isBool d = true) : ∃ i, d = Bl i := by
  match d, h with
  | .v (.bl i), _ => exact ⟨i, rfl⟩
def fIsInt : FSp := fun ds q => ∃ (d : D) (lo hi : Int), ds = [d, I lo, I hi] ∧ okD d = true ∧ q (.d (Bl (intIn d lo hi)))
abbrev n_is_integer : List Str := ["value", "low", "high"]
theorem sc_is_integer : FnScope n_is_integer ["value", "low", "high"] (defScope s_is_integer) := ⟨rfl, rfl, rfl, by decide +kernel, rfl, by decide +kernel, by decide +kernel⟩
theorem ok_is_integer (T : Top K mg) : FnOk P w K mg base CX0 (k + 1) T.f_is_integer T.fd_is_integer ["value", "low", "high"] (spF K fIsInt) := by
  refine fn_F (N := n_is_integer) T.F_is_integer sc_is_integer (fun ds q h => ?_) (fun cdv A outer s H E hr ds q h => ?_)
  · obtain ⟨d, lo, hi, rfl, _⟩ := h
    rfl
  · obtain ⟨d, lo, hi, rfl, hok, hq⟩ := h
    have nd := sc_is_integer.nd
    have hu1 := hu_of hr
    have hu64 := hr.units
    refine ss_one ?_
    refine s_ret ?_
    refine ee_and ?_
    refine ee_isiInt T.z_isinstance T.z_int ?_
    refine ee_var 0 rfl ?_
    refine ⟨hok, ?_⟩
    refine ⟨_, rfl, ?_⟩
    refine ⟨fun h1 => ?_, fun h1 => ?_⟩
    · refine ee_and ?_
      refine ee_not ?_
      refine ee_isiBool T.z_isinstance T.z_bool ?_
      refine ee_var 0 rfl ?_
      refine ⟨hok, ?_⟩
      refine ⟨_, rfl, ?_⟩
      refine ⟨_, rfl, ?_⟩
      refine ⟨fun h2 => ?_, fun h2 => ?_⟩
      · obtain ⟨i, rfl⟩ := int_of h1 (by simpa using h2)
        refine ee_bool1 ?_
        refine ee_chain ?_
        refine ee_var 1 rfl ?_
        refine ee_var 0 rfl ?_
        refine co_le ?_
        refine ⟨_, rfl, ?_⟩
        refine ⟨fun h3 => ?_, fun h3 => ?_⟩
        · refine ee_var 2 rfl ?_
          refine co_le ?_
          have e : intIn (I i) lo hi = decide (i ≤ hi) := by
            show (decide (lo ≤ i) && decide (i ≤ hi)) = _
            rw [h3, Bool.true_and]
          rw [e] at hq
          exact hq
        · skip
          have e : intIn (I i) lo hi = false := by
            show (decide (lo ≤ i) && decide (i ≤ hi)) = _
            rw [h3, Bool.false_and]
          rw [e] at hq
          exact hq
      · obtain ⟨i, rfl⟩ := bl_of (d := d) (by simpa using h2)
        exact hq
    · skip
      rw [intIn_not h1] at hq
      exact hq

/-- what is_order says of a value -/
def IsOrdD (d : D) : Prop := ∃ ns : List Int, d = .tup (ns.map I) ∧ Ln.Ord ns
def okV (d : D) : Prop := okD d = true ∧ ∀ xs, d = .tup xs → ∀ x, x ∈ xs → okD x = true
theorem tup_of {d : D} (h : isTup d = true) : ∃ ds, d = .tup ds := by
  match d, h with
  | .tup ds, _ => exact ⟨ds, rfl⟩
theorem not_tup {ds : List D} (h : isTup (.tup ds) = false) : False := by cases h
theorem intIn_true {d : D} {lo hi : Int} (h : intIn d lo hi = true) : ∃ i, d = I i ∧ lo ≤ i ∧ i ≤ hi := by
  match d, h with
  | .v (.int i), h =>
    have h : (decide (lo ≤ i) && decide (i ≤ hi)) = true := h
    rw [Bool.and_eq_true] at h
    exact ⟨i, rfl, of_decide_eq_true h.1, of_decide_eq_true h.2⟩
theorem intIn_I {i lo hi : Int} (h1 : lo ≤ i) (h2 : i ≤ hi) : intIn (I i) lo hi = true := by
  show (decide (lo ≤ i) && decide (i ≤ hi)) = true
  rw [decide_eq_true h1, decide_eq_true h2]
  rfl
theorem all_ints {lo hi : Int} : ∀ {ds : List D}, (∀ x, x ∈ ds → intIn x lo hi = true) → ∃ ns : List Int, ds = ns.map I
  | [], _ => ⟨[], rfl⟩
  | d :: ds, h => by
    obtain ⟨i, rfl, _⟩ := intIn_true (h d List.mem_cons_self)
    obtain ⟨ns, e⟩ := all_ints (ds := ds) fun x hx => h x (List.mem_cons_of_mem _ hx)
    exact ⟨i :: ns, by rw [e]; rfl⟩
theorem rgD_upto (n : Nat) : rgD 1 ((n : Int) + 1) = (Ln.upto n).map I := by
  unfold rgD Ln.upto
  rw [List.map_map]
  have e : ((n : Int) + 1 - 1).toNat = n := by omega
  rw [e]
  refine List.map_congr_left fun i _ => ?_
  show I (1 + (i : Int)) = I ((i : Int) + 1)
  rw [Int.add_comm]
theorem lstI_inj {xs ys : List Int} (h : D.lst (xs.map I) = D.lst (ys.map I)) : xs = ys := by
  have h := D.lst.inj h
  refine (List.map_inj_right (f := I) fun a b e => ?_).mp h
  cases e
  rfl
theorem tupI_inj {xs ys : List Int} (h : D.tup (xs.map I) = D.tup (ys.map I)) : xs = ys := by
  have h := D.tup.inj h
  refine (List.map_inj_right (f := I) fun a b e => ?_).mp h
  cases e
  rfl
theorem dep_ints (ns : List Int) : (D.lst (ns.map I)).dep ≤ 64 := by
  show depA (ns.map I) + 1 ≤ 64
  rw [depA_ints]
  decide
theorem dep_intsT (ns : List Int) : (D.tup (ns.map I)).dep ≤ 64 := dep_ints ns
theorem okV_ints (ns : List Int) : okV (.tup (ns.map I)) := ⟨rfl, fun xs e x hx => by
  have e := D.tup.inj e
  rw [← e, List.mem_map] at hx
  obtain ⟨i, _, rfl⟩ := hx
  rfl⟩

def fIsOrder : FSp := fun ds q => ∃ d : D, ds = [d] ∧ okV d ∧ ∀ b : Bool, (b = true ↔ IsOrdD d) → q (.d (Bl b))
abbrev n_is_order : List Str := ["value", "car"]
theorem sc_is_order : FnScope n_is_order ["value"] (defScope s_is_order) := ⟨rfl, rfl, rfl, by decide +kernel, rfl, by decide +kernel, by decide +kernel⟩
theorem ok_is_order (T : Top K mg) : FnOk P w K mg base CX0 (k + 2) T.f_is_order T.fd_is_order ["value"] (spF K fIsOrder) := by
  refine fn_F (N := n_is_order) T.F_is_order sc_is_order (fun ds q h => ?_) (fun cdv A outer s H E hr ds q h => ?_)
  · obtain ⟨d, rfl, _⟩ := h
    rfl
  · obtain ⟨d, rfl, ⟨hok, hit⟩, hq⟩ := h
    have nd := sc_is_order.nd
    have hu1 := hu_of hr
    have hu64 := hr.units
    refine ss_cons ?_
    refine s_if ?_
    refine eb_w ?_
    refine ew_or ?_
    refine eb_not ?_
    refine eb_val ?_
    refine ee_isiTup T.z_isinstance T.z_tuple ?_
    refine ee_var 0 rfl ?_
    refine ⟨hok, ?_⟩
    refine ⟨_, rfl, ?_⟩
    refine ⟨fun h1 => ?_, fun h1 => ?_⟩
    · have hn : ¬ IsOrdD d := by
        rintro ⟨ns, rfl, _⟩
        cases h1
      refine ⟨fun _ => ?_, fun h => nomatch h⟩
      refine ss_one ?_
      refine s_ret ?_
      refine ee_bl ?_
      exact hq false ⟨fun h => (nomatch h), fun h => (hn h).elim⟩
    · obtain ⟨ds, rfl⟩ := tup_of (d := d) (by simpa using h1)
      have hit := hit ds rfl
      refine ew_or1 ?_
      refine eb_not ?_
      refine eb_chain ?_
      refine ee_int ?_
      refine ee_lenT T.z_len ?_
      refine ee_var 0 rfl ?_
      refine ⟨_, rfl, ?_⟩
      refine co_le ?_
      refine ⟨_, rfl, ?_⟩
      refine ⟨fun h2 => ?_, fun h2 => ?_⟩
      · refine ee_glob (v := .int 30) T.c_MAX_CARS ⟨_, rfl⟩ ?_
        refine co_le ?_
        refine ⟨_, rfl, ?_⟩
        refine ⟨fun h3 => ?_, fun h3 => ?_⟩
        · have hx : ¬ (ds.length : Int) ≤ 30 := by simpa using h3
          refine ss_one ?_
          refine s_ret ?_
          refine ee_bl ?_
          exact hq false ⟨fun h => (nomatch h), fun ⟨ns, e, _, h2, _⟩ => by
            have e := congrArg List.length (D.tup.inj e)
            rw [List.length_map] at e
            omega⟩
        · have hx : (ds.length : Int) ≤ 30 := by simpa using h3
          refine ss_nil ?_
          refine ss_cons ?_
          refine s_if ?_
          refine eb_not ?_
          refine eb_val ?_
          refine ee_all T.z_all ?_
          refine el_new ?_
          refine em_lcA (own := [("car", 1)]) (blkOk_by (show blkC n_is_order (defScope s_is_order) _ _ = true by decide +kernel)) nd ?_
          refine ei_tup ?_
          refine ee_var 0 rfl ?_
          refine ⟨_, rfl, ?_⟩
          refine ⟨noMu_of rfl, trivial, _, ds, id, fun d => some (Bl (intIn d 1 ds.length)), (List.map_id _).symm, by omega, fun x hx => ?_, ?_⟩
          · refine egb_name 1 (by decide) (by intro _ _ h; cases h) ?_ fun _ _ _ _ _ => pg_name (i := 1) nd rfl (by first | exact .inl rfl | exact .inr rfl)
            refine ebb_nil ?_
            refine ⟨fun _ => ?_, fun h => nomatch h⟩
            refine eeb fun s0 H0 C cl fp => ?_
            refine ee_call (ok_is_integer T) hr T.g_is_integer T.F_is_integer.kp T.b_is_integer pass0 ?_
            refine ed_cons ?_
            refine ee_var 1 rfl ?_
            refine ed_cons ?_
            refine ee_int ?_
            refine ed_cons ?_
            refine ee_lenT T.z_len ?_
            refine ee_var 0 rfl ?_
            refine ⟨_, rfl, ?_⟩
            refine ed_nil ?_
            refine ⟨x, 1, _, rfl, hit x hx, _, rfl, ?_⟩
            exact ⟨rfl, noMu_of rfl, rfl⟩
          · refine ⟨_, rfl, ?_⟩
            refine ⟨ds.map fun d => intIn d 1 ds.length, by rw [fm_some, List.map_map]; rfl, ?_⟩
            refine ⟨_, rfl, ?_⟩
            refine ⟨fun h4 => ?_, fun h4 => ?_⟩
            · refine ss_one ?_
              refine s_ret ?_
              refine ee_bl ?_
              refine hq false ⟨fun h => (nomatch h), fun ⟨ns, e, h5, h6, h7⟩ => ?_⟩
              have e := D.tup.inj e
              subst e
              exfalso
              have h4 : ((List.map (fun d => intIn d 1 ((ns.map I).length)) (ns.map I)).all id) = false := by simpa using h4
              rw [List.all_eq_false] at h4
              obtain ⟨b, hb, hf⟩ := h4
              rw [List.map_map, List.mem_map] at hb
              obtain ⟨i, hi, rfl⟩ := hb
              have hm := Ln.mem_upto.mp (h7.mem_iff.mp hi)
              refine hf (intIn_I hm.1 ?_)
              rw [List.length_map]
              exact hm.2
            · have h5 : ∀ x, x ∈ ds → intIn x 1 ds.length = true := by
                have h4 : ((List.map (fun d => intIn d 1 ds.length) ds).all id) = true := by simpa using h4
                rw [List.all_eq_true] at h4
                exact fun x hx => h4 _ (List.mem_map.mpr ⟨x, hx, rfl⟩)
              obtain ⟨ns, rfl⟩ := all_ints h5
              rw [List.length_map] at hx h2
              have h2 := of_decide_eq_true h2
              refine ss_nil ?_
              refine ss_one ?_
              refine s_ret ?_
              refine ee_cmp ?_
              refine ee_new ?_
              refine em_sortedT T.z_sorted ?_
              refine ee_var 0 rfl ?_
              refine ⟨ns, rfl, by omega, fun ns' hp hs => ?_⟩
              refine ee_new ?_
              refine em_listRg2 T.z_list T.z_range ?_
              refine ee_int ?_
              refine ee_bin ?_
              refine ee_lenT T.z_len ?_
              refine ee_var 0 rfl ?_
              refine ⟨_, rfl, ?_⟩
              refine ee_int ?_
              refine bo_add ?_
              refine ⟨_, _, rfl, rfl, by first | exact ⟨by omega, by omega, by omega, by omega, by omega⟩ | (simp only [List.length_map, List.length_append, List.length_cons, List.length_nil, List.length_reverse, List.length_dropLast, List.length_take, List.length_drop, List.length_range, List.length_replicate, Sy.rgS_len, Sy.rgD_len, Ln.downs_len, Ln.upto_len]; exact ⟨by omega, by omega, by omega, by omega, by omega⟩) | assumption, ?_⟩
              rw [List.length_map, rgD_upto]
              refine co_eqD hu64 (eqkA_ints _) (eqkA_ints _) (dep_ints _) (dep_ints _) fun b hb => ?_
              refine hq b ?_
              rw [hb]
              constructor
              · intro e
                refine ⟨ns, rfl, by omega, by omega, ?_⟩
                rw [← lstI_inj e]
                exact hp.symm
              · rintro ⟨ns2, e, _, _, h7⟩
                rw [tupI_inj e] at hp ⊢
                rw [Ln.pw_unique (hp.trans h7) hs (Ln.upto_pw _)]
      · refine ⟨fun _ => ?_, fun h => nomatch h⟩
        have hx : ¬ 1 ≤ (ds.length : Int) := of_decide_eq_false h2
        refine ss_one ?_
        refine s_ret ?_
        refine ee_bl ?_
        exact hq false ⟨fun h => (nomatch h), fun ⟨ns, e, h1, h2, _⟩ => by
          have e := congrArg List.length (D.tup.inj e)
          rw [List.length_map] at e
          omega⟩

def fReqOrder : FSp := fun ds q => ∃ ns : List Int, ds = [.tup (ns.map I)] ∧ Ln.Ord ns ∧ q (.d Nn)
abbrev n_require_order : List Str := ["value"]
theorem sc_require_order : FnScope n_require_order ["value"] (defScope s_require_order) := ⟨rfl, rfl, rfl, by decide +kernel, rfl, by decide +kernel, by decide +kernel⟩
theorem ok_require_order (T : Top K mg) : FnOk P w K mg base CX0 (k + 3) T.f_require_order T.fd_require_order ["value"] (spF K fReqOrder) := by
  refine fn_F (N := n_require_order) T.F_require_order sc_require_order (fun ds q h => ?_) (fun cdv A outer s H E hr ds q h => ?_)
  · obtain ⟨d, rfl, _⟩ := h
    rfl
  · obtain ⟨ns, rfl, ho, hq⟩ := h
    have nd := sc_require_order.nd
    have hu1 := hu_of hr
    have hu64 := hr.units
    refine ss_one ?_
    refine s_if ?_
    refine eb_not ?_
    refine eb_val ?_
    refine ee_call (ok_is_order T) hr T.g_is_order T.F_is_order.kp T.b_is_order pass0 ?_
    refine ed_cons ?_
    refine ee_var 0 rfl ?_
    refine ed_nil ?_
    refine ⟨_, rfl, okV_ints ns, fun b hb => ⟨_, rfl, ?_⟩⟩
    refine ⟨_, rfl, ?_⟩
    have hb : b = true := hb.mpr ⟨ns, rfl, ho⟩
    subst hb
    refine ⟨fun h => (nomatch h), fun _ => ?_⟩
    refine ss_nil ?_
    exact hq

theorem ord_len {ns : List Int} (h : Ln.Ord ns) : ns.length < 64 := by
  obtain ⟨_, h, _⟩ := h
  omega
theorem tup_ne {ns : List Int} {x : Bool} (h : x = true ↔ D.tup (ns.map I) ≠ D.tup []) : x = true ↔ ns ≠ [] := by
  rw [h]
  constructor
  · intro h e
    exact h (by rw [e]; rfl)
  · intro h e
    have e := D.tup.inj e
    exact h (List.map_eq_nil_iff.mp e)
theorem b_false {b : Bool} {p : Prop} (h : b = true ↔ ¬ p) (hp : p) : b = false := by
  cases b with
  | false => rfl
  | true => exact absurd hp (h.mp rfl)

abbrev errWords : List Str := ["order", "rule", "number", "row", "car", "many", "empty", "undo", "base", "value"]
abbrev n__law_error_name : List Str := ["e", "some", "words", "names", "word", "good"]
theorem sc__law_error_name : FnScope n__law_error_name ["e"] (defScope s__law_error_name) := ⟨rfl, rfl, rfl, by decide +kernel, rfl, by decide +kernel, by decide +kernel⟩
theorem ok__law_error_name (T : Top K mg) {C : Addr} {b0 b1 b2 b3 b4 b5 b6 b7 : Bool} {z : Str} (he : Sy.ErrK K C T.C_LaneError [T.C_InvalidOrder, T.C_InvalidRule, T.C_InvalidNumber, T.C_InvalidRow, T.C_InvalidCar, T.C_TooMany, T.C_LaneEmpty, T.C_NothingToUndo, T.C_LaneError] [b0, b1, b2, b3, b4, b5, b6, b7, true]) (hz : SyH.pk errWords [b0, b1, b2, b3, b4, b5, b6, b7, true, true] = [z, "base", "value"]) : SyH.FnP P w K mg base (k + 1) T.f__law_error_name T.fd__law_error_name ["e"] (spE K C z) := by
  refine fn_E (N := n__law_error_name) T.F__law_error_name sc__law_error_name fun cdv A outer s H p hot hr h1 h2 h3 => ?_
  have hp : p ∈ [p] := List.mem_singleton.mpr rfl
  have hu64 : (A.deeper (envOfC "_law_error_name" (defScope s__law_error_name) s.heap.objs.size T.f__law_error_name cdv)).units + 64 < cLine := by have := hr.un; omega
  have nd := sc__law_error_name.nd
  refine ss_cons ?_
  refine s_setM 1 ?_ nd
  refine em_lst ?_
  refine ed_cons ?_
  refine ee_isEC 0 T.z_isinstance hp he.c h1 h2 h3 T.g_InvalidOrder (he.ki 0 _ _ rfl rfl) rfl ?_
  refine ed_cons ?_
  refine ee_isEC 0 T.z_isinstance hp he.c h1 h2 h3 T.g_InvalidRule (he.ki 1 _ _ rfl rfl) rfl ?_
  refine ed_cons ?_
  refine ee_isEC 0 T.z_isinstance hp he.c h1 h2 h3 T.g_InvalidNumber (he.ki 2 _ _ rfl rfl) rfl ?_
  refine ed_nil ?_
  refine ⟨Nat.le_of_ble_eq_true rfl, ?_⟩
  refine ⟨Nat.le_of_ble_eq_true rfl, fun p_some => ?_⟩
  refine ss_cons ?_
  refine s_setM 1 ?_ nd
  refine em_catX 1 rfl ?_
  refine ee_new ?_
  refine em_lst ?_
  refine ed_cons ?_
  refine ee_isEC 0 T.z_isinstance hp he.c h1 h2 h3 T.g_InvalidRow (he.ki 3 _ _ rfl rfl) rfl ?_
  refine ed_cons ?_
  refine ee_isEC 0 T.z_isinstance hp he.c h1 h2 h3 T.g_InvalidCar (he.ki 4 _ _ rfl rfl) rfl ?_
  refine ed_cons ?_
  refine ee_isEC 0 T.z_isinstance hp he.c h1 h2 h3 T.g_TooMany (he.ki 5 _ _ rfl rfl) rfl ?_
  refine ed_nil ?_
  refine ⟨Nat.le_of_ble_eq_true rfl, ?_⟩
  refine ⟨_, _, rfl, rfl, by simp, ?_⟩
  refine ⟨Nat.le_of_ble_eq_true rfl, fun p_some => ?_⟩
  refine ss_cons ?_
  refine s_setM 1 ?_ nd
  refine em_catX 1 rfl ?_
  refine ee_new ?_
  refine em_lst ?_
  refine ed_cons ?_
  refine ee_isEC 0 T.z_isinstance hp he.c h1 h2 h3 T.g_LaneEmpty (he.ki 6 _ _ rfl rfl) rfl ?_
  refine ed_cons ?_
  refine ee_isEC 0 T.z_isinstance hp he.c h1 h2 h3 T.g_NothingToUndo (he.ki 7 _ _ rfl rfl) rfl ?_
  refine ed_nil ?_
  refine ⟨Nat.le_of_ble_eq_true rfl, ?_⟩
  refine ⟨_, _, rfl, rfl, by simp, ?_⟩
  refine ⟨Nat.le_of_ble_eq_true rfl, fun p_some => ?_⟩
  refine ss_cons ?_
  refine s_setM 1 ?_ nd
  refine em_catX 1 rfl ?_
  refine ee_new ?_
  refine em_lst ?_
  refine ed_cons ?_
  refine ee_isEC 0 T.z_isinstance hp he.c h1 h2 h3 T.g_LaneError (he.ki 8 _ _ rfl rfl) rfl ?_
  refine ed_cons ?_
  refine ee_isEB 0 T.z_isinstance hp he.c h1 h2 h3 T.z_ValueError (by decide +kernel) he.kv rfl ?_
  refine ed_nil ?_
  refine ⟨Nat.le_of_ble_eq_true rfl, ?_⟩
  refine ⟨_, _, rfl, rfl, by simp, ?_⟩
  refine ⟨Nat.le_of_ble_eq_true rfl, fun p_some => ?_⟩
  refine ss_cons ?_
  refine s_set 2 ?_ nd
  refine ee_str ?_
  refine ss_cons ?_
  refine s_lcZ 3 2 1 4 5 (ws := errWords) (bs := [b0, b1, b2, b3, b4, b5, b6, b7, true, true]) ⟨p, hot, hp⟩ nd ?ok T.z_zip rfl rfl ?sp rfl ?le ?h0 ?tl ?q ?nx ?ny ?ht ?he ?hw ?hz ?es
  case ok => exact blkOk_by (show blkC n__law_error_name (defScope s__law_error_name) _ _ = true by decide +kernel)
  case sp => decide +kernel
  case le => decide
  case h0 => rfl
  case tl => decide
  case nx => exact fun _ _ _ _ _ => pg_name (i := 4) nd rfl (.inl rfl)
  case ny => exact fun _ _ _ _ _ => pg_name (i := 5) nd rfl (.inl rfl)
  case ht => exact fun _ _ _ _ _ => pe_var rfl (.inl rfl)
  case he => exact fun _ _ _ _ _ => pe_var rfl (.inl rfl)
  case hw => exact pe_var rfl (.inl rfl)
  case hz => exact pe_var rfl (.inl rfl)
  case es => exact fun _ _ _ _ _ => ⟨rfl, rfl⟩
  rw [hz]
  refine ⟨Nat.le_of_ble_eq_true rfl, fun p_names => ?_⟩
  refine ss_one ?_
  refine s_ret ?_
  refine ee_if ?_
  refine eb_cmp ?_
  refine ee_new ?_
  refine em_sliceX 3 rfl ?_
  refine eo_some ?_
  refine ee_int ?_
  refine ⟨_, rfl, ?_⟩
  refine eo_none ?_
  refine ⟨_, rfl, ?_⟩
  refine ee_new ?_
  refine em_lst ?_
  refine ed_cons ?_
  refine ee_str ?_
  refine ed_cons ?_
  refine ee_str ?_
  refine ed_nil ?_
  refine ⟨Nat.le_of_ble_eq_true rfl, ?_⟩
  refine co_eqD hu64 ⟨show PyData.strOk "base" = true by decide +kernel, show PyData.strOk "value" = true by decide +kernel, trivial⟩ ⟨show PyData.strOk "base" = true by decide +kernel, show PyData.strOk "value" = true by decide +kernel, trivial⟩ (Nat.le_of_ble_eq_true rfl) (Nat.le_of_ble_eq_true rfl) fun b hb => ?_
  refine ⟨_, rfl, ?_⟩
  obtain rfl : b = true := hb.mpr rfl
  refine ⟨fun _ => ?_, fun h => nomatch h⟩
  refine ee_ixX 3 rfl ?_
  refine ee_int ?_
  refine ⟨_, _, _, rfl, rfl, rfl, ?_⟩
  exact rfl
theorem err_InvalidOrder (T : Top K mg) : SyH.FnP P w K mg base (k + 1) T.f__law_error_name T.fd__law_error_name ["e"] (spE K T.C_InvalidOrder "order") := ok__law_error_name T T.e_InvalidOrder (by decide +kernel)
theorem err_InvalidCar (T : Top K mg) : SyH.FnP P w K mg base (k + 1) T.f__law_error_name T.fd__law_error_name ["e"] (spE K T.C_InvalidCar "car") := ok__law_error_name T T.e_InvalidCar (by decide +kernel)
theorem err_TooMany (T : Top K mg) : SyH.FnP P w K mg base (k + 1) T.f__law_error_name T.fd__law_error_name ["e"] (spE K T.C_TooMany "many") := ok__law_error_name T T.e_TooMany (by decide +kernel)

def prD (p : Int × Int) : D := .tup [I p.1, I p.2]
def fRecsIn : FSp := fun ds q => ∃ ns : List Int, ds = [.tup (ns.map I)] ∧ ns.length < 64 ∧ q (.m (.lst ((Ln.records ns).map prD)))
abbrev n_records_in : List Str := ["order", "found", "least", "at", "car"]
theorem sc_records_in : FnScope n_records_in ["order"] (defScope s_records_in) := ⟨rfl, rfl, rfl, by decide +kernel, rfl, by decide +kernel, by decide +kernel⟩
theorem ok_records_in (T : Top K mg) : FnOk P w K mg base CX0 (k + 1) T.f_records_in T.fd_records_in ["order"] (spF K fRecsIn) := by
  refine fn_F (N := n_records_in) T.F_records_in sc_records_in (fun ds q h => ?_) (fun cdv A outer s H E hr ds q h => ?_)
  · obtain ⟨ns, rfl, _⟩ := h
    rfl
  · obtain ⟨ns, rfl, hlen, hq⟩ := h
    have nd := sc_records_in.nd
    have hu1 := hu_of hr
    have hu64 := hr.units
    refine ss_cons ?_
    first | refine s_par 1 2 ?_ nd | refine s_parC 1 2 ?_ nd
    refine eu_m ?_
    refine em_lst ?_
    refine ed_nil ?_
    refine ⟨Nat.le_of_ble_eq_true rfl, ?_⟩
    refine eu_d ?_
    refine ee_bin ?_
    refine ee_lenT T.z_len ?_
    refine ee_var 0 rfl ?_
    refine ⟨_, rfl, ?_⟩
    refine ee_int ?_
    refine bo_add ?_
    refine eu_nil ?_
    refine ⟨Nat.le_of_ble_eq_true rfl, fun p_found => ?_⟩
    refine ss_cons ?_
    refine s_for ?_
    refine ei_enumT T.z_enumerate ?_
    refine ee_var 0 rfl ?_
    refine ⟨_, rfl, ?_⟩
    rw [List.length_map]
    refine ⟨fun i e => ∃ (done : List (Int × Int)) (m : Int) (d3 d4 : Desc), Ln.recs 0 ((ns.length : Int) + 1) ns = done ++ Ln.recs i m (ns.drop i) ∧ e = [.dat (.tup (ns.map I)), .mu p_found (.lst (done.map prD)), .dat (I m), d3, d4], ⟨[], _, _, _, rfl, rfl⟩, fun _ _ _ => trivial, fun i d e hd hI => ?_, fun e hI => ?_⟩
    · obtain ⟨done, m, d3, d4, hr, rfl⟩ := hI
      obtain ⟨hi, rfl⟩ := enumD_ints hd
      have hl : done.length ≤ 1000 := by
        have h1 := congrArg List.length hr
        have h2 := Ln.recs_len 0 ((ns.length : Int) + 1) ns
        rw [List.length_append] at h1
        omega
      rw [List.drop_eq_getElem_cons hi] at hr
      refine eg_wt ?_
      refine egs_cons ?_
      refine eg_name 3 ?_ nd
      refine egs_cons ?_
      refine eg_name 4 ?_ nd
      refine egs_nil ?_
      refine ss_one ?_
      refine s_if ?_
      refine eb_cmp ?_
      refine ee_var 4 rfl ?_
      refine ee_var 2 rfl ?_
      refine co_lt ?_
      refine ⟨_, rfl, ?_⟩
      refine ⟨fun h => ?_, fun h => ?_⟩
      · have hx := of_decide_eq_true h
        refine ss_cons ?_
        refine s_expr ?_
        refine ee_append 1 rfl ?_
        refine ee_tup ?_
        refine ed_cons ?_
        refine ee_var 4 rfl ?_
        refine ed_cons ?_
        refine ee_bin ?_
        refine ee_var 3 rfl ?_
        refine ee_int ?_
        refine bo_add ?_
        refine ed_nil ?_
        refine ⟨Nat.le_of_ble_eq_true rfl, ?_⟩
        refine ⟨_, rfl, by first | omega | (simp only [List.length_map, List.length_append, List.length_cons, List.length_nil, List.length_reverse, List.length_dropLast, List.length_take, List.length_drop, List.length_range, List.length_replicate, Sy.rgS_len, Sy.rgD_len, Ln.downs_len, Ln.upto_len]; omega) | decide | assumption, ?_⟩
        refine ss_one ?_
        refine s_set 2 ?_ nd
        refine ee_var 4 rfl ?_
        have e : done.map prD ++ [.tup [I ns[i], I ((i : Nat) + 1)]] = (done ++ [(ns[i], (i : Int) + 1)]).map prD := by
          rw [List.map_append]
          rfl
        rw [e]
        refine ⟨_, _, _, _, ?_, rfl⟩
        · rw [hr, List.append_assoc]
          show done ++ (if ns[i] < m then _ else _) = _
          rw [if_pos hx]
          rfl
      · have hx := of_decide_eq_false h
        refine ss_nil ?_
        refine ⟨done, m, _, _, ?_, rfl⟩
        rw [hr]
        show done ++ (if ns[i] < m then _ else _) = _
        rw [if_neg hx]
    · obtain ⟨done, m, d3, d4, hr, rfl⟩ := hI
      refine ss_one ?_
      refine s_retM ?_
      refine em_revL ?_
      refine el_slot 1 rfl ?_
      have e : Ln.records ns = done.reverse := by
        unfold Ln.records
        rw [hr, enumD_len, List.length_map, List.drop_length]
        show (done ++ []).reverse = _
        rw [List.append_nil]
      rw [← List.map_reverse, ← e]
      exact hq

def fSortTot : FSp := fun ds q => ∃ ns : List Int, ds = [.tup (ns.map I)] ∧ ns.length < 64 ∧ q (.d (I (Ln.rsum ns.length (Ln.records ns))))
abbrev n_sorted_total : List Str := ["order", "car", "place"]
theorem sc_sorted_total : FnScope n_sorted_total ["order"] (defScope s_sorted_total) := ⟨rfl, rfl, rfl, by decide +kernel, rfl, by decide +kernel, by decide +kernel⟩
theorem ok_sorted_total (T : Top K mg) : FnOk P w K mg base CX0 (k + 2) T.f_sorted_total T.fd_sorted_total ["order"] (spF K fSortTot) := by
  refine fn_F (N := n_sorted_total) T.F_sorted_total sc_sorted_total (fun ds q h => ?_) (fun cdv A outer s H E hr ds q h => ?_)
  · obtain ⟨ns, rfl, _⟩ := h
    rfl
  · obtain ⟨ns, rfl, hlen, hq⟩ := h
    have nd := sc_sorted_total.nd
    have hu1 := hu_of hr
    have hu64 := hr.units
    refine ss_one ?_
    refine s_ret ?_
    refine ee_sumL T.z_sum ?_
    refine el_new ?_
    refine em_lcA (own := [("car", 1), ("place", 2)]) (blkOk_by (show blkC n_sorted_total (defScope s_sorted_total) _ _ = true by decide +kernel)) nd ?_
    refine ei_list ?_
    refine ee_new ?_
    refine em_call (ok_records_in T) hr T.g_records_in T.F_records_in.kp T.b_records_in pass0 ?_
    refine ed_cons ?_
    refine ee_var 0 rfl ?_
    refine ed_nil ?_
    refine ⟨ns, rfl, hlen, ⟨_, rfl, ?_⟩⟩
    refine ⟨_, rfl, ?_⟩
    have hl := Ln.records_len ns
    have hml : (ns.map I).length = ns.length := List.length_map ..
    refine ⟨noMu_of rfl, trivial, _, Ln.records ns, prD, fun q => some (I ((ns.length : Nat) - q.2 - q.1 + 1)), rfl, by omega, fun q hqm => ?_, ?_⟩
    · unfold prD
      refine egb_two 1 2 (by decide) (by decide) (by intro _ _ h; cases h) (by intro _ _ h; cases h) (by decide) ?_ (.inl rfl) fun _ _ _ _ _ => pg_tup rfl (pgs_cons (pg_name (i := 1) nd rfl (by first | exact .inl rfl | exact .inr rfl)) (pgs_cons (pg_name (i := 2) nd rfl (by first | exact .inl rfl | exact .inr rfl)) pgs_nil))
      refine ebb_nil ?_
      refine ⟨fun _ => ?_, fun h => nomatch h⟩
      refine eeb fun s0 H0 C cl fp => ?_
      refine ee_bin ?_
      refine ee_bin ?_
      refine ee_bin ?_
      refine ee_lenT T.z_len ?_
      refine ee_var 0 rfl ?_
      refine ⟨_, rfl, ?_⟩
      refine ee_var 2 rfl ?_
      refine bo_sub ?_
      refine ee_var 1 rfl ?_
      refine bo_sub ?_
      refine ee_int ?_
      refine bo_add ?_
      rw [hml]
      exact ⟨rfl, noMu_of rfl, rfl⟩
    · refine ⟨_, rfl, ?_⟩
      rw [fm_some]
      refine ⟨(Ln.records ns).map fun q => ((ns.length : Nat) : Int) - q.2 - q.1 + 1, by rw [List.map_map]; rfl, ?_⟩
      exact hq

def fLeft : FSp := fun ds q => ∃ (ns : List Int) (r : Ln.Rl), ds = [.tup (ns.map I), S_ r.str] ∧ ns ≠ [] ∧ ns.length < 64 ∧ ns.Nodup ∧ q (.d (.tup [I (Ln.outs ns).length, .tup ((Ln.next r ns).map I)]))
theorem take_last {ns : List Int} {j : Nat} (h : j < ns.length) : ns.take (j + 1) = ns.take j ++ [ns[j]] := by
  rw [List.take_add_one, List.getElem?_eq_getElem h]
  rfl
theorem drop_rev {ns : List Int} {j : Nat} (h : j < ns.length) : (ns.drop j).reverse = (ns.drop (j + 1)).reverse ++ [ns[j]] := by
  rw [List.drop_eq_getElem_cons h, List.reverse_cons]
theorem back_rev (r : Ln.Rl) (o : List Int) : (if r = .srt then (Ln.srt o.reverse).reverse else if r = .old then o.reverse.reverse else o.reverse) = Ln.back r o := by
  cases r with
  | old => rw [if_neg (by decide), if_pos rfl, List.reverse_reverse]; rfl
  | rev => rw [if_neg (by decide), if_neg (by decide)]; rfl
  | srt =>
    rw [if_pos rfl]
    show _ = (Ln.srt o).reverse
    rw [Ln.srt_eq ((Ln.srt_perm o.reverse).trans (List.reverse_perm o)) (Ln.srt_pw _)]
abbrev n__law_left : List Str := ["lane", "by", "inside", "out", "back", "car"]
theorem sc__law_left : FnScope n__law_left ["lane", "by"] (defScope s__law_left) := ⟨rfl, rfl, rfl, by decide +kernel, rfl, by decide +kernel, by decide +kernel⟩
theorem ok__law_left (T : Top K mg) : FnOk P w K mg base CX0 (k + 1) T.f__law_left T.fd__law_left ["lane", "by"] (spF K fLeft) := by
  refine fn_F (N := n__law_left) T.F__law_left sc__law_left (fun ds q h => ?_) (fun cdv A outer s H E hr ds q h => ?_)
  · obtain ⟨ns, r, rfl, _⟩ := h
    rfl
  · obtain ⟨ns, r, rfl, hne, hlen, hnd, hq⟩ := h
    have hai := Ln.idx_lt hne
    have nd := sc__law_left.nd
    have hu1 := hu_of hr
    have hu64 := hr.units
    refine ss_cons ?_
    first | refine s_par 2 3 ?_ nd | refine s_parC 2 3 ?_ nd
    refine eu_m ?_
    refine em_listT T.z_list ?_
    refine ee_var 0 rfl ?_
    refine ⟨_, rfl, ?_⟩
    refine eu_m ?_
    refine em_lst ?_
    refine ed_nil ?_
    refine ⟨Nat.le_of_ble_eq_true rfl, ?_⟩
    refine eu_nil ?_
    refine ⟨Nat.le_of_ble_eq_true rfl, fun p_inside => ?_⟩
    refine ⟨Nat.le_of_ble_eq_true rfl, fun p_out => ?_⟩
    refine ss_cons ?_
    refine s_while (fun m e => ∃ j : Nat, m = j ∧ ns.idxOf (Ln.lo ns) ≤ j ∧ j < ns.length ∧ e = [.dat (.tup (ns.map I)), .dat (S_ r.str), .mu p_inside (.lst ((ns.take (j + 1)).map I)), .mu p_out (.lst ((ns.drop (j + 1)).reverse.map I)), .un, .un]) (ns.length - 1) ⟨ns.length - 1, rfl, by omega, by omega, ?_⟩ fun j e hI => ?_
    · have e1 : ns.length - 1 + 1 = ns.length := by omega
      rw [e1, List.take_length, List.drop_length]
      rfl
    obtain ⟨_, rfl, hj1, hj2, rfl⟩ := hI
    have hgl : atI ((ns.take (j + 1)).map I) (-1) = some (I ns[j]) := by
      rw [take_last hj2, List.map_append]
      exact atI_last _ _
    refine eb_cmp ?_
    refine ee_ixX 2 rfl ?_
    refine ee_neg (i := 0) ?_
    refine ee_int ?_
    refine ⟨_, rfl, ?_⟩
    refine ⟨_, _, _, rfl, rfl, hgl, ?_⟩
    refine ee_minT T.z_min hu1 ?_
    refine ee_var 0 rfl ?_
    refine ⟨ns, rfl, hne, fun m hm1 hm2 => ?_⟩
    have e := Ln.lo_eq hm1 hm2
    subst e
    refine co_ne ?_
    refine ⟨_, rfl, ?_⟩
    have hlast : ((ns.take (j + 1)).map I)[((ns.take (j + 1)).map I).length - 1]? = some (I ns[j]) := by
      rw [take_last hj2, List.map_append, List.length_append]
      simp
    have hdl : ((ns.take (j + 1)).map I).dropLast = (ns.take j).map I := by
      rw [take_last hj2, List.map_append]
      exact List.dropLast_concat
    refine ⟨fun h => ?_, fun h => ?_⟩
    · have hne2 : ns[j] ≠ Ln.lo ns := by simpa using h
      refine ss_one ?_
      refine s_expr ?_
      refine ee_append 3 rfl ?_
      refine ee_pop 2 rfl hlast ?_
      refine ⟨_, rfl, by first | omega | (simp only [List.length_map, List.length_append, List.length_cons, List.length_nil, List.length_reverse, List.length_dropLast, List.length_take, List.length_drop, List.length_range, List.length_replicate, Sy.rgS_len, Sy.rgD_len, Ln.downs_len, Ln.upto_len]; omega) | decide | assumption, ?_⟩
      rw [hdl]
      have hjne : ns.idxOf (Ln.lo ns) ≠ j := fun z => hne2 (by
        have : ns[ns.idxOf (Ln.lo ns)]'hai = Ln.lo ns := List.getElem_idxOf _
        rw [← this]
        congr 1
        exact z.symm)
      refine ⟨j - 1, by omega, j - 1, rfl, by omega, by omega, ?_⟩
      have e1 : j - 1 + 1 = j := by omega
      rw [e1, drop_rev hj2, List.map_append]
      rfl
    · have he : ns[j] = Ln.lo ns := by simpa using h
      have hj : ns.idxOf (Ln.lo ns) = j := by
        have h1 : ns[ns.idxOf (Ln.lo ns)]'hai = Ln.lo ns := List.getElem_idxOf _
        exact (List.getElem_inj hnd).mp (h1.trans he.symm)
      subst hj
      refine ss_cons ?_
      refine s_expr ?_
      refine ee_pop 2 rfl hlast ?_
      refine ss_frz 3 rfl ?_
      rw [hdl]
      have hol : ((ns.drop (ns.idxOf (Ln.lo ns) + 1)).reverse).length = (Ln.outs ns).length := List.length_reverse
      have hol2 := Ln.outs_len (ns := ns)
      refine ss_cut (fun e => e = [.dat (.tup (ns.map I)), .dat (S_ r.str), .mu p_inside (.lst ((Ln.ins ns).map I)), .dat (.lst ((Ln.outs ns).reverse.map I)), .dat (.lst ((if r = .old then (Ln.outs ns).reverse.reverse else (Ln.outs ns).reverse).map I)), .un]) ?_ ?_
      · refine s_set 4 ?_ nd
        refine ee_if ?_
        refine eb_cmp ?_
        refine ee_var 1 rfl ?_
        refine ee_str ?_
        refine co_eqS rfl ?_
        refine ⟨_, rfl, ?_⟩
        refine ⟨fun h => ?_, fun h => ?_⟩
        · have hr := Ln.rl_old h
          subst hr
          refine ee_new ?_
          refine em_revL ?_
          refine el_dat ?_
          refine ee_var 3 rfl ?_
          refine ⟨_, rfl, ?_⟩
          rw [if_pos rfl, @List.map_reverse _ _ I (Ln.outs ns).reverse]
          rfl
        · have hr := Ln.rl_nold h
          refine ee_var 3 rfl ?_
          rw [if_neg hr]
          rfl
      rintro env' rfl
      refine ss_cut (fun e => e = [.dat (.tup (ns.map I)), .dat (S_ r.str), .mu p_inside (.lst ((Ln.ins ns).map I)), .dat (.lst ((Ln.outs ns).reverse.map I)), .dat (.lst ((Ln.back r (Ln.outs ns)).map I)), .un]) ?_ ?_
      · refine s_if ?_
        refine eb_cmp ?_
        refine ee_var 1 rfl ?_
        refine ee_str ?_
        refine co_eqS rfl ?_
        refine ⟨_, rfl, ?_⟩
        refine ⟨fun h => ?_, fun h => ?_⟩
        · have hr := Ln.rl_srt h
          subst hr
          refine ss_one ?_
          refine s_set 4 ?_ nd
          refine ee_new ?_
          refine em_revL ?_
          refine el_new ?_
          refine em_sortedL T.z_sorted ?_
          refine el_dat ?_
          refine ee_var 3 rfl ?_
          refine ⟨_, rfl, ?_⟩
          refine ⟨_, rfl, by rw [List.length_reverse]; omega, fun l hp hs => ?_⟩
          refine ⟨_, rfl, ?_⟩
          rw [← back_rev, if_pos rfl, ← Ln.srt_eq hp hs, @List.map_reverse _ _ I l]
          rfl
        · have hr := Ln.rl_nsrt h
          refine ss_nil ?_
          rw [← back_rev, if_neg hr]
      rintro env' rfl
      refine ss_cons ?_
      refine s_for ?_
      refine ei_list ?_
      refine ee_var 4 rfl ?_
      refine ⟨_, rfl, ?_⟩
      have hbl := Ln.back_len r (Ln.outs ns)
      have hil : (Ln.ins ns).length ≤ ns.length := by unfold Ln.ins; rw [List.length_take]; omega
      refine ⟨fun i e => ∃ d5 : Desc, e = [.dat (.tup (ns.map I)), .dat (S_ r.str), .mu p_inside (.lst ((Ln.ins ns ++ (Ln.back r (Ln.outs ns)).take i).map I)), .dat (.lst ((Ln.outs ns).reverse.map I)), .dat (.lst ((Ln.back r (Ln.outs ns)).map I)), d5], ⟨_, by rw [List.take_zero, List.append_nil]⟩, fun _ _ _ => trivial, fun i d e hd hI => ?_, fun e hI => ?_⟩
      · obtain ⟨d5, rfl⟩ := hI
        rw [List.getElem?_map] at hd
        cases hb : (Ln.back r (Ln.outs ns))[i]? with
        | none => rw [hb] at hd; cases hd
        | some c =>
        rw [hb] at hd
        have hd := Option.some.inj hd
        subst hd
        have hll : ((Ln.ins ns ++ (Ln.back r (Ln.outs ns)).take i).map I).length ≤ 1000 := by
          rw [List.length_map, List.length_append, List.length_take]
          omega
        refine eg_name 5 ?_ nd
        refine ss_one ?_
        refine s_expr ?_
        refine ee_append 2 rfl ?_
        refine ee_var 5 rfl ?_
        refine ⟨_, rfl, by first | omega | (simp only [List.length_map, List.length_append, List.length_cons, List.length_nil, List.length_reverse, List.length_dropLast, List.length_take, List.length_drop, List.length_range, List.length_replicate, Sy.rgS_len, Sy.rgD_len, Ln.downs_len, Ln.upto_len]; omega) | decide | assumption, ?_⟩
        have e : (Ln.ins ns ++ (Ln.back r (Ln.outs ns)).take i).map I ++ [I c] = (Ln.ins ns ++ (Ln.back r (Ln.outs ns)).take (i + 1)).map I := by
          rw [List.take_add_one, hb, ← List.append_assoc]
          exact (List.map_append (l₁ := Ln.ins ns ++ (Ln.back r (Ln.outs ns)).take i) (l₂ := [c])).symm
        rw [e]
        exact ⟨_, rfl⟩
      · obtain ⟨d5, rfl⟩ := hI
        rw [List.length_map, List.take_length]
        refine ss_one ?_
        refine s_ret ?_
        refine ee_tup ?_
        refine ed_cons ?_
        refine ee_lenL T.z_len ?_
        refine el_dat ?_
        refine ee_var 3 rfl ?_
        refine ⟨_, rfl, ?_⟩
        refine ed_cons ?_
        refine ee_tupleL T.z_tuple ?_
        refine el_slot 2 rfl ?_
        refine ed_nil ?_
        refine ⟨Nat.le_of_ble_eq_true rfl, ?_⟩
        rw [List.length_map, List.length_reverse]
        exact hq

def fRow : FSp := fun ds q => ∃ (ns : List Int) (r : Ln.Rl), ds = [.tup (ns.map I), S_ r.str] ∧ ns.length < 64 ∧ ns.Nodup ∧ q (.d (.tup ((Ln.row r ns).map I)))
abbrev n__law_row : List Str := ["lane", "by", "found", "out"]
theorem sc__law_row : FnScope n__law_row ["lane", "by"] (defScope s__law_row) := ⟨rfl, rfl, rfl, by decide +kernel, rfl, by decide +kernel, by decide +kernel⟩
theorem ok__law_row (T : Top K mg) : FnOk P w K mg base CX0 (k + 2) T.f__law_row T.fd__law_row ["lane", "by"] (spF K fRow) := by
  refine fn_F (N := n__law_row) T.F__law_row sc__law_row (fun ds q h => ?_) (fun cdv A outer s H E hr ds q h => ?_)
  · obtain ⟨ns, r, rfl, _⟩ := h
    rfl
  · obtain ⟨ns, r, rfl, hlen, hnd, hq⟩ := h
    have nd := sc__law_row.nd
    have hu1 := hu_of hr
    have hu64 := hr.units
    refine ss_cons ?_
    refine s_setM 2 ?_ nd
    refine em_lst ?_
    refine ed_nil ?_
    refine ⟨Nat.le_of_ble_eq_true rfl, ?_⟩
    refine ⟨Nat.le_of_ble_eq_true rfl, fun p_found => ?_⟩
    refine ss_cons ?_
    refine s_while (fun m e => ∃ (done : List Int) (cs : List Int) (d3 : Desc), cs.length = m ∧ cs.Nodup ∧ Ln.row r ns = done ++ Ln.row r cs ∧ done.length + cs.length = ns.length ∧ e = [.dat (.tup (cs.map I)), .dat (S_ r.str), .mu p_found (.lst (done.map I)), d3]) ns.length ⟨[], ns, _, rfl, hnd, rfl, by rw [List.length_nil]; omega, rfl⟩ fun m e hI => ?_
    obtain ⟨done, cs, d3, hm, hcn, hd, hl, rfl⟩ := hI
    have hl64 : done.length < 64 ∧ cs.length < 64 := by omega
    refine eb_cmp ?_
    refine ee_var 0 rfl ?_
    refine ee_tup ?_
    refine ed_nil ?_
    refine ⟨Nat.le_of_ble_eq_true rfl, ?_⟩
    refine co_neD hu64 (eqkA_ints _) trivial (dep_intsT _) (by decide) fun b hb => ?_
    have hb := tup_ne hb
    refine ⟨_, rfl, ?_⟩
    refine ⟨fun h => ?_, fun h => ?_⟩
    · have hne := hb.mp h
      refine ss_cons ?_
      refine s_asg ?_
      refine ee_call (ok__law_left T) hr T.g__law_left T.F__law_left.kp T.b__law_left pass0 ?_
      refine ed_cons ?_
      refine ee_var 0 rfl ?_
      refine ed_cons ?_
      refine ee_var 1 rfl ?_
      refine ed_nil ?_
      refine ⟨cs, r, rfl, hne, by omega, hcn, ⟨_, rfl, ?_⟩⟩
      refine eg_tup ?_
      refine egs_cons ?_
      refine eg_name 3 ?_ nd
      refine egs_cons ?_
      refine eg_name 0 ?_ nd
      refine egs_nil ?_
      refine ss_one ?_
      refine s_expr ?_
      refine ee_append 2 rfl ?_
      refine ee_var 3 rfl ?_
      refine ⟨_, rfl, by first | omega | (simp only [List.length_map, List.length_append, List.length_cons, List.length_nil, List.length_reverse, List.length_dropLast, List.length_take, List.length_drop, List.length_range, List.length_replicate, Sy.rgS_len, Sy.rgD_len, Ln.downs_len, Ln.upto_len]; omega) | decide | assumption, ?_⟩
      have e : done.map I ++ [I (Ln.outs cs).length] = (done ++ [((Ln.outs cs).length : Int)]).map I := by
        rw [List.map_append]
        rfl
      rw [e]
      have hl2 := Ln.next_len (r := r) hne
      refine ⟨(Ln.next r cs).length, by omega, _, _, _, rfl, (List.nodup_cons.mp (Ln.next_nodup (r := r) hne hcn)).2, ?_, by rw [List.length_append, List.length_singleton]; omega, rfl⟩
      rw [hd, Ln.row_cons hne, List.append_assoc]
      rfl
    · have he : cs = [] := Classical.byContradiction fun z => by
        rw [hb.mpr z] at h
        cases h
      subst he
      refine ss_one ?_
      refine s_ret ?_
      refine ee_tupleL T.z_tuple ?_
      refine el_slot 2 rfl ?_
      rw [Ln.row_nil, List.append_nil] at hd
      rw [hd] at hq
      exact hq

theorem use_lane {a b c m : Int} {q : Res → MO → Prop} (hc : 0 < c ∧ c < 2 ^ 31) (h0 : 0 < m) (h1 : m ≤ 30) (hq : ∀ (cs : List Int) (a' b' : Int), (cs.length : Int) ≤ m → Ln.Ord cs → q (.d (.tup (cs.map I))) (.lst [I a', I b', I c])) : fLane (.lst [I a, I b, I c]) [I m] q :=
  ⟨a, b, c, m, rfl, rfl, hc, ⟨h0, by omega⟩, fun cs n a' b' h2 h3 h4 => by
    have e := h4.length_eq
    rw [Ln.upto_len] at e
    refine hq cs a' b' (by omega) ⟨by omega, by omega, ?_⟩
    rw [e]
    exact h4⟩
theorem use_source {ns : List Int} {k : Int} {q : Res → Prop} (hl : ns.length ≤ 63) (h0 : 0 ≤ k) (h1 : k < 64) (hq : ∀ a b c : Int, 0 < c → c < 2 ^ 31 → q (.m (.lst [I a, I b, I c]))) : fSource [.lst (ns.map I), I k] q := ⟨ns, k, rfl, hl, h0, h1, hq⟩
theorem turns_of {n : Nat} {a b : Int} (ha : 0 ≤ a ∧ a ≤ 30) (hb : 0 ≤ b ∧ b ≤ 30) : ∃ t : Nat, t ≤ 30 ∧ (if (if (n : Int) < a then (n : Int) else a) > b then (if (n : Int) < a then (n : Int) else a) else b) = (t : Int) := by
  by_cases h1 : (n : Int) < a
  · rw [if_pos h1]
    by_cases h2 : (n : Int) > b
    · exact ⟨n, by omega, by rw [if_pos h2]⟩
    · exact ⟨b.toNat, by omega, by rw [if_neg h2]; omega⟩
  · rw [if_neg h1]
    by_cases h2 : a > b
    · exact ⟨a.toNat, by omega, by rw [if_pos h2]; omega⟩
    · exact ⟨b.toNat, by omega, by rw [if_neg h2]; omega⟩

def fBest : FSp := fun ds q => ∃ (ns : List Int) (c : Int), ds = [.tup (ns.map I), I c] ∧ Ln.Ord ns ∧ ns.length < 30 ∧ 1 ≤ c ∧ c ≤ (ns.length : Int) + 1 ∧ q (.m (.lst ((Ln.bestL ns c).map I)))
theorem enumD_range {ns : List Int} : enumD (ns.map I) = (List.range ns.length).map fun i => D.wt [I (i : Nat), I (ns.getD i 0)] := by
  apply List.ext_getElem?
  intro i
  rw [enumD_map, List.getElem?_map, List.getElem?_zipIdx, List.getElem?_map]
  by_cases h : i < ns.length
  · rw [List.getElem?_eq_getElem h, List.getElem?_range h]
    show some (D.wt [I ((0 + i : Nat) : Int), I ns[i]]) = some (D.wt [I (i : Nat), I (ns.getD i 0)])
    rw [List.getD_eq_getElem?_getD, List.getElem?_eq_getElem h, Nat.zero_add]
    rfl
  · rw [List.getElem?_eq_none (by omega), List.getElem?_eq_none (by rw [List.length_range]; omega)]
    rfl
theorem minAt_pick {ps : List Int} : (List.range ps.length).filterMap (Sy.pick (fun i : Nat => decide (ps.getD i 0 = Ln.lo ps)) fun i : Nat => I ((i : Int) + 1)) = (Ln.minAt ps).map I := by
  rw [fm_pick]
  unfold Ln.minAt
  rw [List.map_map]
  have e : (List.range ps.length).filter (fun i : Nat => decide (ps.getD i 0 = Ln.lo ps)) = (List.range ps.length).filter fun i : Nat => decide (ps[i]? = some (Ln.lo ps)) := by
    refine List.filter_congr fun i hi => ?_
    have hi := List.mem_range.mp hi
    rw [List.getD_eq_getElem?_getD, List.getElem?_eq_getElem hi]
    simp
  rw [e]
  rfl
theorem cut_toI {ns : List Int} {i : Int} (h : 0 ≤ i) : Sy.cutD (ns.map I) none (some i) = (ns.take i.toNat).map I := by
  rw [cut_to h, ← List.map_take]
theorem cut_fromI {ns : List Int} {i : Int} (h : 0 ≤ i) : Sy.cutD (ns.map I) (some i) none = (ns.drop i.toNat).map I := by
  rw [cut_from h, ← List.map_drop]
theorem cut_leI {ns : List Int} {l u : Option Int} : (Sy.cutD (ns.map I) l u).length ≤ ns.length := by
  have := cut_le (ds := ns.map I) (l := l) (u := u)
  rwa [List.length_map] at this
theorem ins_ints {ns : List Int} {j : Nat} {c : Int} {i : Int} (hi : i = (j : Nat)) : Sy.cutD (ns.map I) none (some i) ++ [I c] ++ Sy.cutD (ns.map I) (some i) none = (Ln.insAt ns j c).map I := by
  rw [cut_toI (by omega), cut_fromI (by omega), show i.toNat = j from by omega]
  unfold Ln.insAt
  rw [List.map_append, List.map_cons, List.append_assoc]
  rfl
abbrev n_best_places : List Str := ["order", "car", "others", "totals", "other", "at", "points"]
theorem sc_best_places : FnScope n_best_places ["order", "car"] (defScope s_best_places) := ⟨rfl, rfl, rfl, by decide +kernel, rfl, by decide +kernel, by decide +kernel⟩
theorem ok_best_places (T : Top K mg) : FnOk P w K mg base CX0 (k + 4) T.f_best_places T.fd_best_places ["order", "car"] (spF K fBest) := by
  refine fn_F (N := n_best_places) T.F_best_places sc_best_places (fun ds q h => ?_) (fun cdv A outer s H E hr ds q h => ?_)
  · obtain ⟨ns, c, rfl, _⟩ := h
    rfl
  · obtain ⟨ns, c, rfl, ho, h30, hc1, hc2, hq⟩ := h
    have hml : (ns.map I).length = ns.length := List.length_map ..
    have nd := sc_best_places.nd
    have hu1 := hu_of hr
    have hu64 := hr.units
    refine ss_cons ?_
    refine s_expr ?_
    refine ee_call (ok_require_order T) hr T.g_require_order T.F_require_order.kp T.b_require_order pass0 ?_
    refine ed_cons ?_
    refine ee_var 0 rfl ?_
    refine ed_nil ?_
    refine ⟨ns, rfl, ho, ⟨_, rfl, ?_⟩⟩
    refine ss_cons ?_
    refine s_if ?_
    refine eb_not ?_
    refine eb_val ?_
    refine ee_call (ok_is_integer T) hr T.g_is_integer T.F_is_integer.kp T.b_is_integer pass0 ?_
    refine ed_cons ?_
    refine ee_var 1 rfl ?_
    refine ed_cons ?_
    refine ee_int ?_
    refine ed_cons ?_
    refine ee_bin ?_
    refine ee_lenT T.z_len ?_
    refine ee_var 0 rfl ?_
    refine ⟨_, rfl, ?_⟩
    refine ee_int ?_
    refine bo_add ?_
    refine ed_nil ?_
    rw [hml]
    refine ⟨_, _, _, rfl, rfl, ⟨_, rfl, ?_⟩⟩
    have hin : intIn (I c) 1 ((ns.length : Int) + 1) = true := intIn_I hc1 hc2
    rw [hin]
    refine ⟨_, rfl, ?_⟩
    refine ⟨fun h => (nomatch h), fun _ => ?_⟩
    refine ss_nil ?_
    refine ss_cons ?_
    refine s_if ?_
    refine eb_cmp ?_
    refine ee_lenT T.z_len ?_
    refine ee_var 0 rfl ?_
    refine ⟨_, rfl, ?_⟩
    refine ee_glob (v := .int 30) T.c_MAX_CARS ⟨_, rfl⟩ ?_
    refine co_eq ?_
    refine ⟨_, rfl, ?_⟩
    rw [hml]
    refine ⟨fun h => absurd (of_decide_eq_true h) (by omega), fun _ => ?_⟩
    refine ss_nil ?_
    refine ss_cons ?_
    refine s_set 2 ?_ nd
    refine ee_tupleL T.z_tuple ?_
    refine el_new ?_
    refine em_lcA (own := [("other", 4)]) (blkOk_by (show blkC n_best_places (defScope s_best_places) _ _ = true by decide +kernel)) nd ?_
    refine ei_tup ?_
    refine ee_var 0 rfl ?_
    refine ⟨_, rfl, ?_⟩
    refine ⟨noMu_of rfl, trivial, _, ns, I, fun x => some (I (Ln.bump c x)), rfl, by omega, fun x hx => ?_, ?_⟩
    · refine egb_name 4 (by decide) (by intro _ _ h; cases h) ?_ fun _ _ _ _ _ => pg_name (i := 4) nd rfl (by first | exact .inl rfl | exact .inr rfl)
      refine ebb_nil ?_
      refine ⟨fun _ => ?_, fun h => nomatch h⟩
      refine eeb fun s0 H0 C cl fp => ?_
      refine ee_bin ?_
      refine ee_var 4 rfl ?_
      refine ee_intB T.z_int ?_
      refine ee_cmp ?_
      refine ee_var 4 rfl ?_
      refine ee_var 1 rfl ?_
      refine co_ge ?_
      refine ⟨_, rfl, ?_⟩
      refine bo_add ?_
      refine ⟨?_, noMu_of rfl, rfl⟩
      show some (I (Ln.bump c x)) = _
      unfold Ln.bump
      by_cases h : x ≥ c
      · rw [if_pos h, decide_eq_true h]
        rfl
      · rw [if_neg h, decide_eq_false h]
        show _ = some (I (x + 0))
        rw [Int.add_zero]
    · refine ⟨_, rfl, ?_⟩
      refine ss_cons ?_
      first | refine s_setLc 3 (own := [("at", 5)]) (blkOk_by (show blkC n_best_places (defScope s_best_places) _ _ = true by decide +kernel)) nd ?_ | (refine s_setM 3 ?_ nd; refine em_ofLc (own := [("at", 5)]) (blkOk_by (show blkC n_best_places (defScope s_best_places) _ _ = true by decide +kernel)) nd ?_)
      refine elcA ?_
      refine ei_rg1 T.z_range ?_
      refine ee_bin ?_
      refine ee_lenT T.z_len ?_
      refine ee_var 0 rfl ?_
      refine ⟨_, rfl, ?_⟩
      refine ee_int ?_
      refine bo_add ?_
      refine ⟨_, rfl, by first | omega | (simp only [List.length_map, List.length_append, List.length_cons, List.length_nil, List.length_reverse, List.length_dropLast, List.length_take, List.length_drop, List.length_range, List.length_replicate, Sy.rgS_len, Sy.rgD_len, Ln.downs_len, Ln.upto_len]; omega) | decide | assumption, by first | omega | (simp only [List.length_map, List.length_append, List.length_cons, List.length_nil, List.length_reverse, List.length_dropLast, List.length_take, List.length_drop, List.length_range, List.length_replicate, Sy.rgS_len, Sy.rgD_len, Ln.downs_len, Ln.upto_len]; omega) | decide | assumption, ?_⟩
      rw [fm_some]
      have e : ns.map (fun x => I (Ln.bump c x)) = (ns.map (Ln.bump c)).map I := by rw [List.map_map]; rfl
      have hgl : (ns.map (Ln.bump c)).length = ns.length := List.length_map ..
      rw [e, hml]
      refine ⟨noMu_of rfl, trivial, _, List.range (ns.length + 1), fun j => I (0 + (j : Nat)), fun j => some (I (Ln.tot (Ln.insAt (ns.map (Ln.bump c)) j c))), ?_, by rw [List.length_range]; omega, fun j hj => ?_, ?_⟩
      · unfold rgD
        rw [Int.sub_zero, show ((ns.length : Int) + 1).toNat = ns.length + 1 from by omega]
      · have hj := List.mem_range.mp hj
        refine egb_name 5 (by decide) (by intro _ _ h; cases h) ?_ fun _ _ _ _ _ => pg_name (i := 5) nd rfl (by first | exact .inl rfl | exact .inr rfl)
        refine ebb_nil ?_
        have k1 := cut_leI (ns := ns.map (Ln.bump c)) (l := none) (u := some ((0 : Int) + (j : Nat)))
        have k2 := cut_leI (ns := ns.map (Ln.bump c)) (l := some ((0 : Int) + (j : Nat))) (u := none)
        refine ⟨fun _ => ?_, fun h => nomatch h⟩
        refine eeb fun s0 H0 C cl fp => ?_
        refine ee_call (ok_sorted_total T) hr T.g_sorted_total T.F_sorted_total.kp T.b_sorted_total pass0 ?_
        refine ed_cons ?_
        refine ee_bin ?_
        refine ee_bin ?_
        refine ee_sliceT ?_
        refine ee_var 2 rfl ?_
        refine ⟨_, rfl, ?_⟩
        refine eo_none ?_
        refine eo_some ?_
        refine ee_var 5 rfl ?_
        refine ⟨_, rfl, ?_⟩
        refine ee_tup ?_
        refine ed_cons ?_
        refine ee_var 1 rfl ?_
        refine ed_nil ?_
        refine ⟨Nat.le_of_ble_eq_true rfl, ?_⟩
        refine bo_cat (by first | omega | (simp only [List.length_map, List.length_append, List.length_cons, List.length_nil, List.length_reverse, List.length_dropLast, List.length_take, List.length_drop, List.length_range, List.length_replicate, Sy.rgS_len, Sy.rgD_len, Ln.downs_len, Ln.upto_len]; omega) | decide | assumption) ?_
        refine ee_sliceT ?_
        refine ee_var 2 rfl ?_
        refine ⟨_, rfl, ?_⟩
        refine eo_some ?_
        refine ee_var 5 rfl ?_
        refine ⟨_, rfl, ?_⟩
        refine eo_none ?_
        refine bo_cat (by first | omega | (simp only [List.length_map, List.length_append, List.length_cons, List.length_nil, List.length_reverse, List.length_dropLast, List.length_take, List.length_drop, List.length_range, List.length_replicate, Sy.rgS_len, Sy.rgD_len, Ln.downs_len, Ln.upto_len]; omega) | decide | assumption) ?_
        refine ed_nil ?_
        rw [ins_ints (j := j) (Int.zero_add _)]
        have hio := Ln.insAt_ord ho h30 hc1 hc2 (a := j) (by omega)
        refine ⟨_, rfl, ord_len hio, ⟨_, rfl, ?_⟩⟩
        rw [Ln.tot_rsum hio]
        exact ⟨rfl, noMu_of rfl, rfl⟩
      · refine ⟨Nat.le_of_ble_eq_true rfl, fun p_totals => ?_⟩
        refine ss_one ?_
        refine s_retM ?_
        refine em_lcA (own := [("at", 5), ("points", 6)]) (blkOk_by (by rfl)) nd ?_
        refine ei_enumX 3 T.z_enumerate rfl ?_
        rw [fm_some]
        have e2 : (List.range (ns.length + 1)).map (fun j => I (Ln.tot (Ln.insAt (ns.map (Ln.bump c)) j c))) = (Ln.pts ns c).map I := by
          unfold Ln.pts
          rw [List.map_map]
          rfl
        rw [e2]
        have hpl := Ln.pts_len (ns := ns) (c := c)
        have hpn : Ln.pts ns c ≠ [] := fun z => by rw [z] at hpl; cases hpl
        generalize hP : Ln.pts ns c = P at hpl hpn ⊢
        have hq : q (.m (.lst ((Ln.minAt P).map I))) := by
          rw [← hP]
          exact hq
        refine ⟨noMu_of rfl, rfl, _, List.range P.length, fun i => .wt [I (i : Nat), I (P.getD i 0)], Sy.pick (fun i : Nat => decide (P.getD i 0 = Ln.lo P)) fun i : Nat => I ((i : Int) + 1), enumD_range, by rw [List.length_range]; omega, fun j hj => ?_, ?_⟩
        · have hj := List.mem_range.mp hj
          refine egb_two 5 6 (by decide) (by decide) (by intro _ _ h; cases h) (by intro _ _ h; cases h) (by decide) ?_ (.inr rfl) fun _ _ _ _ _ => pg_tup rfl (pgs_cons (pg_name (i := 5) nd rfl (by first | exact .inl rfl | exact .inr rfl)) (pgs_cons (pg_name (i := 6) nd rfl (by first | exact .inl rfl | exact .inr rfl)) pgs_nil))
          refine ebb_one fun s0 H0 C cl fp => ?_
          refine eb_cmp ?_
          refine ee_var 6 rfl ?_
          refine ee_minL T.z_min ?_
          refine el_slot 3 rfl ?_
          refine ⟨P, rfl, by omega, fun m hm1 hm2 => ?_⟩
          have e := Ln.lo_eq hm1 hm2
          subst e
          refine co_eq ?_
          refine ⟨_, rfl, ?_⟩
          refine ⟨fun h => ?_, fun h => ?_⟩
          · refine eeb fun s0 H0 C cl fp => ?_
            refine ee_bin ?_
            refine ee_var 5 rfl ?_
            refine ee_int ?_
            refine bo_add ?_
            exact ⟨pick_t h, noMu_of rfl, rfl⟩
          · exact ⟨pick_f h, noMu_of rfl, rfl⟩
        · skip
          rw [minAt_pick]
          exact hq
def fXBest (A B : Addr) : FSx := fun ds qx => ∃ (ns : List Int) (d : D), ds = [.tup (ns.map I), d] ∧ Ln.Ord ns ∧ okD d = true ∧ (intIn d 1 ((ns.length : Int) + 1) = false ∧ qx (.ref A) ∨ intIn d 1 ((ns.length : Int) + 1) = true ∧ ns.length = 30 ∧ qx (.ref B))
theorem okx_best_places (T : Top K mg) : FnOk P w K mg base (L2N.CX P w) (k + 4) T.f_best_places T.fd_best_places ["order", "car"] (spX K (fXBest T.C_InvalidCar T.C_TooMany)) := by
  refine fn_X (N := n_best_places) T.F_best_places sc_best_places (fun ds q h => ?_) (fun cdv A outer s H E hr W tk ds q h => ?_)
  · obtain ⟨ns, d, rfl, _⟩ := h
    rfl
  · obtain ⟨ns, d, rfl, ho, hok, hx⟩ := h
    have hml : (ns.map I).length = ns.length := List.length_map ..
    have nd := sc_best_places.nd
    have hu1 := hu_of hr
    have hu64 := hr.units
    refine sx_cons ?_
    refine s_expr ?_
    refine ee_call (ok_require_order T) hr T.g_require_order T.F_require_order.kp T.b_require_order pass0 ?_
    refine ed_cons ?_
    refine ee_var 0 rfl ?_
    refine ed_nil ?_
    refine ⟨ns, rfl, ho, ⟨_, rfl, ?_⟩⟩
    rcases hx with ⟨hin, hq⟩ | ⟨hin, h30, hq⟩
    · refine sx_one ?_
      refine sx_if ?_
      refine eb_not ?_
      refine eb_val ?_
      refine ee_call (ok_is_integer T) hr T.g_is_integer T.F_is_integer.kp T.b_is_integer pass0 ?_
      refine ed_cons ?_
      refine ee_var 1 rfl ?_
      refine ed_cons ?_
      refine ee_int ?_
      refine ed_cons ?_
      refine ee_bin ?_
      refine ee_lenT T.z_len ?_
      refine ee_var 0 rfl ?_
      refine ⟨_, rfl, ?_⟩
      refine ee_int ?_
      refine bo_add ?_
      refine ed_nil ?_
      rw [hml]
      refine ⟨_, _, _, rfl, hok, ⟨_, rfl, ?_⟩⟩
      rw [hin]
      refine ⟨_, rfl, ?_⟩
      refine ⟨fun _ => ?_, fun h => nomatch h⟩
      refine sx_one ?_
      refine sx_raise T.e_InvalidCar.t T.g_InvalidCar tk ?_
      exact hq
    · refine sx_cons ?_
      refine s_if ?_
      refine eb_not ?_
      refine eb_val ?_
      refine ee_call (ok_is_integer T) hr T.g_is_integer T.F_is_integer.kp T.b_is_integer pass0 ?_
      refine ed_cons ?_
      refine ee_var 1 rfl ?_
      refine ed_cons ?_
      refine ee_int ?_
      refine ed_cons ?_
      refine ee_bin ?_
      refine ee_lenT T.z_len ?_
      refine ee_var 0 rfl ?_
      refine ⟨_, rfl, ?_⟩
      refine ee_int ?_
      refine bo_add ?_
      refine ed_nil ?_
      rw [hml]
      refine ⟨_, _, _, rfl, hok, ⟨_, rfl, ?_⟩⟩
      rw [hin]
      refine ⟨_, rfl, ?_⟩
      refine ⟨fun h => (nomatch h), fun _ => ?_⟩
      refine ss_nil ?_
      refine sx_one ?_
      refine sx_if ?_
      refine eb_cmp ?_
      refine ee_lenT T.z_len ?_
      refine ee_var 0 rfl ?_
      refine ⟨_, rfl, ?_⟩
      refine ee_glob (v := .int 30) T.c_MAX_CARS ⟨_, rfl⟩ ?_
      refine co_eq ?_
      refine ⟨_, rfl, ?_⟩
      rw [hml]
      refine ⟨fun _ => ?_, fun h => absurd (of_decide_eq_false h) (by omega)⟩
      refine sx_one ?_
      refine sx_raise T.e_TooMany.t T.g_TooMany tk ?_
      exact hq

def fOutcome : FSp := fun ds q => ∃ (ns : List Int) (d : D) (z : Str), ds = [.tup (ns.map I), d] ∧ Ln.Ord ns ∧ okD d = true ∧ (intIn d 1 ((ns.length : Int) + 1) = false ∧ z = "car" ∨ intIn d 1 ((ns.length : Int) + 1) = true ∧ ns.length = 30 ∧ z = "many") ∧ q (.d (S_ z))
abbrev n__law_outcome : List Str := ["lane", "car", "e"]
theorem sc__law_outcome : FnScope n__law_outcome ["lane", "car"] (defScope s__law_outcome) := ⟨rfl, rfl, rfl, by decide +kernel, rfl, by decide +kernel, by decide +kernel⟩
theorem ok__law_outcome (T : Top K mg) : FnOk P w K mg base CX0 (k + 5) T.f__law_outcome T.fd__law_outcome ["lane", "car"] (spF K fOutcome) := by
  refine fn_F (N := n__law_outcome) T.F__law_outcome sc__law_outcome (fun ds q h => ?_) (fun cdv A outer s H E hr ds q h => ?_)
  · obtain ⟨ns, d, z, rfl, _⟩ := h
    rfl
  · obtain ⟨ns, d, z, rfl, ho, hok, hx, hq⟩ := h
    have nd := sc__law_outcome.nd
    have hu1 := hu_of hr
    have hu64 := hr.units
    refine ss_cons ?_
    rcases hx with ⟨hin, rfl⟩ | ⟨hin, h30, rfl⟩
    · refine s_outcome 2 (err_InvalidCar T) hr T.g__law_error_name T.F__law_error_name.kp T.b__law_error_name nd ⟨rfl, by decide, .inl T.g_LaneError⟩ T.e_InvalidCar.ex fun pn xe W tk => ?_
      refine sx_one ?_
      refine sx_call (okx_best_places T) hr T.g_best_places T.F_best_places.kp T.b_best_places tk ?_
      refine ed_cons ?_
      refine ee_var 0 rfl ?_
      refine ed_cons ?_
      refine ee_var 1 rfl ?_
      refine ed_nil ?_
      exact ⟨ns, d, rfl, ho, hok, .inl ⟨hin, rfl, Nat.le_of_ble_eq_true rfl, fun a => hq⟩⟩
    · refine s_outcome 2 (err_TooMany T) hr T.g__law_error_name T.F__law_error_name.kp T.b__law_error_name nd ⟨rfl, by decide, .inl T.g_LaneError⟩ T.e_TooMany.ex fun pn xe W tk => ?_
      refine sx_one ?_
      refine sx_call (okx_best_places T) hr T.g_best_places T.F_best_places.kp T.b_best_places tk ?_
      refine ed_cons ?_
      refine ee_var 0 rfl ?_
      refine ed_cons ?_
      refine ee_var 1 rfl ?_
      refine ed_nil ?_
      exact ⟨ns, d, rfl, ho, hok, .inr ⟨hin, h30, rfl, Nat.le_of_ble_eq_true rfl, fun a => hq⟩⟩

def fDue : FSp := fun ds q => ∃ (ns : List Int) (c : Int), ds = [.tup (ns.map I), I c] ∧ Ln.Ord ns ∧ ns.length < 30 ∧ 1 ≤ c ∧ c ≤ (ns.length : Int) + 1 ∧ q (.m (.lst ((Ln.bestL ns c).map I)))
abbrev n__law_due : List Str := ["lane", "car", "grown", "points", "at", "one"]
theorem sc__law_due : FnScope n__law_due ["lane", "car"] (defScope s__law_due) := ⟨rfl, rfl, rfl, by decide +kernel, rfl, by decide +kernel, by decide +kernel⟩
theorem ok__law_due (T : Top K mg) : FnOk P w K mg base CX0 (k + 3) T.f__law_due T.fd__law_due ["lane", "car"] (spF K fDue) := by
  refine fn_F (N := n__law_due) T.F__law_due sc__law_due (fun ds q h => ?_) (fun cdv A outer s H E hr ds q h => ?_)
  · obtain ⟨ns, c, rfl, _⟩ := h
    rfl
  · obtain ⟨ns, c, rfl, ho, h30, hc1, hc2, hq⟩ := h
    have hml : (ns.map I).length = ns.length := List.length_map ..
    have nd := sc__law_due.nd
    have hu1 := hu_of hr
    have hu64 := hr.units
    refine ss_cons ?_
    first | refine s_par 2 3 ?_ nd | refine s_parC 2 3 ?_ nd
    refine eu_d ?_
    refine ee_tupleL T.z_tuple ?_
    refine el_new ?_
    refine em_lcA (own := [("one", 5)]) (blkOk_by (show blkC n__law_due (defScope s__law_due) _ _ = true by decide +kernel)) nd ?_
    refine ei_tup ?_
    refine ee_var 0 rfl ?_
    refine ⟨_, rfl, ?_⟩
    refine ⟨noMu_of rfl, trivial, _, ns, I, fun x => some (I (Ln.bump c x)), rfl, by omega, fun x hx => ?_, ?_⟩
    · refine egb_name 5 (by decide) (by intro _ _ h; cases h) ?_ fun _ _ _ _ _ => pg_name (i := 5) nd rfl (by first | exact .inl rfl | exact .inr rfl)
      refine ebb_nil ?_
      refine ⟨fun _ => ?_, fun h => nomatch h⟩
      refine eeb fun s0 H0 C cl fp => ?_
      refine ee_if ?_
      refine eb_cmp ?_
      refine ee_var 5 rfl ?_
      refine ee_var 1 rfl ?_
      refine co_ge ?_
      refine ⟨_, rfl, ?_⟩
      refine ⟨fun h => ?_, fun h => ?_⟩
      · have h := of_decide_eq_true h
        refine ee_bin ?_
        refine ee_var 5 rfl ?_
        refine ee_int ?_
        refine bo_add ?_
        refine ⟨?_, noMu_of rfl, rfl⟩
        show some (I (if x ≥ c then x + 1 else x)) = _
        rw [if_pos (show x ≥ c from h)]
      · have h := of_decide_eq_false h
        refine ee_var 5 rfl ?_
        refine ⟨?_, noMu_of rfl, rfl⟩
        show some (I (if x ≥ c then x + 1 else x)) = _
        rw [if_neg (show ¬ x ≥ c from h)]
    · refine ⟨_, rfl, ?_⟩
      refine eu_m ?_
      refine em_lst ?_
      refine ed_nil ?_
      refine ⟨Nat.le_of_ble_eq_true rfl, ?_⟩
      refine eu_nil ?_
      refine ⟨Nat.le_of_ble_eq_true rfl, fun p_points => ?_⟩
      refine ss_cons ?_
      refine s_for ?_
      refine ei_rg1 T.z_range ?_
      refine ee_bin ?_
      refine ee_lenT T.z_len ?_
      refine ee_var 0 rfl ?_
      refine ⟨_, rfl, ?_⟩
      refine ee_int ?_
      refine bo_add ?_
      refine ⟨_, rfl, by first | omega | (simp only [List.length_map, List.length_append, List.length_cons, List.length_nil, List.length_reverse, List.length_dropLast, List.length_take, List.length_drop, List.length_range, List.length_replicate, Sy.rgS_len, Sy.rgD_len, Ln.downs_len, Ln.upto_len]; omega) | decide | assumption, by first | omega | (simp only [List.length_map, List.length_append, List.length_cons, List.length_nil, List.length_reverse, List.length_dropLast, List.length_take, List.length_drop, List.length_range, List.length_replicate, Sy.rgS_len, Sy.rgD_len, Ln.downs_len, Ln.upto_len]; omega) | decide | assumption, ?_⟩
      rw [fm_some]
      have e : ns.map (fun x => I (Ln.bump c x)) = (ns.map (Ln.bump c)).map I := by rw [List.map_map]; rfl
      have hgl : (ns.map (Ln.bump c)).length = ns.length := List.length_map ..
      rw [e, hml]
      have hsucc : ∀ j, (List.range (j + 1)).map (fun a => Ln.tot (Ln.insAt (ns.map (Ln.bump c)) a c)) = (List.range j).map (fun a => Ln.tot (Ln.insAt (ns.map (Ln.bump c)) a c)) ++ [Ln.tot (Ln.insAt (ns.map (Ln.bump c)) j c)] := fun j => Ln.range_map_succ _ j
      refine ⟨fun j e => ∃ (o4 : Option D) (d5 : Desc), e = [.dat (.tup (ns.map I)), .dat (I c), .dat (.tup ((ns.map (Ln.bump c)).map I)), .mu p_points (.lst (((List.range j).map fun a => Ln.tot (Ln.insAt (ns.map (Ln.bump c)) a c)).map I)), sl o4, d5], ⟨none, _, rfl⟩, fun _ _ _ => trivial, fun j d e hd hJ => ?_, fun e hJ => ?_⟩
      · obtain ⟨o4, d5, rfl⟩ := hJ
        obtain ⟨hj, rfl⟩ := rgD_at hd
        have k1 := cut_leI (ns := ns.map (Ln.bump c)) (l := none) (u := some ((0 : Int) + (j : Nat)))
        have k2 := cut_leI (ns := ns.map (Ln.bump c)) (l := some ((0 : Int) + (j : Nat))) (u := none)
        refine eg_name 4 ?_ nd
        refine ss_one ?_
        refine s_expr ?_
        refine ee_append 3 rfl ?_
        refine ee_sumT T.z_sum ?_
        refine ee_call (ok__law_row T) hr T.g__law_row T.F__law_row.kp T.b__law_row pass0 ?_
        refine ed_cons ?_
        refine ee_bin ?_
        refine ee_bin ?_
        refine ee_sliceT ?_
        refine ee_var 2 rfl ?_
        refine ⟨_, rfl, ?_⟩
        refine eo_none ?_
        refine eo_some ?_
        refine ee_var 4 rfl ?_
        refine ⟨_, rfl, ?_⟩
        refine ee_tup ?_
        refine ed_cons ?_
        refine ee_var 1 rfl ?_
        refine ed_nil ?_
        refine ⟨Nat.le_of_ble_eq_true rfl, ?_⟩
        refine bo_cat (by first | omega | (simp only [List.length_map, List.length_append, List.length_cons, List.length_nil, List.length_reverse, List.length_dropLast, List.length_take, List.length_drop, List.length_range, List.length_replicate, Sy.rgS_len, Sy.rgD_len, Ln.downs_len, Ln.upto_len]; omega) | decide | assumption) ?_
        refine ee_sliceT ?_
        refine ee_var 2 rfl ?_
        refine ⟨_, rfl, ?_⟩
        refine eo_some ?_
        refine ee_var 4 rfl ?_
        refine ⟨_, rfl, ?_⟩
        refine eo_none ?_
        refine bo_cat (by first | omega | (simp only [List.length_map, List.length_append, List.length_cons, List.length_nil, List.length_reverse, List.length_dropLast, List.length_take, List.length_drop, List.length_range, List.length_replicate, Sy.rgS_len, Sy.rgD_len, Ln.downs_len, Ln.upto_len]; omega) | decide | assumption) ?_
        refine ed_cons ?_
        refine ee_str ?_
        refine ed_nil ?_
        rw [ins_ints (j := j) (Int.zero_add _)]
        have hio := Ln.insAt_ord ho h30 hc1 hc2 (a := j) (by omega)
        refine ⟨_, .srt, rfl, ord_len hio, Ln.ord_nodup hio, ⟨_, rfl, ?_⟩⟩
        refine ⟨_, rfl, ?_⟩
        refine ⟨_, rfl, by first | omega | (simp only [List.length_map, List.length_append, List.length_cons, List.length_nil, List.length_reverse, List.length_dropLast, List.length_take, List.length_drop, List.length_range, List.length_replicate, Sy.rgS_len, Sy.rgD_len, Ln.downs_len, Ln.upto_len]; omega) | decide | assumption, ?_⟩
        refine ⟨some (I (0 + (j : Nat))), d5, ?_⟩
        rw [hsucc, List.map_append]
        rfl
      · obtain ⟨o4, d5, rfl⟩ := hJ
        have el : (rgD 0 ((ns.length : Int) + 1)).length = ns.length + 1 := by rw [rgD_len]; omega
        have hpl := Ln.pts_len (ns := ns) (c := c)
        have hpn : Ln.pts ns c ≠ [] := fun z => by rw [z] at hpl; cases hpl
        rw [el, show (List.range (ns.length + 1)).map (fun a => Ln.tot (Ln.insAt (ns.map (Ln.bump c)) a c)) = Ln.pts ns c from rfl]
        have hq : q (.m (.lst ((Ln.minAt (Ln.pts ns c)).map I))) := hq
        generalize Ln.pts ns c = P at hpl hpn hq ⊢
        refine ss_one ?_
        refine s_retM ?_
        refine em_lcA (own := [("at", 4)]) (blkOk_by (by rfl)) nd ?_
        refine ei_rg1 T.z_range ?_
        refine ee_lenL T.z_len ?_
        refine el_slot 3 rfl ?_
        refine ⟨_, rfl, by first | omega | (simp only [List.length_map, List.length_append, List.length_cons, List.length_nil, List.length_reverse, List.length_dropLast, List.length_take, List.length_drop, List.length_range, List.length_replicate, Sy.rgS_len, Sy.rgD_len, Ln.downs_len, Ln.upto_len]; omega) | decide | assumption, by first | omega | (simp only [List.length_map, List.length_append, List.length_cons, List.length_nil, List.length_reverse, List.length_dropLast, List.length_take, List.length_drop, List.length_range, List.length_replicate, Sy.rgS_len, Sy.rgD_len, Ln.downs_len, Ln.upto_len]; omega) | decide | assumption, ?_⟩
        refine ⟨noMu_of (by cases o4 <;> rfl), trivial, _, List.range P.length, fun i => I (0 + (i : Nat)), Sy.pick (fun i : Nat => decide (P.getD i 0 = Ln.lo P)) fun i : Nat => I ((i : Int) + 1), ?_, by rw [List.length_range]; omega, fun j hj => ?_, ?_⟩
        · unfold rgD
          rw [Int.sub_zero, List.length_map, Int.toNat_natCast]
        · have hj := List.mem_range.mp hj
          have eg : P.getD j 0 = P[j] := by rw [List.getD_eq_getElem?_getD, List.getElem?_eq_getElem hj]; rfl
          refine egb_name 4 (by decide) (by intro _ _ h; cases h) ?_ fun _ _ _ _ _ => pg_name (i := 4) nd rfl (by first | exact .inl rfl | exact .inr rfl)
          refine ebb_one fun s0 H0 C cl fp => ?_
          refine eb_cmp ?_
          refine ee_ixX 3 rfl ?_
          refine ee_var 4 rfl ?_
          refine ⟨_, _, _, rfl, rfl, atI_pos (by omega) (by rw [List.getElem?_map, show ((0 : Int) + (j : Nat)).toNat = j from by omega, List.getElem?_eq_getElem hj]; rfl), ?_⟩
          refine ee_minL T.z_min ?_
          refine el_slot 3 rfl ?_
          refine ⟨P, rfl, by omega, fun m hm1 hm2 => ?_⟩
          have e := Ln.lo_eq hm1 hm2
          subst e
          refine co_eq ?_
          refine ⟨_, rfl, ?_⟩
          rw [← eg]
          refine ⟨fun h => ?_, fun h => ?_⟩
          · refine eeb fun s0 H0 C cl fp => ?_
            refine ee_bin ?_
            refine ee_var 4 rfl ?_
            refine ee_int ?_
            refine bo_add ?_
            refine ⟨?_, noMu_of rfl, rfl⟩
            rw [Int.zero_add]
            exact pick_t h
          · exact ⟨pick_f h, noMu_of rfl, rfl⟩
        · skip
          rw [minAt_pick]
          exact hq

theorem Ln.ord35142 : Ln.Ord [3, 5, 1, 4, 2] := ⟨by decide, by decide, by decide +kernel⟩
theorem Ln.ord_upto30 : Ln.Ord (Ln.upto 30) := ⟨by decide, by decide, List.Perm.refl _⟩
theorem strs_eqk : (S_ "car").eqk := show PyData.strOk "car" = true by decide +kernel
theorem strs_eqk2 : (S_ "many").eqk := show PyData.strOk "many" = true by decide +kernel
abbrev n_law : List Str := ["script", "k", "source", "lane", "car", "found", "odd", "full", "turn"]
theorem sc_law : FnScope n_law ["script"] (defScope s_law) := ⟨rfl, rfl, rfl, by decide +kernel, rfl, by decide +kernel, by decide +kernel⟩
theorem ok_law (T : Top K mg) : FnOk P w K mg base CX0 (k + 6) T.f_law T.fd_law ["script"] (spF K fLawT) := by
  refine fn_F (N := n_law) T.F_law sc_law (fun ds q h => ?_) (fun cdv A outer s H E hr ds q h => ?_)
  · obtain ⟨ns, rfl, _⟩ := h
    rfl
  · obtain ⟨ns, rfl, hlen, hq⟩ := h
    have nd := sc_law.nd
    have hu1 := hu_of hr
    have hu64 := hr.units
    refine ss_cons ?_
    refine s_for ?_
    refine ei_rg1 T.z_range ?_
    refine ee_max2 T.z_max ?_
    refine ed_cons ?_
    refine ee_int ?_
    refine ed_cons ?_
    refine ee_min2 T.z_min ?_
    refine ed_cons ?_
    refine ee_int ?_
    refine ed_cons ?_
    refine ee_lenL T.z_len ?_
    refine el_dat ?_
    refine ee_var 0 rfl ?_
    refine ⟨_, rfl, ?_⟩
    refine ed_nil ?_
    refine ⟨_, _, rfl, ?_⟩
    refine ed_nil ?_
    refine ⟨_, _, rfl, ?_⟩
    rw [List.length_map]
    obtain ⟨t, ht, et⟩ := turns_of (n := ns.length) (a := 20) (b := 5) (by decide) (by decide)
    rw [et]
    refine ⟨_, rfl, by omega, by omega, ?_⟩
    refine ⟨fun i e => ∃ (d1 d2 d3 : Desc) (o4 : Option D) (d5 d6 d7 : Desc) (o8 : Option D), e = [.dat (.lst (ns.map I)), d1, d2, d3, sl o4, d5, d6, d7, sl o8], ⟨_, _, _, none, _, _, _, none, rfl⟩, fun _ _ _ => trivial, fun i d e hd hI => ?_, fun e hI => ?_⟩
    · obtain ⟨d1, d2, d3, o4, d5, d6, d7, o8, rfl⟩ := hI
      obtain ⟨hi, rfl⟩ := rgD_at hd
      refine eg_name 1 ?_ nd
      refine ss_cons ?_
      refine s_setM 2 ?_ nd
      refine em_call (ok__law_source T) hr T.g__law_source T.F__law_source.kp T.b__law_source pass0 ?_
      refine ed_cons ?_
      refine ee_var 0 rfl ?_
      refine ed_cons ?_
      refine ee_var 1 rfl ?_
      refine ed_nil ?_
      refine use_source hlen (by omega) (by omega) fun a b c hc0 hc1 => ⟨_, rfl, ?_⟩
      refine ⟨Nat.le_of_ble_eq_true rfl, fun p_source => ?_⟩
      refine ss_cons ?_
      refine s_set 3 ?_ nd
      refine ee_callS 2 (ok__law_lane T) hr T.g__law_lane T.F__law_lane.kp T.b__law_lane pass0 rfl ?_
      refine ed_cons ?_
      refine ee_ix ?_
      refine ee_new ?_
      refine em_lst ?_
      refine ed_cons ?_
      refine ee_int ?_
      refine ed_cons ?_
      refine ee_int ?_
      refine ed_nil ?_
      refine ⟨Nat.le_of_ble_eq_true rfl, ?_⟩
      refine ee_callS 2 (ok__law_pick T) hr T.g__law_pick T.F__law_pick.kp T.b__law_pick pass0 rfl ?_
      refine ed_cons ?_
      refine ee_int ?_
      refine ed_nil ?_
      refine ⟨_, rfl, ?_⟩
      refine ⟨_, _, _, _, rfl, rfl, ⟨hc0, hc1⟩, ⟨by omega, by omega⟩, fun r0 a b h0 h1 => ⟨_, rfl, ?_⟩⟩
      obtain ⟨mo, hmo, hm0, hm1⟩ : ∃ mo : Int, atI [I 6, I 29] r0 = some (I mo) ∧ 0 < mo ∧ mo ≤ 29 := by
        have h2 : r0 = 0 ∨ r0 = 1 := by omega
        rcases h2 with rfl | rfl
        · exact ⟨6, rfl, by decide, by decide⟩
        · exact ⟨29, rfl, by decide, by decide⟩
      refine ⟨_, _, _, .inr rfl, rfl, hmo, ?_⟩
      refine ed_nil ?_
      refine ⟨_, rfl, ?_⟩
      refine use_lane ⟨hc0, hc1⟩ hm0 (by omega) fun cs a b hl ho => ⟨_, rfl, ?_⟩
      have hcl : cs.length ≤ 29 := by omega
      have hml : (cs.map I).length = cs.length := List.length_map ..
      refine ss_cons ?_
      refine s_for ?_
      refine ei_list ?_
      refine ee_new ?_
      refine em_sstL T.z_sorted T.z_set ?_
      refine el_new ?_
      refine em_cat ?_
      refine ee_new ?_
      refine em_lst ?_
      refine ed_cons ?_
      refine ee_int ?_
      refine ed_cons ?_
      refine ee_bin ?_
      refine ee_lenT T.z_len ?_
      refine ee_var 3 rfl ?_
      refine ⟨_, rfl, ?_⟩
      refine ee_int ?_
      refine bo_add ?_
      refine ed_nil ?_
      refine ⟨Nat.le_of_ble_eq_true rfl, ?_⟩
      refine ee_new ?_
      refine em_lc (own := [("turn", 8)]) (blkOk_by (show blkC n_law (defScope s_law) _ _ = true by decide +kernel)) nd ?_
      refine ei_rg1 T.z_range ?_
      refine ee_int ?_
      refine ⟨_, rfl, by first | omega | (simp only [List.length_map, List.length_append, List.length_cons, List.length_nil, List.length_reverse, List.length_dropLast, List.length_take, List.length_drop, List.length_range, List.length_replicate, Sy.rgS_len, Sy.rgD_len, Ln.downs_len, Ln.upto_len]; omega) | decide | assumption, by first | omega | (simp only [List.length_map, List.length_append, List.length_cons, List.length_nil, List.length_reverse, List.length_dropLast, List.length_take, List.length_drop, List.length_range, List.length_replicate, Sy.rgS_len, Sy.rgD_len, Ln.downs_len, Ln.upto_len]; omega) | decide | assumption, ?_⟩
      refine ⟨noMu_of (by cases o8 <;> rfl), fun j acc e => ∃ (a b : Int) (vs : List Int), e = [.dat (.lst (ns.map I)), .dat (I (0 + (i : Nat))), .mu p_source (.lst [I a, I b, I c]), .dat (.tup (cs.map I)), sl o4, d5, d6, d7, .un] ∧ acc = vs.map I ∧ vs.length = j ∧ ∀ v, v ∈ vs → 1 ≤ v ∧ v ≤ (cs.length : Int) + 1, ⟨_, _, [], rfl, rfl, rfl, fun v hv => nomatch hv⟩, fun j acc e hI => ?_, Nat.le_of_ble_eq_true rfl, fun j d acc e hd hI => ?_, fun acc e hI => ?_⟩
      · obtain ⟨a, b, vs, rfl, rfl, hvl, _⟩ := hI
        exact ⟨trivial, by rw [List.length_map]; omega, noMu_of rfl⟩
      · obtain ⟨a, b, vs, rfl, rfl, hvl, hvb⟩ := hI
        obtain ⟨hj, rfl⟩ := rgD_at hd
        refine egb_name 8 (by decide) (by intro _ _ h; cases h) ?_ fun _ _ _ _ _ => pg_name (i := 8) nd rfl (by first | exact .inl rfl | exact .inr rfl)
        refine ebb_nil ?_
        refine ⟨fun _ => ?_, fun h => nomatch h⟩
        refine eeb fun s0 H0 C cl fp => ?_
        refine ee_bin ?_
        refine ee_int ?_
        refine ee_callS 2 (ok__law_pick T) hr T.g__law_pick T.F__law_pick.kp T.b__law_pick pass0 rfl ?_
        refine ed_cons ?_
        refine ee_bin ?_
        refine ee_lenT T.z_len ?_
        refine ee_var 3 rfl ?_
        refine ⟨_, rfl, ?_⟩
        refine ee_int ?_
        refine bo_add ?_
        refine ed_nil ?_
        refine ⟨_, rfl, ?_⟩
        rw [hml]
        refine ⟨_, _, _, _, rfl, rfl, ⟨hc0, hc1⟩, ⟨by omega, by omega⟩, fun r1 a b h0 h1 => ⟨_, rfl, ?_⟩⟩
        refine bo_add ?_
        refine ⟨noMu_of rfl, a, b, vs ++ [1 + r1], rfl, by rw [List.map_append]; rfl, by rw [List.length_append, hvl]; rfl, fun v hv => ?_⟩
        rcases List.mem_append.mp hv with h | h
        · exact hvb v h
        · rw [List.mem_singleton.mp h]
          omega
      · obtain ⟨a, b, vs, rfl, rfl, hvl, hvb⟩ := hI
        have hvl : vs.length = 4 := hvl
        rw [hml]
        refine ⟨_, _, rfl, rfl, by rw [List.length_map, hvl]; exact Nat.le_of_ble_eq_true rfl, ?_⟩
        refine ⟨_, rfl, ?_⟩
        refine ⟨1 :: ((cs.length : Int) + 1) :: vs, rfl, by rw [List.length_cons, List.length_cons, hvl]; decide, fun out _ hout => ?_⟩
        refine ⟨_, rfl, ?_⟩
        have hob : ∀ v, v ∈ out → 1 ≤ v ∧ v ≤ (cs.length : Int) + 1 := fun v hv => by
          have h := (hout v).mp hv
          simp only [List.mem_cons] at h
          rcases h with rfl | rfl | h
          · omega
          · omega
          · exact hvb v h
        refine ⟨fun j e => ∃ (o4 : Option D) (e5 e6 e7 : Desc), e = [.dat (.lst (ns.map I)), .dat (I (0 + (i : Nat))), .mu p_source (.lst [I a, I b, I c]), .dat (.tup (cs.map I)), sl o4, e5, e6, e7, .un], ⟨_, _, _, _, rfl⟩, fun _ _ _ => trivial, fun j d e hd hJ => ?_, fun e hJ => ?_⟩
        · obtain ⟨o4, e5, e6, e7, rfl⟩ := hJ
          have hd := hd
          rw [List.getElem?_map] at hd
          cases hv : out[j]? with
          | none => rw [hv] at hd; cases hd
          | some v =>
          rw [hv] at hd
          have hd := Option.some.inj hd
          subst hd
          obtain ⟨hv1, hv2⟩ := hob v (List.mem_of_getElem? hv)
          refine eg_name 4 ?_ nd
          refine ss_cons ?_
          refine s_setM 5 ?_ nd
          refine em_call (ok_best_places T) hr T.g_best_places T.F_best_places.kp T.b_best_places pass0 ?_
          refine ed_cons ?_
          refine ee_var 3 rfl ?_
          refine ed_cons ?_
          refine ee_var 4 rfl ?_
          refine ed_nil ?_
          refine ⟨cs, v, rfl, ho, by omega, hv1, hv2, ⟨_, rfl, ?_⟩⟩
          refine ⟨Nat.le_of_ble_eq_true rfl, fun p_found => ?_⟩
          refine ss_cons ?_
          refine s_if ?_
          refine eb_neX 5 hu64 rfl ?_
          refine ee_new ?_
          refine em_call (ok__law_due T) hr T.g__law_due T.F__law_due.kp T.b__law_due pass0 ?_
          refine ed_cons ?_
          refine ee_var 3 rfl ?_
          refine ed_cons ?_
          refine ee_var 4 rfl ?_
          refine ed_nil ?_
          refine ⟨cs, v, rfl, ho, by omega, hv1, hv2, ⟨_, rfl, ?_⟩⟩
          refine ⟨_, rfl, eqkA_ints _, eqkA_ints _, dep_ints _, dep_ints _, fun b hb => ?_⟩
          have hb := b_false hb rfl
          subst hb
          have hbl := Ln.minAt_len (ps := Ln.pts cs v)
          rw [Ln.pts_len] at hbl
          have hbl : (Ln.bestL cs v).length ≤ cs.length + 1 := hbl
          refine ⟨fun h => (nomatch h), fun _ => ?_⟩
          refine ss_nil ?_
          refine ss_cons ?_
          refine s_expr ?_
          refine ee_append 5 rfl ?_
          refine ee_non ?_
          refine ⟨_, rfl, by first | omega | (simp only [List.length_map, List.length_append, List.length_cons, List.length_nil, List.length_reverse, List.length_dropLast, List.length_take, List.length_drop, List.length_range, List.length_replicate, Sy.rgS_len, Sy.rgD_len, Ln.downs_len, Ln.upto_len]; omega) | decide | assumption, ?_⟩
          refine ss_one ?_
          refine s_if ?_
          refine eb_cmp ?_
          refine ee_new ?_
          refine em_call (ok_best_places T) hr T.g_best_places T.F_best_places.kp T.b_best_places pass0 ?_
          refine ed_cons ?_
          refine ee_var 3 rfl ?_
          refine ed_cons ?_
          refine ee_var 4 rfl ?_
          refine ed_nil ?_
          refine ⟨cs, v, rfl, ho, by omega, hv1, hv2, ⟨_, rfl, ?_⟩⟩
          refine ee_new ?_
          refine em_sliceX 5 rfl ?_
          refine eo_none ?_
          refine eo_some ?_
          refine ee_neg (i := 0) ?_
          refine ee_int ?_
          refine ⟨_, rfl, ?_⟩
          refine ⟨_, rfl, ?_⟩
          refine ⟨_, rfl, ?_⟩
          rw [cut_init]
          refine co_neD hu64 (eqkA_ints _) (eqkA_ints _) (dep_ints _) (dep_ints _) fun b hb => ?_
          have hb := b_false hb rfl
          subst hb
          refine ⟨_, rfl, ?_⟩
          refine ⟨fun h => (nomatch h), fun _ => ?_⟩
          refine ss_nil ?_
          exact ⟨some _, _, _, _, rfl⟩
        · obtain ⟨o4, e5, e6, e7, rfl⟩ := hJ
          refine ss_cons ?_
          refine s_for ?_
          refine ei_list ?_
          refine ee_new ?_
          refine em_lst ?_
          refine ed_cons ?_
          refine ee_int ?_
          refine ed_cons ?_
          refine ee_bin ?_
          refine ee_lenT T.z_len ?_
          refine ee_var 3 rfl ?_
          refine ⟨_, rfl, ?_⟩
          refine ee_int ?_
          refine bo_add ?_
          refine ed_cons ?_
          refine ee_non ?_
          refine ed_cons ?_
          refine ee_bl ?_
          refine ed_cons ?_
          refine ee_str ?_
          refine ed_nil ?_
          refine ⟨Nat.le_of_ble_eq_true rfl, ?_⟩
          refine ⟨_, rfl, ?_⟩
          rw [hml]
          refine ⟨fun j e => ∃ (f5 f6 f7 : Desc), e = [.dat (.lst (ns.map I)), .dat (I (0 + (i : Nat))), .mu p_source (.lst [I a, I b, I c]), .dat (.tup (cs.map I)), sl o4, f5, f6, f7, .un], ⟨_, _, _, rfl⟩, fun _ _ _ => trivial, fun j d e hd hJ => ?_, fun e hJ => ?_⟩
          · obtain ⟨f5, f6, f7, rfl⟩ := hJ
            have hodd : okD d = true ∧ intIn d 1 ((cs.length : Int) + 1) = false := by
              have hm := List.mem_of_getElem? hd
              simp only [List.mem_cons, List.not_mem_nil, or_false] at hm
              rcases hm with rfl | rfl | rfl | rfl | rfl
              · exact ⟨rfl, rfl⟩
              · exact ⟨rfl, Bool.and_eq_false_iff.mpr (.inr (decide_eq_false (by omega)))⟩
              · exact ⟨rfl, rfl⟩
              · exact ⟨rfl, rfl⟩
              · exact ⟨rfl, rfl⟩
            refine eg_name 6 ?_ nd
            refine ss_one ?_
            refine s_if ?_
            refine eb_cmp ?_
            refine ee_call (ok__law_outcome T) hr T.g__law_outcome T.F__law_outcome.kp T.b__law_outcome pass0 ?_
            refine ed_cons ?_
            refine ee_var 3 rfl ?_
            refine ed_cons ?_
            refine ee_var 6 rfl ?_
            refine ed_nil ?_
            refine ⟨cs, d, _, rfl, ho, hodd.1, .inl ⟨hodd.2, rfl⟩, ⟨_, rfl, ?_⟩⟩
            refine ee_str ?_
            refine co_neS rfl ?_
            refine ⟨_, rfl, ?_⟩
            refine ⟨fun h => (by simp at h), fun _ => ?_⟩
            refine ss_nil ?_
            exact ⟨_, _, _, rfl⟩
          · obtain ⟨f5, f6, f7, rfl⟩ := hJ
            refine ss_cons ?_
            refine s_set 7 ?_ nd
            refine ee_tupR2 T.z_tuple T.z_range ?_
            refine ee_int ?_
            refine ee_int ?_
            refine ⟨_, _, rfl, rfl, by first | exact ⟨by omega, by omega, by omega, by omega, by omega⟩ | (simp only [List.length_map, List.length_append, List.length_cons, List.length_nil, List.length_reverse, List.length_dropLast, List.length_take, List.length_drop, List.length_range, List.length_replicate, Sy.rgS_len, Sy.rgD_len, Ln.downs_len, Ln.upto_len]; exact ⟨by omega, by omega, by omega, by omega, by omega⟩) | assumption, ?_⟩
            refine ss_one ?_
            refine s_if ?_
            refine eb_cmp ?_
            refine ee_new ?_
            refine em_lcA (own := [("car", 4)]) (blkOk_by (show blkC n_law (defScope s_law) _ _ = true by decide +kernel)) nd ?_
            refine ei_list ?_
            refine ee_new ?_
            refine em_lst ?_
            refine ed_cons ?_
            refine ee_int ?_
            refine ed_cons ?_
            refine ee_int ?_
            refine ed_cons ?_
            refine ee_int ?_
            refine ed_nil ?_
            refine ⟨Nat.le_of_ble_eq_true rfl, ?_⟩
            refine ⟨_, rfl, ?_⟩
            rw [show rgD 1 31 = (Ln.upto 30).map I from rgD_upto 30]
            refine ⟨noMu_of (by cases o4 <;> rfl), trivial, _, [32, 31, 1], I, fun x : Int => some (S_ (if x = 32 then "car" else "many")), rfl, Nat.le_of_ble_eq_true rfl, fun x hx => ?_, ?_⟩
            · have hsp : intIn (I x) 1 (((Ln.upto 30).length : Int) + 1) = false ∧ (if x = 32 then ("car" : Str) else "many") = "car" ∨ intIn (I x) 1 (((Ln.upto 30).length : Int) + 1) = true ∧ (Ln.upto 30).length = 30 ∧ (if x = 32 then ("car" : Str) else "many") = "many" := by
                simp only [List.mem_cons, List.not_mem_nil, or_false] at hx
                rcases hx with rfl | rfl | rfl
                · exact .inl ⟨rfl, rfl⟩
                · exact .inr ⟨rfl, rfl, rfl⟩
                · exact .inr ⟨rfl, rfl, rfl⟩
              refine egb_name 4 (by decide) (by intro _ _ h; cases h) ?_ fun _ _ _ _ _ => pg_name (i := 4) nd rfl (by first | exact .inl rfl | exact .inr rfl)
              refine ebb_nil ?_
              refine ⟨fun _ => ?_, fun h => nomatch h⟩
              refine eeb fun s0 H0 C cl fp => ?_
              refine ee_call (ok__law_outcome T) hr T.g__law_outcome T.F__law_outcome.kp T.b__law_outcome pass0 ?_
              refine ed_cons ?_
              refine ee_var 7 rfl ?_
              refine ed_cons ?_
              refine ee_var 4 rfl ?_
              refine ed_nil ?_
              refine ⟨Ln.upto 30, I x, _, rfl, Ln.ord_upto30, rfl, hsp, ⟨_, rfl, ?_⟩⟩
              exact ⟨rfl, noMu_of rfl, rfl⟩
            · refine ee_new ?_
              refine em_lst ?_
              refine ed_cons ?_
              refine ee_str ?_
              refine ed_cons ?_
              refine ee_str ?_
              refine ed_cons ?_
              refine ee_str ?_
              refine ed_nil ?_
              refine ⟨Nat.le_of_ble_eq_true rfl, ?_⟩
              rw [fm_some]
              refine co_neD hu64 ⟨strs_eqk, strs_eqk2, strs_eqk2, trivial⟩ ⟨strs_eqk, strs_eqk2, strs_eqk2, trivial⟩ (Nat.le_of_ble_eq_true rfl) (Nat.le_of_ble_eq_true rfl) fun b hb => ?_
              have hb := b_false hb rfl
              subst hb
              refine ⟨_, rfl, ?_⟩
              refine ⟨fun h => (nomatch h), fun _ => ?_⟩
              refine ss_nil ?_
              exact ⟨_, _, _, none, _, _, _, none, rfl⟩
    · obtain ⟨d1, d2, d3, o4, d5, d6, d7, o8, rfl⟩ := hI
      refine ss_one ?_
      refine s_ret ?_
      refine ee_cmp ?_
      refine ee_new ?_
      refine em_lcA (own := [("car", 4)]) (blkOk_by (show blkC n_law (defScope s_law) _ _ = true by decide +kernel)) nd ?_
      refine ei_tup ?_
      refine ee_tup ?_
      refine ed_cons ?_
      refine ee_int ?_
      refine ed_cons ?_
      refine ee_int ?_
      refine ed_nil ?_
      refine ⟨Nat.le_of_ble_eq_true rfl, ?_⟩
      refine ⟨_, rfl, ?_⟩
      refine ⟨noMu_of (by cases o4 <;> rfl), trivial, _, [1, 6], I, fun x : Int => some (.lst ((Ln.bestL [3, 5, 1, 4, 2] x).map I)), rfl, Nat.le_of_ble_eq_true rfl, fun x hx => ?_, ?_⟩
      · have hx : x = 1 ∨ x = 6 := by
          simp only [List.mem_cons, List.not_mem_nil, or_false] at hx
          exact hx
        refine egb_name 4 (by decide) (by intro _ _ h; cases h) ?_ fun _ _ _ _ _ => pg_name (i := 4) nd rfl (by first | exact .inl rfl | exact .inr rfl)
        refine ebb_nil ?_
        refine ⟨fun _ => ?_, fun h => nomatch h⟩
        refine eeb fun s0 H0 C cl fp => ?_
        refine ee_new ?_
        refine em_call (ok_best_places T) hr T.g_best_places T.F_best_places.kp T.b_best_places pass0 ?_
        refine ed_cons ?_
        refine ee_tup ?_
        refine ed_cons ?_
        refine ee_int ?_
        refine ed_cons ?_
        refine ee_int ?_
        refine ed_cons ?_
        refine ee_int ?_
        refine ed_cons ?_
        refine ee_int ?_
        refine ed_cons ?_
        refine ee_int ?_
        refine ed_nil ?_
        refine ⟨Nat.le_of_ble_eq_true rfl, ?_⟩
        refine ed_cons ?_
        refine ee_var 4 rfl ?_
        refine ed_nil ?_
        refine ⟨[3, 5, 1, 4, 2], x, rfl, Ln.ord35142, by decide, by omega, by show x ≤ 5 + 1; omega, ⟨_, rfl, ?_⟩⟩
        exact ⟨rfl, noMu_of rfl, rfl⟩
      · refine ee_new ?_
        refine em_lst ?_
        refine ed_cons ?_
        refine ee_new ?_
        refine em_lst ?_
        refine ed_cons ?_
        refine ee_int ?_
        refine ed_nil ?_
        refine ⟨Nat.le_of_ble_eq_true rfl, ?_⟩
        refine ed_cons ?_
        refine ee_new ?_
        refine em_lst ?_
        refine ed_cons ?_
        refine ee_int ?_
        refine ed_nil ?_
        refine ⟨Nat.le_of_ble_eq_true rfl, ?_⟩
        refine ed_nil ?_
        refine ⟨Nat.le_of_ble_eq_true rfl, ?_⟩
        rw [fm_some]
        have e1 : Ln.bestL [3, 5, 1, 4, 2] 1 = [6] := by rw [Ln.best_alt Ln.ord35142 (by decide) (by decide) (by decide)]; decide +kernel
        have e2 : Ln.bestL [3, 5, 1, 4, 2] 6 = [1] := by rw [Ln.best_alt Ln.ord35142 (by decide) (by decide) (by decide)]; decide +kernel
        rw [List.map_cons, List.map_cons, List.map_nil, e1, e2]
        refine co_eqD hu64 ⟨⟨trivial, trivial⟩, ⟨trivial, trivial⟩, trivial⟩ ⟨⟨trivial, trivial⟩, ⟨trivial, trivial⟩, trivial⟩ (Nat.le_of_ble_eq_true rfl) (Nat.le_of_ble_eq_true rfl) fun b hb => ?_
        obtain rfl : b = true := hb.mpr rfl
        exact hq

end
theorem all_mk {l : PySem.W.OpenLaw} {w : World} {K : PySem.W.Frag} {h : Heap} {mg : Str → Option Value} {fa : Addr} (X : K.In h) (G : h.Ns mainGlobals mg) (hfa : mg "law" = some (.ref fa))
    {od0 an0 : Option Addr} {sl0 : Array (Option Value)} {oc0 kV0 dc0 pm0 cd0 ct0 : Value} {f0 : Addr}
    {od1 an1 : Option Addr} {sl1 : Array (Option Value)} {oc1 kV1 dc1 pm1 cd1 ct1 : Value} {f1 : Addr}
    {od2 an2 : Option Addr} {sl2 : Array (Option Value)} {oc2 kV2 dc2 pm2 cd2 ct2 : Value} {f2 : Addr}
    {od3 an3 : Option Addr} {sl3 : Array (Option Value)} {oc3 kV3 dc3 pm3 cd3 ct3 : Value} {f3 : Addr}
    {od4 an4 : Option Addr} {sl4 : Array (Option Value)} {oc4 kV4 dc4 pm4 cd4 ct4 : Value} {f4 : Addr}
    {od5 an5 : Option Addr} {sl5 : Array (Option Value)} {oc5 kV5 dc5 pm5 cd5 ct5 : Value} {f5 : Addr}
    {od6 an6 : Option Addr} {sl6 : Array (Option Value)} {oc6 kV6 dc6 pm6 cd6 ct6 : Value} {f6 : Addr}
    {od7 an7 : Option Addr} {sl7 : Array (Option Value)} {oc7 kV7 dc7 pm7 cd7 ct7 : Value} {f7 : Addr}
    {od8 an8 : Option Addr} {sl8 : Array (Option Value)} {oc8 kV8 dc8 pm8 cd8 ct8 : Value} {f8 : Addr}
    {od9 an9 : Option Addr} {sl9 : Array (Option Value)} {oc9 kV9 dc9 pm9 cd9 ct9 : Value} {f9 : Addr}
    {od10 an10 : Option Addr} {sl10 : Array (Option Value)} {oc10 kV10 dc10 pm10 cd10 ct10 : Value} {f10 : Addr}
    {od11 an11 : Option Addr} {sl11 : Array (Option Value)} {oc11 kV11 dc11 pm11 cd11 ct11 : Value} {f11 : Addr}
    {od12 an12 : Option Addr} {sl12 : Array (Option Value)} {oc12 kV12 dc12 pm12 cd12 ct12 : Value} {f12 : Addr}
    {od13 an13 : Option Addr} {sl13 : Array (Option Value)} {oc13 kV13 dc13 pm13 cd13 ct13 : Value} {f13 : Addr}
    {od14 an14 : Option Addr} {sl14 : Array (Option Value)} {oc14 kV14 dc14 pm14 cd14 ct14 : Value} {f14 : Addr}
    {C_InvalidOrder C_InvalidRule C_InvalidNumber C_InvalidRow C_InvalidCar C_TooMany C_LaneEmpty C_NothingToUndo C_LaneError : Addr}
    {k_MAX_CARS : Tok}
    (a0 : PySem.W.nsIn K mainGlobals "is_integer" = some (some (.ref f0))) (l0 : K.lookup f0 = some ⟨oc0, od0, .func (PySem.W.fnOf "is_integer" "is_integer" (defArgs s_is_integer) (defBody s_is_integer) (defScope s_is_integer) .none kV0 dc0 pm0 an0 cd0 ct0), sl0⟩) (c0 : PySem.W.codeIn K cd0 "is_integer" = true) (k0 : PySem.W.keepIn K (.ref f0) = true)
    (a1 : PySem.W.nsIn K mainGlobals "is_order" = some (some (.ref f1))) (l1 : K.lookup f1 = some ⟨oc1, od1, .func (PySem.W.fnOf "is_order" "is_order" (defArgs s_is_order) (defBody s_is_order) (defScope s_is_order) .none kV1 dc1 pm1 an1 cd1 ct1), sl1⟩) (c1 : PySem.W.codeIn K cd1 "is_order" = true) (k1 : PySem.W.keepIn K (.ref f1) = true)
    (a2 : PySem.W.nsIn K mainGlobals "require_order" = some (some (.ref f2))) (l2 : K.lookup f2 = some ⟨oc2, od2, .func (PySem.W.fnOf "require_order" "require_order" (defArgs s_require_order) (defBody s_require_order) (defScope s_require_order) .none kV2 dc2 pm2 an2 cd2 ct2), sl2⟩) (c2 : PySem.W.codeIn K cd2 "require_order" = true) (k2 : PySem.W.keepIn K (.ref f2) = true)
    (a3 : PySem.W.nsIn K mainGlobals "records_in" = some (some (.ref f3))) (l3 : K.lookup f3 = some ⟨oc3, od3, .func (PySem.W.fnOf "records_in" "records_in" (defArgs s_records_in) (defBody s_records_in) (defScope s_records_in) .none kV3 dc3 pm3 an3 cd3 ct3), sl3⟩) (c3 : PySem.W.codeIn K cd3 "records_in" = true) (k3 : PySem.W.keepIn K (.ref f3) = true)
    (a4 : PySem.W.nsIn K mainGlobals "sorted_total" = some (some (.ref f4))) (l4 : K.lookup f4 = some ⟨oc4, od4, .func (PySem.W.fnOf "sorted_total" "sorted_total" (defArgs s_sorted_total) (defBody s_sorted_total) (defScope s_sorted_total) .none kV4 dc4 pm4 an4 cd4 ct4), sl4⟩) (c4 : PySem.W.codeIn K cd4 "sorted_total" = true) (k4 : PySem.W.keepIn K (.ref f4) = true)
    (a5 : PySem.W.nsIn K mainGlobals "best_places" = some (some (.ref f5))) (l5 : K.lookup f5 = some ⟨oc5, od5, .func (PySem.W.fnOf "best_places" "best_places" (defArgs s_best_places) (defBody s_best_places) (defScope s_best_places) .none kV5 dc5 pm5 an5 cd5 ct5), sl5⟩) (c5 : PySem.W.codeIn K cd5 "best_places" = true) (k5 : PySem.W.keepIn K (.ref f5) = true)
    (a6 : PySem.W.nsIn K mainGlobals "_law_source" = some (some (.ref f6))) (l6 : K.lookup f6 = some ⟨oc6, od6, .func (PySem.W.fnOf "_law_source" "_law_source" (defArgs s__law_source) (defBody s__law_source) (defScope s__law_source) .none kV6 dc6 pm6 an6 cd6 ct6), sl6⟩) (c6 : PySem.W.codeIn K cd6 "_law_source" = true) (k6 : PySem.W.keepIn K (.ref f6) = true)
    (a7 : PySem.W.nsIn K mainGlobals "_law_pick" = some (some (.ref f7))) (l7 : K.lookup f7 = some ⟨oc7, od7, .func (PySem.W.fnOf "_law_pick" "_law_pick" (defArgs s__law_pick) (defBody s__law_pick) (defScope s__law_pick) .none kV7 dc7 pm7 an7 cd7 ct7), sl7⟩) (c7 : PySem.W.codeIn K cd7 "_law_pick" = true) (k7 : PySem.W.keepIn K (.ref f7) = true)
    (a8 : PySem.W.nsIn K mainGlobals "_law_error_name" = some (some (.ref f8))) (l8 : K.lookup f8 = some ⟨oc8, od8, .func (PySem.W.fnOf "_law_error_name" "_law_error_name" (defArgs s__law_error_name) (defBody s__law_error_name) (defScope s__law_error_name) .none kV8 dc8 pm8 an8 cd8 ct8), sl8⟩) (c8 : PySem.W.codeIn K cd8 "_law_error_name" = true) (k8 : PySem.W.keepIn K (.ref f8) = true)
    (a9 : PySem.W.nsIn K mainGlobals "_law_lane" = some (some (.ref f9))) (l9 : K.lookup f9 = some ⟨oc9, od9, .func (PySem.W.fnOf "_law_lane" "_law_lane" (defArgs s__law_lane) (defBody s__law_lane) (defScope s__law_lane) .none kV9 dc9 pm9 an9 cd9 ct9), sl9⟩) (c9 : PySem.W.codeIn K cd9 "_law_lane" = true) (k9 : PySem.W.keepIn K (.ref f9) = true)
    (a10 : PySem.W.nsIn K mainGlobals "_law_left" = some (some (.ref f10))) (l10 : K.lookup f10 = some ⟨oc10, od10, .func (PySem.W.fnOf "_law_left" "_law_left" (defArgs s__law_left) (defBody s__law_left) (defScope s__law_left) .none kV10 dc10 pm10 an10 cd10 ct10), sl10⟩) (c10 : PySem.W.codeIn K cd10 "_law_left" = true) (k10 : PySem.W.keepIn K (.ref f10) = true)
    (a11 : PySem.W.nsIn K mainGlobals "_law_row" = some (some (.ref f11))) (l11 : K.lookup f11 = some ⟨oc11, od11, .func (PySem.W.fnOf "_law_row" "_law_row" (defArgs s__law_row) (defBody s__law_row) (defScope s__law_row) .none kV11 dc11 pm11 an11 cd11 ct11), sl11⟩) (c11 : PySem.W.codeIn K cd11 "_law_row" = true) (k11 : PySem.W.keepIn K (.ref f11) = true)
    (a12 : PySem.W.nsIn K mainGlobals "_law_outcome" = some (some (.ref f12))) (l12 : K.lookup f12 = some ⟨oc12, od12, .func (PySem.W.fnOf "_law_outcome" "_law_outcome" (defArgs s__law_outcome) (defBody s__law_outcome) (defScope s__law_outcome) .none kV12 dc12 pm12 an12 cd12 ct12), sl12⟩) (c12 : PySem.W.codeIn K cd12 "_law_outcome" = true) (k12 : PySem.W.keepIn K (.ref f12) = true)
    (a13 : PySem.W.nsIn K mainGlobals "_law_due" = some (some (.ref f13))) (l13 : K.lookup f13 = some ⟨oc13, od13, .func (PySem.W.fnOf "_law_due" "_law_due" (defArgs s__law_due) (defBody s__law_due) (defScope s__law_due) .none kV13 dc13 pm13 an13 cd13 ct13), sl13⟩) (c13 : PySem.W.codeIn K cd13 "_law_due" = true) (k13 : PySem.W.keepIn K (.ref f13) = true)
    (a14 : PySem.W.nsIn K mainGlobals "law" = some (some (.ref f14))) (l14 : K.lookup f14 = some ⟨oc14, od14, .func (PySem.W.fnOf "law" "law" (defArgs s_law) (defBody s_law) (defScope s_law) .none kV14 dc14 pm14 an14 cd14 ct14), sl14⟩) (c14 : PySem.W.codeIn K cd14 "law" = true) (k14 : PySem.W.keepIn K (.ref f14) = true)
    (z_len : PySem.W.nsIn K mainGlobals "len" = some none)
    (z_sum : PySem.W.nsIn K mainGlobals "sum" = some none)
    (z_min : PySem.W.nsIn K mainGlobals "min" = some none)
    (z_max : PySem.W.nsIn K mainGlobals "max" = some none)
    (z_sorted : PySem.W.nsIn K mainGlobals "sorted" = some none)
    (z_tuple : PySem.W.nsIn K mainGlobals "tuple" = some none)
    (z_list : PySem.W.nsIn K mainGlobals "list" = some none)
    (z_range : PySem.W.nsIn K mainGlobals "range" = some none)
    (z_enumerate : PySem.W.nsIn K mainGlobals "enumerate" = some none)
    (z_zip : PySem.W.nsIn K mainGlobals "zip" = some none)
    (z_int : PySem.W.nsIn K mainGlobals "int" = some none)
    (z_all : PySem.W.nsIn K mainGlobals "all" = some none)
    (z_isinstance : PySem.W.nsIn K mainGlobals "isinstance" = some none)
    (z_set : PySem.W.nsIn K mainGlobals "set" = some none)
    (z_bool : PySem.W.nsIn K mainGlobals "bool" = some none)
    (z_ValueError : PySem.W.nsIn K mainGlobals "ValueError" = some none)
    (sp0 : PySem.W.specialIn K (.builtin "object.__class__") "__get__" = some (some (.builtin "getset_descriptor.__get__"))) (tk0 : PySem.W.takesIn K (.builtin "object.__class__") = some true)
    (v_InvalidOrder : PySem.W.nsIn K mainGlobals "InvalidOrder" = some (some (.ref C_InvalidOrder))) (hd_InvalidOrder : PySem.W.hasDictIn K C_InvalidOrder = true) (ty_InvalidOrder : PySem.W.typeIn K (.ref C_InvalidOrder) = some (.type "type"))
    (v_InvalidRule : PySem.W.nsIn K mainGlobals "InvalidRule" = some (some (.ref C_InvalidRule))) (hd_InvalidRule : PySem.W.hasDictIn K C_InvalidRule = true) (ty_InvalidRule : PySem.W.typeIn K (.ref C_InvalidRule) = some (.type "type"))
    (v_InvalidNumber : PySem.W.nsIn K mainGlobals "InvalidNumber" = some (some (.ref C_InvalidNumber))) (hd_InvalidNumber : PySem.W.hasDictIn K C_InvalidNumber = true) (ty_InvalidNumber : PySem.W.typeIn K (.ref C_InvalidNumber) = some (.type "type"))
    (v_InvalidRow : PySem.W.nsIn K mainGlobals "InvalidRow" = some (some (.ref C_InvalidRow))) (hd_InvalidRow : PySem.W.hasDictIn K C_InvalidRow = true) (ty_InvalidRow : PySem.W.typeIn K (.ref C_InvalidRow) = some (.type "type"))
    (v_InvalidCar : PySem.W.nsIn K mainGlobals "InvalidCar" = some (some (.ref C_InvalidCar))) (hd_InvalidCar : PySem.W.hasDictIn K C_InvalidCar = true) (ty_InvalidCar : PySem.W.typeIn K (.ref C_InvalidCar) = some (.type "type"))
    (v_TooMany : PySem.W.nsIn K mainGlobals "TooMany" = some (some (.ref C_TooMany))) (hd_TooMany : PySem.W.hasDictIn K C_TooMany = true) (ty_TooMany : PySem.W.typeIn K (.ref C_TooMany) = some (.type "type"))
    (v_LaneEmpty : PySem.W.nsIn K mainGlobals "LaneEmpty" = some (some (.ref C_LaneEmpty))) (hd_LaneEmpty : PySem.W.hasDictIn K C_LaneEmpty = true) (ty_LaneEmpty : PySem.W.typeIn K (.ref C_LaneEmpty) = some (.type "type"))
    (v_NothingToUndo : PySem.W.nsIn K mainGlobals "NothingToUndo" = some (some (.ref C_NothingToUndo))) (hd_NothingToUndo : PySem.W.hasDictIn K C_NothingToUndo = true) (ty_NothingToUndo : PySem.W.typeIn K (.ref C_NothingToUndo) = some (.type "type"))
    (v_LaneError : PySem.W.nsIn K mainGlobals "LaneError" = some (some (.ref C_LaneError))) (hd_LaneError : PySem.W.hasDictIn K C_LaneError = true) (ty_LaneError : PySem.W.typeIn K (.ref C_LaneError) = some (.type "type"))
    (sb_LaneError : PySem.W.subIn K (.ref C_LaneError) (.type "BaseException") = some true)
    (x_InvalidOrder : PySem.W.excIn K C_InvalidOrder [.type "ValueError", .type "Exception", .type "BaseException", .type "object"] "ValueError.__new__" = true) (kp_InvalidOrder : PySem.W.keepIn K (.ref C_InvalidOrder) = true) (sb_InvalidOrder : PySem.W.subIn K (.ref C_InvalidOrder) (.type "BaseException") = some true) (sv_InvalidOrder : PySem.W.subIn K (.ref C_InvalidOrder) (.type "ValueError") = some true)
    (ga_InvalidOrder : PySem.W.findIn K (.ref C_InvalidOrder) "__getattribute__" = some (some (.builtin "BaseException.__getattribute__"))) (gt_InvalidOrder : PySem.W.findIn K (.ref C_InvalidOrder) "__getattr__" = some none) (cl_InvalidOrder : PySem.W.findIn K (.ref C_InvalidOrder) "__class__" = some (some (.builtin "object.__class__"))) (mo_InvalidOrder : PySem.W.mroIn K C_InvalidOrder (.type "object") = some true)
    (s_InvalidOrder_InvalidOrder : PySem.W.subIn K (.ref C_InvalidOrder) (.ref C_InvalidOrder) = some true)
    (s_InvalidOrder_InvalidRule : PySem.W.subIn K (.ref C_InvalidOrder) (.ref C_InvalidRule) = some false)
    (s_InvalidOrder_InvalidNumber : PySem.W.subIn K (.ref C_InvalidOrder) (.ref C_InvalidNumber) = some false)
    (s_InvalidOrder_InvalidRow : PySem.W.subIn K (.ref C_InvalidOrder) (.ref C_InvalidRow) = some false)
    (s_InvalidOrder_InvalidCar : PySem.W.subIn K (.ref C_InvalidOrder) (.ref C_InvalidCar) = some false)
    (s_InvalidOrder_TooMany : PySem.W.subIn K (.ref C_InvalidOrder) (.ref C_TooMany) = some false)
    (s_InvalidOrder_LaneEmpty : PySem.W.subIn K (.ref C_InvalidOrder) (.ref C_LaneEmpty) = some false)
    (s_InvalidOrder_NothingToUndo : PySem.W.subIn K (.ref C_InvalidOrder) (.ref C_NothingToUndo) = some false)
    (s_InvalidOrder_LaneError : PySem.W.subIn K (.ref C_InvalidOrder) (.ref C_LaneError) = some true)
    (x_InvalidCar : PySem.W.excIn K C_InvalidCar [.type "ValueError", .type "Exception", .type "BaseException", .type "object"] "ValueError.__new__" = true) (kp_InvalidCar : PySem.W.keepIn K (.ref C_InvalidCar) = true) (sb_InvalidCar : PySem.W.subIn K (.ref C_InvalidCar) (.type "BaseException") = some true) (sv_InvalidCar : PySem.W.subIn K (.ref C_InvalidCar) (.type "ValueError") = some true)
    (ga_InvalidCar : PySem.W.findIn K (.ref C_InvalidCar) "__getattribute__" = some (some (.builtin "BaseException.__getattribute__"))) (gt_InvalidCar : PySem.W.findIn K (.ref C_InvalidCar) "__getattr__" = some none) (cl_InvalidCar : PySem.W.findIn K (.ref C_InvalidCar) "__class__" = some (some (.builtin "object.__class__"))) (mo_InvalidCar : PySem.W.mroIn K C_InvalidCar (.type "object") = some true)
    (s_InvalidCar_InvalidOrder : PySem.W.subIn K (.ref C_InvalidCar) (.ref C_InvalidOrder) = some false)
    (s_InvalidCar_InvalidRule : PySem.W.subIn K (.ref C_InvalidCar) (.ref C_InvalidRule) = some false)
    (s_InvalidCar_InvalidNumber : PySem.W.subIn K (.ref C_InvalidCar) (.ref C_InvalidNumber) = some false)
    (s_InvalidCar_InvalidRow : PySem.W.subIn K (.ref C_InvalidCar) (.ref C_InvalidRow) = some false)
    (s_InvalidCar_InvalidCar : PySem.W.subIn K (.ref C_InvalidCar) (.ref C_InvalidCar) = some true)
    (s_InvalidCar_TooMany : PySem.W.subIn K (.ref C_InvalidCar) (.ref C_TooMany) = some false)
    (s_InvalidCar_LaneEmpty : PySem.W.subIn K (.ref C_InvalidCar) (.ref C_LaneEmpty) = some false)
    (s_InvalidCar_NothingToUndo : PySem.W.subIn K (.ref C_InvalidCar) (.ref C_NothingToUndo) = some false)
    (s_InvalidCar_LaneError : PySem.W.subIn K (.ref C_InvalidCar) (.ref C_LaneError) = some true)
    (x_TooMany : PySem.W.excIn K C_TooMany [.type "ValueError", .type "Exception", .type "BaseException", .type "object"] "ValueError.__new__" = true) (kp_TooMany : PySem.W.keepIn K (.ref C_TooMany) = true) (sb_TooMany : PySem.W.subIn K (.ref C_TooMany) (.type "BaseException") = some true) (sv_TooMany : PySem.W.subIn K (.ref C_TooMany) (.type "ValueError") = some true)
    (ga_TooMany : PySem.W.findIn K (.ref C_TooMany) "__getattribute__" = some (some (.builtin "BaseException.__getattribute__"))) (gt_TooMany : PySem.W.findIn K (.ref C_TooMany) "__getattr__" = some none) (cl_TooMany : PySem.W.findIn K (.ref C_TooMany) "__class__" = some (some (.builtin "object.__class__"))) (mo_TooMany : PySem.W.mroIn K C_TooMany (.type "object") = some true)
    (s_TooMany_InvalidOrder : PySem.W.subIn K (.ref C_TooMany) (.ref C_InvalidOrder) = some false)
    (s_TooMany_InvalidRule : PySem.W.subIn K (.ref C_TooMany) (.ref C_InvalidRule) = some false)
    (s_TooMany_InvalidNumber : PySem.W.subIn K (.ref C_TooMany) (.ref C_InvalidNumber) = some false)
    (s_TooMany_InvalidRow : PySem.W.subIn K (.ref C_TooMany) (.ref C_InvalidRow) = some false)
    (s_TooMany_InvalidCar : PySem.W.subIn K (.ref C_TooMany) (.ref C_InvalidCar) = some false)
    (s_TooMany_TooMany : PySem.W.subIn K (.ref C_TooMany) (.ref C_TooMany) = some true)
    (s_TooMany_LaneEmpty : PySem.W.subIn K (.ref C_TooMany) (.ref C_LaneEmpty) = some false)
    (s_TooMany_NothingToUndo : PySem.W.subIn K (.ref C_TooMany) (.ref C_NothingToUndo) = some false)
    (s_TooMany_LaneError : PySem.W.subIn K (.ref C_TooMany) (.ref C_LaneError) = some true)
    (v_MAX_CARS : PySem.W.nsIn K mainGlobals "MAX_CARS" = some (some (.int 30 k_MAX_CARS)))
    : ∃ fd : FuncData, (∀ (s : Shared) (v : Value), BindsTo s fd ⟨[v], []⟩ [("script", v)]) ∧ ∀ base : Heap, K.In base → base.Ns mainGlobals mg → FnOk l.prog w K mg base CX0 6 fa fd ["script"] (spF K fLawT) := by
  have e := hfa.symm.trans (PySem.W.mg_of X G a14)
  cases e
  have F0 := fun_mk (st := s_is_integer) l0 c0 k0
  have B0 := F0.binds (ps := ["value", "low", "high"]) fun _ _ _ _ _ _ us hl => match us, hl with | [_, _, _], _ => rfl
  have F1 := fun_mk (st := s_is_order) l1 c1 k1
  have B1 := F1.binds (ps := ["value"]) fun _ _ _ _ _ _ us hl => match us, hl with | [_], _ => rfl
  have F2 := fun_mk (st := s_require_order) l2 c2 k2
  have B2 := F2.binds (ps := ["value"]) fun _ _ _ _ _ _ us hl => match us, hl with | [_], _ => rfl
  have F3 := fun_mk (st := s_records_in) l3 c3 k3
  have B3 := F3.binds (ps := ["order"]) fun _ _ _ _ _ _ us hl => match us, hl with | [_], _ => rfl
  have F4 := fun_mk (st := s_sorted_total) l4 c4 k4
  have B4 := F4.binds (ps := ["order"]) fun _ _ _ _ _ _ us hl => match us, hl with | [_], _ => rfl
  have F5 := fun_mk (st := s_best_places) l5 c5 k5
  have B5 := F5.binds (ps := ["order", "car"]) fun _ _ _ _ _ _ us hl => match us, hl with | [_, _], _ => rfl
  have F6 := fun_mk (st := s__law_source) l6 c6 k6
  have B6 := F6.binds (ps := ["script", "k"]) fun _ _ _ _ _ _ us hl => match us, hl with | [_, _], _ => rfl
  have F7 := fun_mk (st := s__law_pick) l7 c7 k7
  have B7 := F7.binds (ps := ["source", "size"]) fun _ _ _ _ _ _ us hl => match us, hl with | [_, _], _ => rfl
  have F8 := fun_mk (st := s__law_error_name) l8 c8 k8
  have B8 := F8.binds (ps := ["e"]) fun _ _ _ _ _ _ us hl => match us, hl with | [_], _ => rfl
  have F9 := fun_mk (st := s__law_lane) l9 c9 k9
  have B9 := F9.binds (ps := ["source", "most"]) fun _ _ _ _ _ _ us hl => match us, hl with | [_, _], _ => rfl
  have F10 := fun_mk (st := s__law_left) l10 c10 k10
  have B10 := F10.binds (ps := ["lane", "by"]) fun _ _ _ _ _ _ us hl => match us, hl with | [_, _], _ => rfl
  have F11 := fun_mk (st := s__law_row) l11 c11 k11
  have B11 := F11.binds (ps := ["lane", "by"]) fun _ _ _ _ _ _ us hl => match us, hl with | [_, _], _ => rfl
  have F12 := fun_mk (st := s__law_outcome) l12 c12 k12
  have B12 := F12.binds (ps := ["lane", "car"]) fun _ _ _ _ _ _ us hl => match us, hl with | [_, _], _ => rfl
  have F13 := fun_mk (st := s__law_due) l13 c13 k13
  have B13 := F13.binds (ps := ["lane", "car"]) fun _ _ _ _ _ _ us hl => match us, hl with | [_, _], _ => rfl
  have F14 := fun_mk (st := s_law) l14 c14 k14
  have B14 := F14.binds (ps := ["script"]) fun _ _ _ _ _ _ us hl => match us, hl with | [_], _ => rfl
  let T : Top K mg := {
    f_is_integer := f0, fd_is_integer := _, F_is_integer := F0, g_is_integer := PySem.W.mg_of X G a0, b_is_integer := B0,
    f_is_order := f1, fd_is_order := _, F_is_order := F1, g_is_order := PySem.W.mg_of X G a1, b_is_order := B1,
    f_require_order := f2, fd_require_order := _, F_require_order := F2, g_require_order := PySem.W.mg_of X G a2, b_require_order := B2,
    f_records_in := f3, fd_records_in := _, F_records_in := F3, g_records_in := PySem.W.mg_of X G a3, b_records_in := B3,
    f_sorted_total := f4, fd_sorted_total := _, F_sorted_total := F4, g_sorted_total := PySem.W.mg_of X G a4, b_sorted_total := B4,
    f_best_places := f5, fd_best_places := _, F_best_places := F5, g_best_places := PySem.W.mg_of X G a5, b_best_places := B5,
    f__law_source := f6, fd__law_source := _, F__law_source := F6, g__law_source := PySem.W.mg_of X G a6, b__law_source := B6,
    f__law_pick := f7, fd__law_pick := _, F__law_pick := F7, g__law_pick := PySem.W.mg_of X G a7, b__law_pick := B7,
    f__law_error_name := f8, fd__law_error_name := _, F__law_error_name := F8, g__law_error_name := PySem.W.mg_of X G a8, b__law_error_name := B8,
    f__law_lane := f9, fd__law_lane := _, F__law_lane := F9, g__law_lane := PySem.W.mg_of X G a9, b__law_lane := B9,
    f__law_left := f10, fd__law_left := _, F__law_left := F10, g__law_left := PySem.W.mg_of X G a10, b__law_left := B10,
    f__law_row := f11, fd__law_row := _, F__law_row := F11, g__law_row := PySem.W.mg_of X G a11, b__law_row := B11,
    f__law_outcome := f12, fd__law_outcome := _, F__law_outcome := F12, g__law_outcome := PySem.W.mg_of X G a12, b__law_outcome := B12,
    f__law_due := f13, fd__law_due := _, F__law_due := F13, g__law_due := PySem.W.mg_of X G a13, b__law_due := B13,
    f_law := fa, fd_law := _, F_law := F14, g_law := PySem.W.mg_of X G a14, b_law := B14,
    z_len := PySem.W.mg_none_of X G z_len,
    z_sum := PySem.W.mg_none_of X G z_sum,
    z_min := PySem.W.mg_none_of X G z_min,
    z_max := PySem.W.mg_none_of X G z_max,
    z_sorted := PySem.W.mg_none_of X G z_sorted,
    z_tuple := PySem.W.mg_none_of X G z_tuple,
    z_list := PySem.W.mg_none_of X G z_list,
    z_range := PySem.W.mg_none_of X G z_range,
    z_enumerate := PySem.W.mg_none_of X G z_enumerate,
    z_zip := PySem.W.mg_none_of X G z_zip,
    z_int := PySem.W.mg_none_of X G z_int,
    z_all := PySem.W.mg_none_of X G z_all,
    z_isinstance := PySem.W.mg_none_of X G z_isinstance,
    z_set := PySem.W.mg_none_of X G z_set,
    z_bool := PySem.W.mg_none_of X G z_bool,
    z_ValueError := PySem.W.mg_none_of X G z_ValueError,
    C_InvalidOrder := C_InvalidOrder, g_InvalidOrder := PySem.W.mg_of X G v_InvalidOrder,
    C_InvalidRule := C_InvalidRule, g_InvalidRule := PySem.W.mg_of X G v_InvalidRule,
    C_InvalidNumber := C_InvalidNumber, g_InvalidNumber := PySem.W.mg_of X G v_InvalidNumber,
    C_InvalidRow := C_InvalidRow, g_InvalidRow := PySem.W.mg_of X G v_InvalidRow,
    C_InvalidCar := C_InvalidCar, g_InvalidCar := PySem.W.mg_of X G v_InvalidCar,
    C_TooMany := C_TooMany, g_TooMany := PySem.W.mg_of X G v_TooMany,
    C_LaneEmpty := C_LaneEmpty, g_LaneEmpty := PySem.W.mg_of X G v_LaneEmpty,
    C_NothingToUndo := C_NothingToUndo, g_NothingToUndo := PySem.W.mg_of X G v_NothingToUndo,
    C_LaneError := C_LaneError, g_LaneError := PySem.W.mg_of X G v_LaneError,
    e_InvalidOrder := ⟨⟨⟨_, _, _, _, PySem.F.excBase_ValueError, x_InvalidOrder⟩, kp_InvalidOrder, sb_InvalidOrder, ty_InvalidOrder⟩, ⟨ga_InvalidOrder, gt_InvalidOrder, sb_InvalidOrder, hd_InvalidOrder, cl_InvalidOrder, sp0, tk0, mo_InvalidOrder⟩, Sy.ki_cons (Sy.kit_own hd_InvalidOrder ty_InvalidOrder s_InvalidOrder_InvalidOrder s_InvalidOrder_InvalidOrder) (Sy.ki_cons (Sy.kit_own hd_InvalidRule ty_InvalidRule s_InvalidOrder_InvalidRule s_InvalidOrder_InvalidOrder) (Sy.ki_cons (Sy.kit_own hd_InvalidNumber ty_InvalidNumber s_InvalidOrder_InvalidNumber s_InvalidOrder_InvalidOrder) (Sy.ki_cons (Sy.kit_own hd_InvalidRow ty_InvalidRow s_InvalidOrder_InvalidRow s_InvalidOrder_InvalidOrder) (Sy.ki_cons (Sy.kit_own hd_InvalidCar ty_InvalidCar s_InvalidOrder_InvalidCar s_InvalidOrder_InvalidOrder) (Sy.ki_cons (Sy.kit_own hd_TooMany ty_TooMany s_InvalidOrder_TooMany s_InvalidOrder_InvalidOrder) (Sy.ki_cons (Sy.kit_own hd_LaneEmpty ty_LaneEmpty s_InvalidOrder_LaneEmpty s_InvalidOrder_InvalidOrder) (Sy.ki_cons (Sy.kit_own hd_NothingToUndo ty_NothingToUndo s_InvalidOrder_NothingToUndo s_InvalidOrder_InvalidOrder) (Sy.ki_cons (Sy.kit_own hd_LaneError ty_LaneError s_InvalidOrder_LaneError s_InvalidOrder_InvalidOrder) (Sy.ki_nil))))))))), Sy.kit_blt sv_InvalidOrder, PySem.W.exm_ref sb_LaneError hd_LaneError ty_LaneError s_InvalidOrder_LaneError⟩,
    e_InvalidCar := ⟨⟨⟨_, _, _, _, PySem.F.excBase_ValueError, x_InvalidCar⟩, kp_InvalidCar, sb_InvalidCar, ty_InvalidCar⟩, ⟨ga_InvalidCar, gt_InvalidCar, sb_InvalidCar, hd_InvalidCar, cl_InvalidCar, sp0, tk0, mo_InvalidCar⟩, Sy.ki_cons (Sy.kit_own hd_InvalidOrder ty_InvalidOrder s_InvalidCar_InvalidOrder s_InvalidCar_InvalidCar) (Sy.ki_cons (Sy.kit_own hd_InvalidRule ty_InvalidRule s_InvalidCar_InvalidRule s_InvalidCar_InvalidCar) (Sy.ki_cons (Sy.kit_own hd_InvalidNumber ty_InvalidNumber s_InvalidCar_InvalidNumber s_InvalidCar_InvalidCar) (Sy.ki_cons (Sy.kit_own hd_InvalidRow ty_InvalidRow s_InvalidCar_InvalidRow s_InvalidCar_InvalidCar) (Sy.ki_cons (Sy.kit_own hd_InvalidCar ty_InvalidCar s_InvalidCar_InvalidCar s_InvalidCar_InvalidCar) (Sy.ki_cons (Sy.kit_own hd_TooMany ty_TooMany s_InvalidCar_TooMany s_InvalidCar_InvalidCar) (Sy.ki_cons (Sy.kit_own hd_LaneEmpty ty_LaneEmpty s_InvalidCar_LaneEmpty s_InvalidCar_InvalidCar) (Sy.ki_cons (Sy.kit_own hd_NothingToUndo ty_NothingToUndo s_InvalidCar_NothingToUndo s_InvalidCar_InvalidCar) (Sy.ki_cons (Sy.kit_own hd_LaneError ty_LaneError s_InvalidCar_LaneError s_InvalidCar_InvalidCar) (Sy.ki_nil))))))))), Sy.kit_blt sv_InvalidCar, PySem.W.exm_ref sb_LaneError hd_LaneError ty_LaneError s_InvalidCar_LaneError⟩,
    e_TooMany := ⟨⟨⟨_, _, _, _, PySem.F.excBase_ValueError, x_TooMany⟩, kp_TooMany, sb_TooMany, ty_TooMany⟩, ⟨ga_TooMany, gt_TooMany, sb_TooMany, hd_TooMany, cl_TooMany, sp0, tk0, mo_TooMany⟩, Sy.ki_cons (Sy.kit_own hd_InvalidOrder ty_InvalidOrder s_TooMany_InvalidOrder s_TooMany_TooMany) (Sy.ki_cons (Sy.kit_own hd_InvalidRule ty_InvalidRule s_TooMany_InvalidRule s_TooMany_TooMany) (Sy.ki_cons (Sy.kit_own hd_InvalidNumber ty_InvalidNumber s_TooMany_InvalidNumber s_TooMany_TooMany) (Sy.ki_cons (Sy.kit_own hd_InvalidRow ty_InvalidRow s_TooMany_InvalidRow s_TooMany_TooMany) (Sy.ki_cons (Sy.kit_own hd_InvalidCar ty_InvalidCar s_TooMany_InvalidCar s_TooMany_TooMany) (Sy.ki_cons (Sy.kit_own hd_TooMany ty_TooMany s_TooMany_TooMany s_TooMany_TooMany) (Sy.ki_cons (Sy.kit_own hd_LaneEmpty ty_LaneEmpty s_TooMany_LaneEmpty s_TooMany_TooMany) (Sy.ki_cons (Sy.kit_own hd_NothingToUndo ty_NothingToUndo s_TooMany_NothingToUndo s_TooMany_TooMany) (Sy.ki_cons (Sy.kit_own hd_LaneError ty_LaneError s_TooMany_LaneError s_TooMany_TooMany) (Sy.ki_nil))))))))), Sy.kit_blt sv_TooMany, PySem.W.exm_ref sb_LaneError hd_LaneError ty_LaneError s_TooMany_LaneError⟩,
    k_MAX_CARS := k_MAX_CARS, c_MAX_CARS := PySem.W.mg_of X G v_MAX_CARS }
  exact ⟨(PySem.W.fnOf "law" "law" (defArgs s_law) (defBody s_law) (defScope s_law) .none kV14 dc14 pm14 an14 cd14 ct14), fun s v => .of_eq rfl, fun base _ _ => ok_law T⟩
end Law
open PySem PySem.W PyProof.Rows
set_option maxHeartbeats 0 in
theorem PySem.Challenge.cw_blockedcars_k41_places_for_one_more_car_holds : PySem.Challenge.rw_blockedcars_k41_places_for_one_more_car.Holds := by
  w_on; o_law; k_head; (case hw => w_witness2)
  k_fill
  refine L2.walk_of (l := PySem.Challenge.rw_blockedcars_k41_places_for_one_more_car) (n := 63) (k := 6) (x := "script") (CX := fun _ => L2.CX0) (sp := fun w => Sy.spF _ Sy.fLawT) rfl (by decide) rfl ⟨rfl, by decide, by decide⟩ (fun w h Y => PySem.W.kIn_of Y) ?F (fun _ _ a ns hl _ hS => Sy.law_start hl hS rfl) (fun _ _ _ _ _ h => h)
  case F =>
    intro w mg fa h KX G hmg
    refine' Law.all_mk KX G hmg ?a0 ?l0 ?c0 ?k0 ?a1 ?l1 ?c1 ?k1 ?a2 ?l2 ?c2 ?k2 ?a3 ?l3 ?c3 ?k3 ?a4 ?l4 ?c4 ?k4 ?a5 ?l5 ?c5 ?k5 ?a6 ?l6 ?c6 ?k6 ?a7 ?l7 ?c7 ?k7 ?a8 ?l8 ?c8 ?k8 ?a9 ?l9 ?c9 ?k9 ?a10 ?l10 ?c10 ?k10 ?a11 ?l11 ?c11 ?k11 ?a12 ?l12 ?c12 ?k12 ?a13 ?l13 ?c13 ?k13 ?a14 ?l14 ?c14 ?k14 ?z_len ?z_sum ?z_min ?z_max ?z_sorted ?z_tuple ?z_list ?z_range ?z_enumerate ?z_zip ?z_int ?z_all ?z_isinstance ?z_set ?z_bool ?z_ValueError ?sp0 ?tk0 ?v_InvalidOrder ?hd_InvalidOrder ?ty_InvalidOrder ?v_InvalidRule ?hd_InvalidRule ?ty_InvalidRule ?v_InvalidNumber ?hd_InvalidNumber ?ty_InvalidNumber ?v_InvalidRow ?hd_InvalidRow ?ty_InvalidRow ?v_InvalidCar ?hd_InvalidCar ?ty_InvalidCar ?v_TooMany ?hd_TooMany ?ty_TooMany ?v_LaneEmpty ?hd_LaneEmpty ?ty_LaneEmpty ?v_NothingToUndo ?hd_NothingToUndo ?ty_NothingToUndo ?v_LaneError ?hd_LaneError ?ty_LaneError ?sb_LaneError ?x_InvalidOrder ?kp_InvalidOrder ?sb_InvalidOrder ?sv_InvalidOrder ?ga_InvalidOrder ?gt_InvalidOrder ?cl_InvalidOrder ?mo_InvalidOrder ?s_InvalidOrder_InvalidOrder ?s_InvalidOrder_InvalidRule ?s_InvalidOrder_InvalidNumber ?s_InvalidOrder_InvalidRow ?s_InvalidOrder_InvalidCar ?s_InvalidOrder_TooMany ?s_InvalidOrder_LaneEmpty ?s_InvalidOrder_NothingToUndo ?s_InvalidOrder_LaneError ?x_InvalidCar ?kp_InvalidCar ?sb_InvalidCar ?sv_InvalidCar ?ga_InvalidCar ?gt_InvalidCar ?cl_InvalidCar ?mo_InvalidCar ?s_InvalidCar_InvalidOrder ?s_InvalidCar_InvalidRule ?s_InvalidCar_InvalidNumber ?s_InvalidCar_InvalidRow ?s_InvalidCar_InvalidCar ?s_InvalidCar_TooMany ?s_InvalidCar_LaneEmpty ?s_InvalidCar_NothingToUndo ?s_InvalidCar_LaneError ?x_TooMany ?kp_TooMany ?sb_TooMany ?sv_TooMany ?ga_TooMany ?gt_TooMany ?cl_TooMany ?mo_TooMany ?s_TooMany_InvalidOrder ?s_TooMany_InvalidRule ?s_TooMany_InvalidNumber ?s_TooMany_InvalidRow ?s_TooMany_InvalidCar ?s_TooMany_TooMany ?s_TooMany_LaneEmpty ?s_TooMany_NothingToUndo ?s_TooMany_LaneError ?v_MAX_CARS
    (case a0 => k_is); (case l0 => k_is); (case c0 => k_is); (case k0 => k_is); (case a1 => k_is); (case l1 => k_is); (case c1 => k_is); (case k1 => k_is); (case a2 => k_is); (case l2 => k_is); (case c2 => k_is); (case k2 => k_is); (case a3 => k_is); (case l3 => k_is); (case c3 => k_is); (case k3 => k_is); (case a4 => k_is); (case l4 => k_is); (case c4 => k_is); (case k4 => k_is); (case a5 => k_is); (case l5 => k_is); (case c5 => k_is); (case k5 => k_is); (case a6 => k_is); (case l6 => k_is); (case c6 => k_is); (case k6 => k_is); (case a7 => k_is); (case l7 => k_is); (case c7 => k_is); (case k7 => k_is); (case a8 => k_is); (case l8 => k_is); (case c8 => k_is); (case k8 => k_is); (case a9 => k_is); (case l9 => k_is); (case c9 => k_is); (case k9 => k_is); (case a10 => k_is); (case l10 => k_is); (case c10 => k_is); (case k10 => k_is); (case a11 => k_is); (case l11 => k_is); (case c11 => k_is); (case k11 => k_is); (case a12 => k_is); (case l12 => k_is); (case c12 => k_is); (case k12 => k_is); (case a13 => k_is); (case l13 => k_is); (case c13 => k_is); (case k13 => k_is); (case a14 => k_is); (case l14 => k_is); (case c14 => k_is); (case k14 => k_is); (case z_len => k_is); (case z_sum => k_is); (case z_min => k_is); (case z_max => k_is); (case z_sorted => k_is); (case z_tuple => k_is); (case z_list => k_is); (case z_range => k_is); (case z_enumerate => k_is); (case z_zip => k_is); (case z_int => k_is); (case z_all => k_is); (case z_isinstance => k_is); (case z_set => k_is); (case z_bool => k_is); (case z_ValueError => k_is); (case sp0 => k_is); (case tk0 => k_is); (case v_InvalidOrder => k_is); (case hd_InvalidOrder => k_is); (case ty_InvalidOrder => k_is); (case v_InvalidRule => k_is); (case hd_InvalidRule => k_is); (case ty_InvalidRule => k_is); (case v_InvalidNumber => k_is); (case hd_InvalidNumber => k_is); (case ty_InvalidNumber => k_is); (case v_InvalidRow => k_is); (case hd_InvalidRow => k_is); (case ty_InvalidRow => k_is); (case v_InvalidCar => k_is); (case hd_InvalidCar => k_is); (case ty_InvalidCar => k_is); (case v_TooMany => k_is); (case hd_TooMany => k_is); (case ty_TooMany => k_is); (case v_LaneEmpty => k_is); (case hd_LaneEmpty => k_is); (case ty_LaneEmpty => k_is); (case v_NothingToUndo => k_is); (case hd_NothingToUndo => k_is); (case ty_NothingToUndo => k_is); (case v_LaneError => k_is); (case hd_LaneError => k_is); (case ty_LaneError => k_is); (case sb_LaneError => k_is); (case x_InvalidOrder => k_exc); (case kp_InvalidOrder => k_is); (case sb_InvalidOrder => k_is); (case sv_InvalidOrder => k_is); (case ga_InvalidOrder => k_is); (case gt_InvalidOrder => k_is); (case cl_InvalidOrder => k_is); (case mo_InvalidOrder => k_is); (case s_InvalidOrder_InvalidOrder => k_is); (case s_InvalidOrder_InvalidRule => k_is); (case s_InvalidOrder_InvalidNumber => k_is); (case s_InvalidOrder_InvalidRow => k_is); (case s_InvalidOrder_InvalidCar => k_is); (case s_InvalidOrder_TooMany => k_is); (case s_InvalidOrder_LaneEmpty => k_is); (case s_InvalidOrder_NothingToUndo => k_is); (case s_InvalidOrder_LaneError => k_is); (case x_InvalidCar => k_exc); (case kp_InvalidCar => k_is); (case sb_InvalidCar => k_is); (case sv_InvalidCar => k_is); (case ga_InvalidCar => k_is); (case gt_InvalidCar => k_is); (case cl_InvalidCar => k_is); (case mo_InvalidCar => k_is); (case s_InvalidCar_InvalidOrder => k_is); (case s_InvalidCar_InvalidRule => k_is); (case s_InvalidCar_InvalidNumber => k_is); (case s_InvalidCar_InvalidRow => k_is); (case s_InvalidCar_InvalidCar => k_is); (case s_InvalidCar_TooMany => k_is); (case s_InvalidCar_LaneEmpty => k_is); (case s_InvalidCar_NothingToUndo => k_is); (case s_InvalidCar_LaneError => k_is); (case x_TooMany => k_exc); (case kp_TooMany => k_is); (case sb_TooMany => k_is); (case sv_TooMany => k_is); (case ga_TooMany => k_is); (case gt_TooMany => k_is); (case cl_TooMany => k_is); (case mo_TooMany => k_is); (case s_TooMany_InvalidOrder => k_is); (case s_TooMany_InvalidRule => k_is); (case s_TooMany_InvalidNumber => k_is); (case s_TooMany_InvalidRow => k_is); (case s_TooMany_InvalidCar => k_is); (case s_TooMany_TooMany => k_is); (case s_TooMany_LaneEmpty => k_is); (case s_TooMany_NothingToUndo => k_is); (case s_TooMany_LaneError => k_is); (case v_MAX_CARS => k_is)

