import PyProof.Rows.All
import Wide.All
import OpenK.AllK
import Wide.FinOn
import HandS.ForMost
import HandS.Exc
import HandS.WordsExc
import HandS.Flow
import HandS.Deep
import HandS.Style
import HandS.TupAny
import HandS.Wide
import HandS.IsInst
import HandS.SortInts
import HandS.Conv
import HandS.More
import HandS.CallSlots
import HandS.TryOnly
import HandS.Zip
import HandS.Comp
import HandS.DictComp
import HandS.Small
import HandS.ExcInit
import HandS.ExcSuper
import HandS.ExcField
import HandS.ExcIs
import HandS.TryMany
import HandS.ExcOwn
import KE.KIsAll
import HandS.Strs
import HandS.Iter
import HandS.Dict
import KE.GoesMore
import KE.GoesEnum
import HandS.RaiseMore
import HandS.Sort
import HandS.ExcValue
import KE.KUnpackStar
import KE.KRevSl
import PySem.Challenge.RW_notwoshare_k38_tests_and_what_passes
set_option Elab.async false
set_option linter.all false
set_option maxRecDepth 100000
set_option maxHeartbeats 4000000
namespace Z
open PySem L2

/-! ## Data, cells, states -/
inductive D where
  | non | bl (b : Bool) | int (i : Int) | str (x : Str) | ty (n : String)
  | tup (xs : List D) | ktp (xs : List D) | lst (xs : List D) | scr (xs : List D)
  | dK (ks : List Key) (vs : List D) | dT (ks : List (List Key)) (vs : List D)
  | obj (C : Str) (ns : List Str) (vs : List D)
  | cls (C : Str)
  | ref (n : Nat)
inductive Cell where
  | lst (xs : List D) | dK (ks : List Key) (vs : List D) | dT (ks : List (List Key)) (vs : List D) | ins (C : Str) (ns : List Str) (vs : List D)
inductive Slot where
  | un | fz (d : D) | ow (c : Cell)
/-- a value on its way: data, a name's slot, a new object that nobody else holds -/
inductive W where
  | val (d : D) | slot (i : Nat) | new (c : Cell)
abbrev Env := List Slot
abbrev Hh := List Cell
structure S where
  e : Env
  h : Hh
inductive Out (α : Type) where
  | ok (a : α) (s : S) | exc (C : Str) (ns : List Str) (vs : List D) (s : S) | stuck
abbrev M (α : Type) := S → Out α
def Cell.toD : Cell → D
  | .lst xs => .lst xs
  | .dK ks vs => .dK ks vs
  | .dT ks vs => .dT ks vs
  | .ins C ns vs => .obj C ns vs

structure Tx where
  K : PySem.W.Frag
  mg : Str → Option Value
abbrev tx (X : Cx) : Tx := ⟨X.K, X.mg⟩

/-- a tuple's items: one of ours, or one of the text's constants -/
def TqT (K : PySem.W.Frag) (F : Hp) (a : Addr) (us : List V) : Prop :=
  F a = some (.tup us) ∨ ∃ (o : Obj) (its : Array Value) (n : Nat), K.lookup a = some o ∧ o.cls = .type "tuple" ∧ o.data = .seq its n ∧ its.size ≤ sizeLine ∧ Vals us its.toList
theorem TqT.sq {K : PySem.W.Frag} {F : Hp} {a : Addr} {us : List V} (h : TqT K F a us) : SqT K F a us := by
  rcases h with h | h
  · exact .inl (.inl h)
  · exact .inr h
mutual
def Rep (T : Tx) (F : Hp) (φ : List Addr) : D → V → Prop
  | .non, v => v = .non
  | .bl b, v => v = .bl b
  | .int i, v => v = .int i
  | .str x, v => v = .str x
  | .ty n, v => v = .ty n
  | .tup ds, v => ∃ a us, v = .ref a ∧ F a = some (.tup us) ∧ Reps T F φ ds us
  | .ktp ds, v => ∃ a us, v = .ref a ∧ TqT T.K F a us ∧ Reps T F φ ds us
  | .lst ds, v => ∃ a us, v = .ref a ∧ F a = some (.lst us) ∧ Reps T F φ ds us
  | .scr ds, v => ∃ a us, v = .ref a ∧ SqL T.K F a us ∧ Reps T F φ ds us
  | .dK ks ds, v => ∃ a us, v = .ref a ∧ us.length = ks.length ∧ F a = some (.dK (ks.zip us)) ∧ Reps T F φ ds us
  | .dT ks ds, v => ∃ a us, v = .ref a ∧ us.length = ks.length ∧ F a = some (.dT (ks.zip us)) ∧ Reps T F φ ds us
  | .obj C ns ds, v => ∃ a A dx us, v = .ref a ∧ us.length = ns.length ∧ T.mg C = some (.ref A) ∧ F a = some (.ins A dx (ns.zip us)) ∧ F dx = some (.own a) ∧ Reps T F φ ds us
  | .cls C, v => ∃ A, T.mg C = some (.ref A) ∧ v = .ref A
  | .ref n, v => ∃ a, φ[n]? = some a ∧ v = .ref a
def Reps (T : Tx) (F : Hp) (φ : List Addr) : List D → List V → Prop
  | [], us => us = []
  | d :: ds, us => ∃ u r, us = u :: r ∧ Rep T F φ d u ∧ Reps T F φ ds r
end

abbrev Le (F F1 : Hp) : Prop := ∀ a o, F a = some o → F1 a = some o
theorem SqL.le {K : PySem.W.Frag} {F F1 : Hp} {a : Addr} {xs : List V} (l : Le F F1) (h : SqL K F a xs) : SqL K F1 a xs := Same.seq l h
theorem TqT.le {K : PySem.W.Frag} {F F1 : Hp} {a : Addr} {xs : List V} (l : Le F F1) (h : TqT K F a xs) : TqT K F1 a xs := by
  rcases h with h | h
  · exact .inl (l _ _ h)
  · exact .inr h
theorem pre_get {φ φ1 : List Addr} (p : φ <+: φ1) {n : Nat} {a : Addr} (h : φ[n]? = some a) : φ1[n]? = some a := by
  obtain ⟨l, rfl⟩ := p
  rw [List.getElem?_append_left (by exact (List.getElem?_eq_some_iff.mp h).1)]
  exact h
section
variable {T : Tx} {F F1 : Hp} {φ φ1 : List Addr}
mutual
theorem Rep.mono (l : Le F F1) (p : φ <+: φ1) : ∀ {d : D} {v : V}, Rep T F φ d v → Rep T F1 φ1 d v
  | .non, _, h => h
  | .bl _, _, h => h
  | .int _, _, h => h
  | .str _, _, h => h
  | .ty _, _, h => h
  | .tup ds, _, h => by
    obtain ⟨a, us, e, q, r⟩ := h
    exact ⟨a, us, e, l _ _ q, Reps.mono l p r⟩
  | .ktp ds, _, h => by
    obtain ⟨a, us, e, q, r⟩ := h
    exact ⟨a, us, e, TqT.le l q, Reps.mono l p r⟩
  | .lst ds, _, h => by
    obtain ⟨a, us, e, q, r⟩ := h
    exact ⟨a, us, e, l _ _ q, Reps.mono l p r⟩
  | .scr ds, _, h => by
    obtain ⟨a, us, e, q, r⟩ := h
    exact ⟨a, us, e, SqL.le l q, Reps.mono l p r⟩
  | .dK ks ds, _, h => by
    obtain ⟨a, us, e, z, q, r⟩ := h
    exact ⟨a, us, e, z, l _ _ q, Reps.mono l p r⟩
  | .dT ks ds, _, h => by
    obtain ⟨a, us, e, z, q, r⟩ := h
    exact ⟨a, us, e, z, l _ _ q, Reps.mono l p r⟩
  | .obj C ns ds, _, h => by
    obtain ⟨a, A, dx, us, e, z, m, q, q2, r⟩ := h
    exact ⟨a, A, dx, us, e, z, m, l _ _ q, l _ _ q2, Reps.mono l p r⟩
  | .cls C, _, h => h
  | .ref n, _, h => by
    obtain ⟨a, q, e⟩ := h
    exact ⟨a, pre_get p q, e⟩
theorem Reps.mono (l : Le F F1) (p : φ <+: φ1) : ∀ {ds : List D} {us : List V}, Reps T F φ ds us → Reps T F1 φ1 ds us
  | [], _, h => h
  | d :: ds, _, h => by
    obtain ⟨u, r, e, q, z⟩ := h
    exact ⟨u, r, e, Rep.mono l p q, Reps.mono l p z⟩
end
theorem Reps.len : ∀ {ds : List D} {us : List V}, Reps T F φ ds us → us.length = ds.length
  | [], _, h => by rw [show _ = [] from h]; rfl
  | d :: ds, _, h => by
    obtain ⟨u, r, rfl, _, z⟩ := h
    simp [Reps.len z]
theorem Reps.get : ∀ {ds : List D} {us : List V} {i : Nat} {d : D}, Reps T F φ ds us → ds[i]? = some d → ∃ u, us[i]? = some u ∧ Rep T F φ d u
  | [], _, _, _, _, e => by simp at e
  | d :: ds, _, 0, _, h, e => by
    obtain ⟨u, r, rfl, q, z⟩ := h
    simp at e; subst e
    exact ⟨u, rfl, q⟩
  | d :: ds, _, i + 1, _, h, e => by
    obtain ⟨u, r, rfl, q, z⟩ := h
    obtain ⟨u', e1, e2⟩ := Reps.get (i := i) z (by simpa using e)
    exact ⟨u', by simpa using e1, e2⟩
theorem Reps.cons {d : D} {ds : List D} {u : V} {us : List V} (h : Rep T F φ d u) (r : Reps T F φ ds us) : Reps T F φ (d :: ds) (u :: us) := ⟨u, us, rfl, h, r⟩
theorem Reps.nil : Reps T F φ [] [] := rfl
theorem Reps.append : ∀ {ds es : List D} {us vs : List V}, Reps T F φ ds us → Reps T F φ es vs → Reps T F φ (ds ++ es) (us ++ vs)
  | [], _, _, _, h, g => by rw [show _ = [] from h]; exact g
  | d :: ds, _, _, _, h, g => by
    obtain ⟨u, r, rfl, q, z⟩ := h
    exact ⟨u, _, rfl, q, Reps.append z g⟩
theorem Reps.take : ∀ {ds : List D} {us : List V} (n : Nat), Reps T F φ ds us → Reps T F φ (ds.take n) (us.take n)
  | [], _, n, h => by rw [show _ = [] from h]; simp [Reps]
  | d :: ds, _, 0, h => by simp [Reps]
  | d :: ds, _, n + 1, h => by
    obtain ⟨u, r, rfl, q, z⟩ := h
    exact ⟨u, _, rfl, q, Reps.take n z⟩
theorem Reps.drop : ∀ {ds : List D} {us : List V} (n : Nat), Reps T F φ ds us → Reps T F φ (ds.drop n) (us.drop n)
  | [], _, n, h => by rw [show _ = [] from h]; simp [Reps]
  | d :: ds, _, 0, h => h
  | d :: ds, _, n + 1, h => by
    obtain ⟨u, r, rfl, q, z⟩ := h
    exact Reps.drop n z
theorem Reps.set : ∀ {ds : List D} {us : List V} {d : D} {u : V} (i : Nat), Reps T F φ ds us → Rep T F φ d u → Reps T F φ (ds.set i d) (us.set i u)
  | [], _, _, _, i, h, _ => by rw [show _ = [] from h]; simp [Reps]
  | d :: ds, _, _, _, 0, h, g => by
    obtain ⟨u, r, rfl, q, z⟩ := h
    exact ⟨_, _, rfl, g, z⟩
  | d :: ds, _, _, _, i + 1, h, g => by
    obtain ⟨u, r, rfl, q, z⟩ := h
    exact ⟨_, _, rfl, q, Reps.set i z g⟩
theorem Reps.eraseIdx : ∀ {ds : List D} {us : List V} (i : Nat), Reps T F φ ds us → Reps T F φ (ds.eraseIdx i) (us.eraseIdx i)
  | [], _, i, h => by rw [show _ = [] from h]; simp [Reps]
  | d :: ds, _, 0, h => by
    obtain ⟨u, r, rfl, q, z⟩ := h
    exact z
  | d :: ds, _, i + 1, h => by
    obtain ⟨u, r, rfl, q, z⟩ := h
    exact ⟨_, _, rfl, q, Reps.eraseIdx i z⟩
theorem Reps.ints : ∀ {ns : List Int} {us : List V}, Reps T F φ (ns.map D.int) us → us = ns.map V.int
  | [], _, h => h
  | n :: ns, _, h => by
    obtain ⟨u, r, rfl, q, z⟩ := h
    rw [show u = _ from q, Reps.ints z]; rfl
theorem Reps.bls : ∀ {ns : List Bool} {us : List V}, Reps T F φ (ns.map D.bl) us → us = ns.map V.bl
  | [], _, h => h
  | n :: ns, _, h => by
    obtain ⟨u, r, rfl, q, z⟩ := h
    rw [show u = _ from q, Reps.bls z]; rfl
theorem Reps.strs : ∀ {ns : List Str} {us : List V}, Reps T F φ (ns.map D.str) us → us = ns.map V.str
  | [], _, h => h
  | n :: ns, _, h => by
    obtain ⟨u, r, rfl, q, z⟩ := h
    rw [show u = _ from q, Reps.strs z]; rfl
end

/-! ## The relation of states -/
/-- a cell's content, at an address -/
def CellAt (T : Tx) (F : Hp) (φ : List Addr) (H : Hp) : Cell → Addr → Prop
  | .lst ds, a => ∃ us, H a = some (.lst us) ∧ Reps T F φ ds us
  | .dK ks ds, a => ∃ us, us.length = ks.length ∧ H a = some (.dK (ks.zip us)) ∧ Reps T F φ ds us
  | .dT ks ds, a => ∃ us, us.length = ks.length ∧ H a = some (.dT (ks.zip us)) ∧ Reps T F φ ds us
  | .ins C ns ds, a => ∃ A dx us, us.length = ns.length ∧ T.mg C = some (.ref A) ∧ H a = some (.ins A dx (ns.zip us)) ∧ H dx = some (.own a) ∧ Reps T F φ ds us
structure Cf where
  F : Hp
  φ : List Addr
  s : S
  σ : St
  H : Hp
def Own (c : Cf) (i : Nat) (a : Addr) : Prop := (∃ cl, c.s.e[i]? = some (.ow cl)) ∧ c.σ[i]? = some (some (.ref a))
def Mu (c : Cf) (a : Addr) : Prop := a ∈ c.φ ∨ ∃ i, Own c i a
structure Ok (T : Tx) (c : Cf) : Prop where
  le : Le c.F c.H
  len : c.φ.length = c.s.h.length
  cell : ∀ (n : Nat) (a : Addr) (cl : Cell), c.φ[n]? = some a → c.s.h[n]? = some cl → CellAt T c.F c.φ c.H cl a
  nd : c.φ.Nodup
  fz : ∀ (i : Nat) (d : D), c.s.e[i]? = some (.fz d) → ∃ v, c.σ[i]? = some (some v) ∧ Rep T c.F c.φ d v
  ow : ∀ (i : Nat) (cl : Cell), c.s.e[i]? = some (.ow cl) → ∃ a, c.σ[i]? = some (some (.ref a)) ∧ CellAt T c.F c.φ c.H cl a
  apart : ∀ i j a, Own c i a → Own c j a → i = j
  out : ∀ i a, Own c i a → a ∉ c.φ
  free : ∀ a, Mu c a → c.F a = none
  elen : c.s.e.length = c.σ.length
structure Ext (c c1 : Cf) : Prop where
  le : Le c.F c1.F
  pre : c.φ <+: c1.φ
  keep : ∀ a o, c.H a = some o → ¬ Mu c a → c1.H a = some o
  live : ∀ a, c.H a ≠ none → c1.H a ≠ none
  mu : ∀ a, Mu c1 a → Mu c a ∨ c.H a = none
  fz : ∀ a, c1.F a ≠ none → c.F a ≠ none ∨ Mu c a ∨ c.H a = none ∨ ∃ x, c.H a = some (.own x)
theorem Ext.refl (c : Cf) : Ext c c := ⟨fun _ _ h => h, List.prefix_refl _, fun _ _ h _ => h, fun _ h => h, fun _ h => .inl h, fun _ h => .inl h⟩
theorem Ext.trans {c c1 c2 : Cf} (a : Ext c c1) (b : Ext c1 c2) : Ext c c2 where
  le := fun x o h => b.le x o (a.le x o h)
  pre := a.pre.trans b.pre
  keep := fun x o h n => b.keep x o (a.keep x o h n) fun m => by
    rcases a.mu x m with z | z
    · exact n z
    · rw [h] at z; cases z
  live := fun x h => b.live x (a.live x h)
  mu := fun x m => by
    rcases b.mu x m with z | z
    · exact a.mu x z
    · exact .inr (Classical.byContradiction fun n => a.live x n z)
  fz := fun x m => by
    rcases b.fz x m with z | z | z | ⟨y, z⟩
    · exact a.fz x z
    · rcases a.mu x z with y | y
      · exact .inr (.inl y)
      · exact .inr (.inr (.inl y))
    · exact .inr (.inr (.inl (Classical.byContradiction fun n => a.live x n z)))
    · cases q : c.H x with
      | none => exact .inr (.inr (.inl rfl))
      | some o =>
        by_cases n : Mu c x
        · exact .inr (.inl n)
        · rw [a.keep x o q n] at z
          exact .inr (.inr (.inr ⟨y, z⟩))
/-- a value on its way, at a state; H0: the heap ahead of it -/
def RepW (T : Tx) (H0 : Hp) (c : Cf) : W → V → Prop
  | .val d, v => Rep T c.F c.φ d v
  | .slot i, v => c.σ[i]? = some (some v)
  | .new cl, v => ∃ a, v = .ref a ∧ CellAt T c.F c.φ c.H cl a ∧ c.F a = none ∧ ¬ Mu c a ∧ H0 a = none
theorem CellAt.mono {T : Tx} {F F1 : Hp} {φ φ1 : List Addr} {H : Hp} (l : Le F F1) (p : φ <+: φ1) : ∀ {cl : Cell} {a : Addr}, CellAt T F φ H cl a → CellAt T F1 φ1 H cl a
  | .lst _, _, ⟨us, h, r⟩ => ⟨us, h, r.mono l p⟩
  | .dK _ _, _, ⟨us, z, h, r⟩ => ⟨us, z, h, r.mono l p⟩
  | .dT _ _, _, ⟨us, z, h, r⟩ => ⟨us, z, h, r.mono l p⟩
  | .ins _ _ _, _, ⟨A, dx, us, z, m, h, h2, r⟩ => ⟨A, dx, us, z, m, h, h2, r.mono l p⟩
/-- the addresses that a cell stands on -/
def CellKeep (H H1 : Hp) (a : Addr) : Prop := H1 a = H a ∧ ∀ dx, H dx = some (.own a) → H1 dx = some (.own a)
theorem CellAt.keep {T : Tx} {F : Hp} {φ : List Addr} {H H1 : Hp} {a : Addr} (k : CellKeep H H1 a) : ∀ {cl : Cell}, CellAt T F φ H cl a → CellAt T F φ H1 cl a
  | .lst _, ⟨us, h, r⟩ => ⟨us, k.1.trans h, r⟩
  | .dK _ _, ⟨us, z, h, r⟩ => ⟨us, z, k.1.trans h, r⟩
  | .dT _ _, ⟨us, z, h, r⟩ => ⟨us, z, k.1.trans h, r⟩
  | .ins _ _ _, ⟨A, dx, us, z, m, h, h2, r⟩ => ⟨A, dx, us, z, m, k.1.trans h, k.2 _ h2, r⟩
theorem CellAt.there {T : Tx} {F : Hp} {φ : List Addr} {H : Hp} {a : Addr} : ∀ {cl : Cell}, CellAt T F φ H cl a → ∃ o, H a = some o ∧ ∀ x, o ≠ .own x
  | .lst _, ⟨us, h, r⟩ => ⟨_, h, fun _ z => nomatch z⟩
  | .dK _ _, ⟨us, z, h, r⟩ => ⟨_, h, fun _ z => nomatch z⟩
  | .dT _ _, ⟨us, z, h, r⟩ => ⟨_, h, fun _ z => nomatch z⟩
  | .ins _ _ _, ⟨A, dx, us, z, m, h, h2, r⟩ => ⟨_, h, fun _ z => nomatch z⟩
/-- every changeable address is there, and no instance's own dict -/
theorem Ok.there {T : Tx} {c : Cf} (O : Ok T c) {a : Addr} (m : Mu c a) : ∃ o, c.H a = some o ∧ ∀ x, o ≠ .own x := by
  rcases m with m | ⟨i, ⟨cl, e⟩, m⟩
  · obtain ⟨n, hn, e⟩ := List.getElem_of_mem m
    have hn' : n < c.s.h.length := by rw [← O.len]; exact hn
    exact (O.cell n a _ (by rw [List.getElem?_eq_some_iff]; exact ⟨hn, e⟩) (List.getElem?_eq_getElem hn')).there
  · obtain ⟨a', e1, h⟩ := O.ow i cl e
    rw [m] at e1
    cases e1
    exact h.there
theorem Ext.cellKeep {T : Tx} {c c1 : Cf} (O : Ok T c) (x : Ext c c1) {a : Addr} (h : c.H a ≠ none) (n : ¬ Mu c a) : CellKeep c.H c1.H a := by
  refine ⟨?_, fun dx e => x.keep dx _ e fun m => ?_⟩
  · cases q : c.H a with
    | none => exact absurd q h
    | some o => exact x.keep a o q n
  · obtain ⟨o, e1, e2⟩ := O.there m
    rw [e] at e1
    cases e1
    exact e2 _ rfl
/-- a value stays what it is -/
theorem RepW.ext {T : Tx} {H0 : Hp} {c c1 : Cf} {w : W} {v : V} (O : Ok T c) (r : RepW T H0 c w v) (x : Ext c c1) (hσ : c1.σ = c.σ) : RepW T H0 c1 w v := by
  cases w with
  | val d => exact Rep.mono x.le x.pre r
  | slot i => exact (by rw [hσ]; exact r : c1.σ[i]? = some (some v))
  | new cl =>
    obtain ⟨a, e, h, f, n, z⟩ := r
    obtain ⟨o, e1, e2⟩ := h.there
    refine ⟨a, e, (h.keep (x.cellKeep O (by rw [e1]; exact fun q => nomatch q) n)).mono x.le x.pre, ?_, fun m => ?_, z⟩
    · apply Classical.byContradiction
      intro q
      rcases x.fz a q with y | y | y | ⟨z, y⟩
      · exact y f
      · exact n y
      · rw [e1] at y; cases y
      · rw [e1] at y; cases y
        exact e2 _ rfl
    · rcases x.mu a m with y | y
      · exact n y
      · rw [e1] at y; cases y
end Z

namespace Z
open PySem L2

/-! ## The monad -/
def bnd {α β : Type} (f : M α) (k : α → M β) : M β := fun s => match f s with
  | .ok a s1 => k a s1
  | .exc C ns vs s1 => .exc C ns vs s1
  | .stuck => .stuck
def ret {α : Type} (a : α) : M α := fun s => .ok a s
def stuck {α : Type} : M α := fun _ => .stuck
/-- the data of a value on its way, its cell given up if it has one -/
def toD (w : W) : M D := fun s => match w with
  | .val d => .ok d s
  | .slot i => match s.e[i]? with
    | some (.fz d) => .ok d s
    | some (.ow c) => .ok c.toD { s with e := s.e.set i (.fz c.toD) }
    | _ => .stuck
  | .new c => .ok c.toD s
/-- .. as it is now, its cell kept -/
def viewD (d : D) : M D := fun s => match d with
  | .ref n => match s.h[n]? with
    | some c => .ok c.toD s
    | none => .stuck
  | d => .ok d s
def view (w : W) : M D := fun s => match w with
  | .val d => viewD d s
  | .slot i => match s.e[i]? with
    | some (.fz d) => viewD d s
    | some (.ow c) => .ok c.toD s
    | _ => .stuck
  | .new c => .ok c.toD s

/-! ## What is asked of an outcome -/
def Post (T : Tx) (c : Cf) {α : Type} (o : Out α) (R : Cf → α → Prop) (E : WX) : Prop := match o with
  | .ok a s1 => ∀ c1, c1.s = s1 → c1.σ = c.σ → Ok T c1 → Ext c c1 → R c1 a
  | .exc C ns ds s1 => ∀ c1 A d us, c1.s = s1 → c1.σ = c.σ → Ok T c1 → Ext c c1 → T.mg C = some (.ref A) → us.length = ns.length → c1.H d = some (.xd (ns.zip us)) → Reps T c1.F c1.φ ds us → ¬ Mu c1 d → E (.ref A) (some d) c1.σ c1.H
  | .stuck => False
section
variable {T : Tx} {c c1 : Cf} {α β : Type} {R R' : Cf → α → Prop} {E : WX}
theorem Post.from {o : Out α} (h : Post T c o R E) (x : Ext c c1) (hσ : c1.σ = c.σ) : Post T c1 o R E := by
  cases o with
  | ok a s1 => exact fun c2 e1 e2 O x2 => h c2 e1 (e2.trans hσ) O (x.trans x2)
  | exc C ns ds s1 => exact fun c2 A d us e1 e2 O x2 => h c2 A d us e1 (e2.trans hσ) O (x.trans x2)
  | stuck => exact h
theorem Post.imp {o : Out α} (h : Post T c o R E) (k : ∀ c1 a, c1.σ = c.σ → Ok T c1 → Ext c c1 → R c1 a → R' c1 a) : Post T c o R' E := by
  cases o with
  | ok a s1 => exact fun c2 e1 e2 O x2 => k c2 a e2 O x2 (h c2 e1 e2 O x2)
  | exc C ns ds s1 => exact h
  | stuck => exact h
/-- the first of two in a row -/
theorem Post.bnd {f : M α} {k : α → M β} {R : Cf → β → Prop} (h : Post T c (bnd f k c.s) R E) : Post T c (f c.s) (fun c1 a => Post T c (k a c1.s) R E) E := by
  unfold Z.bnd at h
  cases e : f c.s with
  | ok a s1 =>
    rw [e] at h
    exact fun c1 e1 e2 O x => by
      subst e1
      exact h
  | exc C ns ds s1 => rw [e] at h; exact h
  | stuck => rw [e] at h; exact h
theorem Post.ok {a : α} {s : S} (h : Post T c (.ok a s) R E) (e : c1.s = s) (hσ : c1.σ = c.σ) (O : Ok T c1) (x : Ext c c1) : R c1 a := h c1 e hσ O x
theorem Post.here {a : α} (h : Post T c (.ok a c.s) R E) (O : Ok T c) : R c a := h c rfl rfl O (Ext.refl c)
end

/-! ## Freezing -/
open Classical in
/-- the object at a becomes data -/
noncomputable def frF (c : Cf) (a : Addr) : Hp := fun b => if b = a ∨ c.H b = some (.own a) then c.H b else c.F b
section
variable {T : Tx} {c : Cf} {a : Addr} {cl : Cell}
theorem frF_le (O : Ok T c) : Le c.F (frF c a) := fun b o e => by
  unfold frF
  split
  · exact O.le b o e
  · exact e
theorem frF_le2 (O : Ok T c) : Le (frF c a) c.H := fun b o e => by
  unfold frF at e
  split at e
  · exact e
  · exact O.le b o e
theorem frF_rep (O : Ok T c) (h : CellAt T c.F c.φ c.H cl a) : Rep T (frF c a) c.φ cl.toD (.ref a) := by
  have fa : frF c a a = c.H a := if_pos (.inl rfl)
  cases cl with
  | lst ds =>
    obtain ⟨us, h1, r⟩ := h
    exact ⟨a, us, rfl, fa.trans h1, r.mono (frF_le O) (List.prefix_refl _)⟩
  | dK ks ds =>
    obtain ⟨us, z, h1, r⟩ := h
    exact ⟨a, us, rfl, z, fa.trans h1, r.mono (frF_le O) (List.prefix_refl _)⟩
  | dT ks ds =>
    obtain ⟨us, z, h1, r⟩ := h
    exact ⟨a, us, rfl, z, fa.trans h1, r.mono (frF_le O) (List.prefix_refl _)⟩
  | ins C ns ds =>
    obtain ⟨A, dx, us, z, m, h1, h2, r⟩ := h
    exact ⟨a, A, dx, us, rfl, z, m, fa.trans h1, (if_pos (.inr h2)).trans h2, r.mono (frF_le O) (List.prefix_refl _)⟩
/-- a new object is data -/
theorem Ok.freeze (O : Ok T c) (n : ¬ Mu c a) : Ok T { c with F := frF c a } := by
  have l := frF_le (a := a) O
  refine ⟨frF_le2 O, O.len, fun m b cl h1 h2 => (O.cell m b cl h1 h2).mono l (List.prefix_refl _), O.nd, fun i d h => ?_, fun i cl h => ?_, O.apart, O.out, fun b m => ?_, O.elen⟩
  · obtain ⟨v, e, r⟩ := O.fz i d h
    exact ⟨v, e, r.mono l (List.prefix_refl _)⟩
  · obtain ⟨b, e, r⟩ := O.ow i cl h
    exact ⟨b, e, r.mono l (List.prefix_refl _)⟩
  · have m' : Mu c b := m
    show frF c a b = none
    unfold frF
    rw [if_neg, O.free b m']
    rintro (e | e)
    · exact n (e ▸ m')
    · obtain ⟨o, e1, e2⟩ := O.there m'
      rw [e] at e1
      cases e1
      exact e2 _ rfl
theorem Ext.freeze {c0 : Cf} (O : Ok T c) (x : Ext c0 c) (z : c0.H a = none ∨ Mu c0 a) : Ext c0 { c with F := frF c a } := by
  refine ⟨fun b o e => frF_le O _ _ (x.le b o e), x.pre, x.keep, x.live, x.mu, fun b h => ?_⟩
  have h' : frF c a b ≠ none := h
  unfold frF at h'
  split at h'
  · rename_i q
    rcases q with q | q
    · rw [q]
      rcases z with z | z
      · exact .inr (.inr (.inl z))
      · exact .inr (.inl z)
    · cases e : c0.H b with
      | none => exact .inr (.inr (.inl rfl))
      | some o =>
        by_cases m : Mu c0 b
        · exact .inr (.inl m)
        · rw [x.keep b o e m] at q
          exact .inr (.inr (.inr ⟨a, q⟩))
  · exact x.fz b h'
/-- a name gives up its object -/
theorem Ok.drop {i : Nat} (O : Ok T c) (h : c.s.e[i]? = some (.ow cl)) (hσ : c.σ[i]? = some (some (.ref a))) :
    Ok T { c with F := frF c a, s := { c.s with e := c.s.e.set i (.fz cl.toD) } } ∧ Ext c { c with F := frF c a, s := { c.s with e := c.s.e.set i (.fz cl.toD) } } := by
  have hi : i < c.s.e.length := (List.getElem?_eq_some_iff.mp h).1
  obtain ⟨a', e1, hc⟩ := O.ow i cl h
  rw [hσ] at e1
  cases e1
  have own_i : Own c i a := ⟨⟨cl, h⟩, hσ⟩
  have sub : ∀ j b, Own { c with F := frF c a, s := { c.s with e := c.s.e.set i (.fz cl.toD) } } j b → j ≠ i ∧ Own c j b := fun j b ⟨⟨cl', e⟩, e2⟩ => by
    have e : (c.s.e.set i (.fz cl.toD))[j]? = some (.ow cl') := e
    by_cases q : j = i
    · subst q
      rw [List.getElem?_set_self hi] at e
      cases e
    · rw [List.getElem?_set_ne (Ne.symm q)] at e
      exact ⟨q, ⟨cl', e⟩, e2⟩
  have l := frF_le (a := a) O
  have p := List.prefix_refl c.φ
  have free' : ∀ b, Mu { c with F := frF c a, s := { c.s with e := c.s.e.set i (.fz cl.toD) } } b → Mu c b ∧ b ≠ a := fun b m => by
    rcases m with m | ⟨j, m⟩
    · refine ⟨.inl m, fun e => O.out i a own_i ?_⟩
      rw [← e]; exact m
    · obtain ⟨q, m'⟩ := sub j b m
      exact ⟨.inr ⟨j, m'⟩, fun e => q (O.apart j i b m' (e ▸ own_i))⟩
  refine ⟨⟨frF_le2 O, O.len, fun m b cl h1 h2 => (O.cell m b cl h1 h2).mono l p, O.nd, fun j d e => ?_, fun j cl' e => ?_, fun j k b h1 h2 => O.apart j k b (sub j b h1).2 (sub k b h2).2, fun j b h1 => O.out j b (sub j b h1).2, fun b m => ?_, ?_⟩,
    ⟨l, p, fun _ _ h _ => h, fun _ h => h, fun b m => .inl (free' b m).1, fun b h => (Ext.freeze O (Ext.refl c) (.inr (.inr ⟨i, own_i⟩))).fz b h⟩⟩
  · have e : (c.s.e.set i (.fz cl.toD))[j]? = some (.fz d) := e
    by_cases q : j = i
    · subst q
      rw [List.getElem?_set_self hi] at e
      cases e
      exact ⟨_, hσ, frF_rep O hc⟩
    · rw [List.getElem?_set_ne (Ne.symm q)] at e
      obtain ⟨v, e, r⟩ := O.fz j d e
      exact ⟨v, e, r.mono l p⟩
  · have e : (c.s.e.set i (.fz cl.toD))[j]? = some (.ow cl') := e
    by_cases q : j = i
    · subst q
      rw [List.getElem?_set_self hi] at e
      cases e
    · rw [List.getElem?_set_ne (Ne.symm q)] at e
      obtain ⟨v, e, r⟩ := O.ow j cl' e
      exact ⟨v, e, r.mono l p⟩
  · obtain ⟨m', ne⟩ := free' b m
    show frF c a b = none
    unfold frF
    rw [if_neg, O.free b m']
    rintro (e | e)
    · exact ne e
    · obtain ⟨o, e1, e2⟩ := O.there m'
      rw [e] at e1
      cases e1
      exact e2 _ rfl
  · show (c.s.e.set i _).length = _
    rw [List.length_set]
    exact O.elen
/-- toD, at a state behind c0 -/
theorem post_toD {c0 : Cf} {w : W} {v : V} {R : Cf → D → Prop} {E : WX} (O : Ok T c) (x : Ext c0 c) (hσ : c.σ = c0.σ) (r : RepW T c0.H c w v) (h : Post T c0 (toD w c.s) R E) : ∃ c1 d, c1.σ = c.σ ∧ c1.H = c.H ∧ Ok T c1 ∧ Ext c0 c1 ∧ Rep T c1.F c1.φ d v ∧ R c1 d := by
  cases w with
  | val d => exact ⟨c, d, rfl, rfl, O, x, r, h.ok rfl hσ O x⟩
  | slot i =>
    have r : c.σ[i]? = some (some v) := r
    unfold toD at h
    cases e : c.s.e[i]? with
    | none => simp only [e] at h; exact h.elim
    | some sl =>
      simp only [e] at h
      cases sl with
      | un => exact h.elim
      | fz d =>
        obtain ⟨v', e1, r'⟩ := O.fz i d e
        rw [r] at e1
        cases e1
        exact ⟨c, d, rfl, rfl, O, x, r', h.ok rfl hσ O x⟩
      | ow cl =>
        obtain ⟨a, e1, r'⟩ := O.ow i cl e
        rw [r] at e1
        cases e1
        obtain ⟨O1, x1⟩ := O.drop e r
        exact ⟨_, _, (by rfl), (by rfl), O1, x.trans x1, frF_rep O r', h.ok rfl hσ O1 (x.trans x1)⟩
  | new cl =>
    obtain ⟨a, rfl, hc, f, n, z⟩ := r
    exact ⟨_, _, (by rfl), (by rfl), O.freeze n, Ext.freeze O x (.inl z), frF_rep O hc, h.ok rfl hσ (O.freeze n) (Ext.freeze O x (.inl z))⟩
theorem CellAt.view (h : CellAt T c.F c.φ c.H cl a) (O : Ok T c) : Rep T c.H c.φ cl.toD (.ref a) := by
  have l := O.le
  have p := List.prefix_refl c.φ
  cases cl with
  | lst ds =>
    obtain ⟨us, h1, r⟩ := h
    exact ⟨a, us, rfl, h1, r.mono l p⟩
  | dK ks ds =>
    obtain ⟨us, z, h1, r⟩ := h
    exact ⟨a, us, rfl, z, h1, r.mono l p⟩
  | dT ks ds =>
    obtain ⟨us, z, h1, r⟩ := h
    exact ⟨a, us, rfl, z, h1, r.mono l p⟩
  | ins C ns ds =>
    obtain ⟨A, dx, us, z, m, h1, h2, r⟩ := h
    exact ⟨a, A, dx, us, rfl, z, m, h1, h2, r.mono l p⟩
/-- a value as it stands: data, or a cell's content -/
inductive RepV (T : Tx) (c : Cf) (d : D) (v : V) : Prop where
  | dat : Rep T c.F c.φ d v → RepV T c d v
  | cel (cl : Cell) (a : Addr) : d = cl.toD → v = .ref a → CellAt T c.F c.φ c.H cl a → RepV T c d v
theorem RepV.up {d : D} {v : V} (h : RepV T c d v) (O : Ok T c) : Rep T c.H c.φ d v := by
  cases h with
  | dat r => exact r.mono O.le (List.prefix_refl _)
  | cel cl a e1 e2 h => rw [e1, e2]; exact h.view O
theorem post_viewD {c0 : Cf} {d : D} {v : V} {R : Cf → D → Prop} {E : WX} (O : Ok T c) (x : Ext c0 c) (hσ : c.σ = c0.σ) (r : Rep T c.F c.φ d v) (h : Post T c0 (viewD d c.s) R E) : ∃ d, RepV T c d v ∧ R c d := by
  by_cases q : ∃ n, d = .ref n
  · obtain ⟨n, rfl⟩ := q
    obtain ⟨a, e, rfl⟩ := r
    unfold viewD at h
    cases q : c.s.h[n]? with
    | none => simp only [q] at h; exact h.elim
    | some cl =>
      simp only [q] at h
      exact ⟨_, .cel cl a rfl rfl (O.cell n a cl e q), h.ok rfl hσ O x⟩
  · have e : viewD d c.s = .ok d c.s := by
      unfold viewD
      cases d <;> first | rfl | exact absurd ⟨_, rfl⟩ q
    rw [e] at h
    exact ⟨d, .dat r, h.ok rfl hσ O x⟩
/-- view: the value as it stands -/
theorem post_view {c0 : Cf} {H0 : Hp} {w : W} {v : V} {R : Cf → D → Prop} {E : WX} (O : Ok T c) (x : Ext c0 c) (hσ : c.σ = c0.σ) (r : RepW T H0 c w v) (h : Post T c0 (Z.view w c.s) R E) : ∃ d, RepV T c d v ∧ R c d := by
  cases w with
  | val d => exact post_viewD O x hσ r h
  | slot i =>
    have r : c.σ[i]? = some (some v) := r
    unfold Z.view at h
    cases e : c.s.e[i]? with
    | none => simp only [e] at h; exact h.elim
    | some sl =>
      simp only [e] at h
      cases sl with
      | un => exact h.elim
      | fz d =>
        obtain ⟨v', e1, r'⟩ := O.fz i d e
        rw [r] at e1
        cases e1
        exact post_viewD O x hσ r' h
      | ow cl =>
        obtain ⟨a, e1, r'⟩ := O.ow i cl e
        rw [r] at e1
        cases e1
        exact ⟨_, .cel cl a rfl rfl r', h.ok rfl hσ O x⟩
  | new cl =>
    obtain ⟨a, rfl, hc, f, n, z⟩ := r
    exact ⟨_, .cel cl a rfl rfl hc, h.ok rfl hσ O x⟩
end

/-! ## The judgement of expressions -/
def tSE (X : Cx) (Wx : WX) (f : M W) : TE := fun σ H Q => ∃ c : Cf, c.σ = σ ∧ c.H = H ∧ Ok (tx X) c ∧ Post (tx X) c (f c.s) (fun c1 w => ∀ v, RepW (tx X) H c1 w v → Q v c1.H) Wx
structure SE (X : Cx) (Wx : WX) (e : Expr) (f : M W) : Prop where
  pe : PE X e (tSE X Wx f)
/-- .. whose value is data -/
def tSD (X : Cx) (Wx : WX) (f : M D) : TE := fun σ H Q => ∃ c : Cf, c.σ = σ ∧ c.H = H ∧ Ok (tx X) c ∧ Post (tx X) c (f c.s) (fun c1 d => ∀ v, Rep (tx X) c1.F c1.φ d v → Q v c1.H) Wx
structure SD (X : Cx) (Wx : WX) (e : Expr) (f : M D) : Prop where
  pe : PE X e (tSD X Wx f)
def valM (f : M D) : M W := bnd f fun d => ret (.val d)
def datM (f : M W) : M D := bnd f toD
theorem PE.imp {X : Cx} {e : Expr} {t t' : TE} (h : PE X e t) (k : ∀ σ H Q, t' σ H Q → t σ H Q) : PE X e t' := ⟨fun pins s σ H Q I q => h.run pins s σ H Q I (k _ _ _ q)⟩
section
variable {X : Cx} {Wx : WX} {e a b : Expr} {pos : Pos}
theorem sd {f : M W} (h : SE X Wx e f) : SD X Wx e (datM f) := ⟨PE.imp h.pe fun σ H Q ⟨c, e1, e2, O, p⟩ => ⟨c, e1, e2, O, (Post.bnd p).imp fun c1 w hσ O1 x q v r => by
  subst e2
  obtain ⟨c2, d, h1, h2, O2, x2, r2, q2⟩ := post_toD O1 x hσ r q
  rw [← h2]
  exact q2 v r2⟩⟩
end
end Z

namespace Z
open PySem L2

section
variable {T : Tx} {c c0 c1 : Cf} {α β : Type} {R R' : Cf → α → Prop} {E : WX}
/-- the first of two in a row, at a state behind the start -/
theorem Post.bnd2 {f : M α} {k : α → M β} {R : Cf → β → Prop} (h : Post T c0 (Z.bnd f k c.s) R E) (x : Ext c0 c) (hσ : c.σ = c0.σ) :
    Post T c (f c.s) (fun c1 a => Ext c0 c1 ∧ c1.σ = c0.σ ∧ Post T c0 (k a c1.s) R E) E := by
  unfold Z.bnd at h
  cases e : f c.s with
  | ok a s1 =>
    rw [e] at h
    exact fun c1 e1 e2 O y => by
      subst e1
      exact ⟨x.trans y, e2.trans hσ, h⟩
  | exc C ns ds s1 =>
    rw [e] at h
    exact fun c2 A d us e1 e2 O x2 => h c2 A d us e1 (e2.trans hσ) O (x.trans x2)
  | stuck => rw [e] at h; exact h
theorem Post.view {H0 : Hp} {w : W} {v : V} {k : D → M β} {R : Cf → β → Prop} (h : Post T c0 (Z.bnd (Z.view w) k c.s) R E) (O : Ok T c) (x : Ext c0 c) (hσ : c.σ = c0.σ) (r : RepW T H0 c w v) :
    ∃ d, RepV T c d v ∧ Post T c0 (k d c.s) R E := by
  obtain ⟨d, q, _, _, p⟩ := post_view O (Ext.refl c) rfl r (Post.bnd2 h x hσ)
  exact ⟨d, q, p⟩
theorem Post.toD {w : W} {v : V} {k : D → M β} {R : Cf → β → Prop} (h : Post T c0 (Z.bnd (Z.toD w) k c.s) R E) (O : Ok T c) (x : Ext c0 c) (hσ : c.σ = c0.σ) (r : RepW T c0.H c w v) :
    ∃ c1 d, c1.σ = c.σ ∧ c1.H = c.H ∧ Ok T c1 ∧ Ext c0 c1 ∧ Rep T c1.F c1.φ d v ∧ Post T c0 (k d c1.s) R E := by
  have h' : Post T c0 (Z.toD w c.s) (fun c1 d => Post T c0 (k d c1.s) R E) E := by
    unfold Z.bnd at h
    cases e : Z.toD w c.s with
    | ok a s1 =>
      rw [e] at h
      exact fun c1 e1 e2 O y => by
        subst e1
        exact h
    | exc C ns ds s1 => rw [e] at h; exact h
    | stuck => rw [e] at h; exact h
  obtain ⟨c1, d, e1, e2, O1, x1, r1, p⟩ := post_toD O x hσ r h'
  exact ⟨c1, d, e1, e2, O1, x1, r1, p⟩
theorem RepW.early {w : W} {v : V} (x : Ext c0 c) (r : RepW T c.H c1 w v) : RepW T c0.H c1 w v := by
  cases w with
  | val d => exact r
  | slot i => exact r
  | new cl =>
    obtain ⟨a, e, h, f, n, z⟩ := r
    exact ⟨a, e, h, f, n, Classical.byContradiction fun q => x.live a q z⟩

/-! ## New objects -/
theorem Ok.alloc {p : Addr} {o : HO} (O : Ok T c) (hp : c.H p = none) : Ok T { c with H := upd c.H p o } ∧ Ext c { c with H := upd c.H p o } := by
  have ne : ∀ b, c.H b ≠ none → b ≠ p := fun b h e => h (e ▸ hp)
  have k : ∀ a, c.H a ≠ none → CellKeep c.H (upd c.H p o) a := fun a h => ⟨upd_ne (ne a h), fun dx e => (upd_ne (ne dx (by rw [e]; exact fun z => nomatch z))).trans e⟩
  refine ⟨⟨fun b u e => (upd_ne (ne b (by rw [O.le b u e]; exact fun z => nomatch z))).trans (O.le b u e), O.len, fun n a cl h1 h2 => ?_, O.nd, O.fz, fun i cl h => ?_, O.apart, O.out, O.free, O.elen⟩,
    ⟨fun _ _ h => h, List.prefix_refl _, fun b u e _ => (upd_ne (ne b (by rw [e]; exact fun z => nomatch z))).trans e, fun b h => by show upd c.H p o b ≠ none; rw [upd_ne (ne b h)]; exact h, fun _ m => .inl m, fun _ h => .inl h⟩⟩
  · have z := O.cell n a cl h1 h2
    obtain ⟨u, e, _⟩ := z.there
    exact z.keep (k a (by rw [e]; exact fun z => nomatch z))
  · obtain ⟨a, e1, z⟩ := O.ow i cl h
    obtain ⟨u, e, _⟩ := z.there
    exact ⟨a, e1, z.keep (k a (by rw [e]; exact fun z => nomatch z))⟩
/-- what may stand behind an operation: no state of ours changed -/
def Fin2 (T : Tx) (c : Cf) (w : W) (Q : VK) : Prop := ∀ c1 v, c1.s = c.s → c1.σ = c.σ → Ok T c1 → Ext c c1 → RepW T c.H c1 w v → Q v c1.H
theorem Fin2.sc {d : D} {v : V} {Q : VK} (f : Fin2 T c (.val d) Q) (O : Ok T c) (r : Rep T c.F c.φ d v) : Q v c.H := f c v rfl rfl O (Ext.refl c) r
theorem Mu.none {p : Addr} (O : Ok T c) (hp : c.H p = none) : ¬ Mu c p := fun m => by
  obtain ⟨o, e, _⟩ := O.there m
  rw [hp] at e
  cases e
theorem F_none {p : Addr} (O : Ok T c) (hp : c.H p = none) : c.F p = none := by
  cases q : c.F p with
  | none => rfl
  | some o => rw [O.le p o q] at hp; cases hp
theorem Fin2.lst {ds : List D} {us : List V} {Q : VK} {p : Addr} (f : Fin2 T c (.new (.lst ds)) Q) (O : Ok T c) (r : Reps T c.F c.φ ds us) (hp : c.H p = none) : Q (.ref p) (upd c.H p (.lst us)) := by
  obtain ⟨O1, x1⟩ := O.alloc (o := .lst us) hp
  exact f { c with H := upd c.H p (.lst us) } _ rfl rfl O1 x1 ⟨p, rfl, ⟨us, upd_same, r⟩, F_none (c := c) O hp, (Mu.none (c := c) O hp : ¬ Mu c p), hp⟩
theorem Fin2.tup {ds : List D} {us : List V} {Q : VK} {p : Addr} (f : Fin2 T c (.val (.tup ds)) Q) (O : Ok T c) (r : Reps T c.F c.φ ds us) (hp : c.H p = none) : Q (.ref p) (upd c.H p (.tup us)) := by
  obtain ⟨O1, x1⟩ := O.alloc (o := .tup us) hp
  have O2 := O1.freeze (a := p) (show ¬ Mu { c with H := upd c.H p (.tup us) } p from (Mu.none O hp : ¬ Mu c p))
  have x2 := Ext.freeze (a := p) O1 x1 (.inl hp)
  have e : frF { c with H := upd c.H p (.tup us) } p p = some (.tup us) := (if_pos (.inl rfl)).trans upd_same
  exact f { c with H := upd c.H p (.tup us), F := frF { c with H := upd c.H p (.tup us) } p } _ rfl rfl O2 x2 ⟨p, us, rfl, e, r.mono (frF_le O1) (List.prefix_refl _)⟩
end

/-! ## Rules of expressions -/
def opt {α : Type} (o : Option α) : M α := fun s => match o with
  | some a => .ok a s
  | none => .stuck
section
variable {T : Tx} {c c0 : Cf} {α β : Type} {E : WX}
theorem Post.opt {o : Option α} {k : α → M β} {s : S} {R : Cf → β → Prop} (h : Post T c0 (Z.bnd (Z.opt o) k s) R E) : ∃ a, o = some a ∧ Post T c0 (k a s) R E := by
  cases o with
  | none => exact h.elim
  | some a => exact ⟨a, rfl, h⟩
theorem Post.opt1 {o : Option α} {s : S} {R : Cf → α → Prop} (h : Post T c0 (Z.opt o s) R E) : ∃ a, o = some a ∧ Post T c0 (.ok a s) R E := by
  cases o with
  | none => exact h.elim
  | some a => exact ⟨a, rfl, h⟩
theorem Post.fin {w : W} {Q : VK} (O : Ok T c) (x : Ext c0 c) (hσ : c.σ = c0.σ) (h : Post T c0 (.ok w c.s) (fun c1 w => ∀ v, RepW T c0.H c1 w v → Q v c1.H) E) : Fin2 T c w Q := fun c1 v e1 e2 O1 x1 r =>
  h c1 e1 (e2.trans hσ) O1 (x.trans x1) v (RepW.early x r)
end
def OpOk (X : Cx) (f : Value → Value → Sem Value) (g : D → D → Option W) : Prop :=
  ∃ r, OpR X f r ∧ ∀ c d1 d2 v1 v2 w Q, Ok (tx X) c → RepV (tx X) c d1 v1 → RepV (tx X) c d2 v2 → g d1 d2 = some w → Fin2 (tx X) c w Q → r v1 v2 c.H Q
def opM (g : D → D → Option W) (fa fb : M W) : M W := bnd fa fun x => bnd fb fun y => bnd (view x) fun dx => bnd (view y) fun dy => opt (g dx dy)
def nameM (i : Nat) : M W := fun s => match s.e[i]? with
  | some (.fz _) => .ok (.slot i) s
  | some (.ow _) => .ok (.slot i) s
  | _ => .stuck
def kI (i : Int) : M W := ret (.val (.int i))
def kB (b : Bool) : M W := ret (.val (.bl b))
def kN : M W := ret (.val .non)
def kS (x : Str) : M W := ret (.val (.str x))
section
variable {X : Cx} {Wx : WX} {e a b : Expr} {pos : Pos} {fa fb fc : M W}
theorem se_name (i : Nat) {x : Str} (hN : X.N[i]? = some x := by rfl) (hv : Vis X.env.scope x := by first | exact Or.inl rfl | exact Or.inr (Or.inl rfl) | exact Or.inr (Or.inr rfl)) (hd : (x == ("__debug__" : Str)) = false := by decide)
    (hcd : (x == ("__classdict__" : Str)) = false := by decide) : SE X Wx (.Name x pos) (nameM i) := ⟨PE.imp (pe_var hN hv hd hcd) fun σ H Q ⟨c, e1, e2, O, p⟩ => by
  subst e1 e2
  unfold nameM at p
  cases e : c.s.e[i]? with
  | none => simp only [e] at p; exact p.elim
  | some sl =>
    simp only [e] at p
    cases sl with
    | un => exact p.elim
    | fz d =>
      obtain ⟨v, e1, r⟩ := O.fz i d e
      exact ⟨v, e1, p.here O v e1⟩
    | ow cl =>
      obtain ⟨v, e1, r⟩ := O.ow i cl e
      exact ⟨_, e1, p.here O _ e1⟩⟩
theorem se_int {i j} : SE X Wx (.Constant (.int i) j pos) (kI i) := ⟨PE.imp pe_int fun σ H Q ⟨c, e1, e2, O, p⟩ => by
  subst e1 e2
  exact p.here O _ rfl⟩
theorem se_bl {b j} : SE X Wx (.Constant (.bool b) j pos) (kB b) := ⟨PE.imp pe_bl fun σ H Q ⟨c, e1, e2, O, p⟩ => by
  subst e1 e2
  exact p.here O _ rfl⟩
theorem se_non {j} : SE X Wx (.Constant .none j pos) kN := ⟨PE.imp pe_non fun σ H Q ⟨c, e1, e2, O, p⟩ => by
  subst e1 e2
  exact p.here O _ rfl⟩
theorem se_str {x j} : SE X Wx (.Constant (.str x) j pos) (kS x) := ⟨PE.imp pe_str fun σ H Q ⟨c, e1, e2, O, p⟩ => by
  subst e1 e2
  exact p.here O _ rfl⟩
/-- two operands, from the left, and what is done with them -/
theorem two_of {g : D → D → Option W} {r : R2} (hr : ∀ c d1 d2 v1 v2 w Q, Ok (tx X) c → RepV (tx X) c d1 v1 → RepV (tx X) c d2 v2 → g d1 d2 = some w → Fin2 (tx X) c w Q → r v1 v2 c.H Q)
    {σ : St} {H : Hp} {Q : VK} (h : tSE X Wx (opM g fa fb) σ H Q) : tOp r (tSE X Wx fa) (tSE X Wx fb) σ H Q := by
  obtain ⟨c, e1, e2, O, p⟩ := h
  subst e1 e2
  refine ⟨c, rfl, rfl, O, (Post.bnd2 p (Ext.refl c) rfl).imp fun c1 w hσ1 O1 x1 ⟨_, _, p1⟩ v r1 => ?_⟩
  refine ⟨c1, hσ1, rfl, O1, (Post.bnd2 p1 x1 hσ1).imp fun c2 w2 hσ2 O2 x2 ⟨x3, hσ3, p2⟩ v2 r2 => ?_⟩
  obtain ⟨d1, q1, p3⟩ := p2.view O2 x3 hσ3 (r1.ext O1 x2 hσ2)
  obtain ⟨d2, q2, p4⟩ := p3.view O2 x3 hσ3 r2
  obtain ⟨w3, e3, p5⟩ := p4.opt1
  exact hr c2 d1 d2 v v2 w3 Q O2 q1 q2 e3 (p5.fin O2 x3 hσ3)
theorem se_op {op : Operator} {g : D → D → Option W} (ho : OpOk X (binaryOp op) g) (ha : SE X Wx a fa) (hb : SE X Wx b fb) : SE X Wx (.BinOp a op b pos) (opM g fa fb) := by
  obtain ⟨r, h1, h2⟩ := ho
  exact ⟨PE.imp (pe_op h1 ha.pe hb.pe) fun σ H Q h => two_of h2 h⟩
/-- a comparison whose answer is a bool -/
def CmpOk (X : Cx) (f : Value → Value → Sem Value) (g : D → D → Option Bool) : Prop :=
  ∃ r, OpR X f r ∧ ∀ c d1 d2 v1 v2 b Q, Ok (tx X) c → RepV (tx X) c d1 v1 → RepV (tx X) c d2 v2 → g d1 d2 = some b → Q (.bl b) c.H → r v1 v2 c.H Q
def cmpM (g : D → D → Option Bool) (fa fb : M W) : M Bool := bnd fa fun x => bnd fb fun y => bnd (view x) fun dx => bnd (view y) fun dy => opt (g dx dy)
/-- a test as a value -/
def blM (f : M Bool) : M W := bnd f fun b => ret (.val (.bl b))
def tST (X : Cx) (Wx : WX) (f : M Bool) : TT := fun σ H Q => ∃ c : Cf, c.σ = σ ∧ c.H = H ∧ Ok (tx X) c ∧ Post (tx X) c (f c.s) (fun c1 b => Q b c1.H) Wx
/-- a test -/
structure ST (X : Cx) (Wx : WX) (e : Expr) (f : M Bool) : Prop where
  pt : PT X e (tST X Wx f)
theorem PT.imp {e : Expr} {t t' : TT} (h : PT X e t) (k : ∀ σ H Q, t' σ H Q → t σ H Q) : PT X e t' := ⟨fun pins s σ H Q I q => h.run pins s σ H Q I (k _ _ _ q)⟩
theorem cmp_of {g : D → D → Option Bool} {r : R2} (hr : ∀ c d1 d2 v1 v2 b Q, Ok (tx X) c → RepV (tx X) c d1 v1 → RepV (tx X) c d2 v2 → g d1 d2 = some b → Q (.bl b) c.H → r v1 v2 c.H Q)
    {σ : St} {H : Hp} {Q : Bool → Hp → Prop} (h : tST X Wx (cmpM g fa fb) σ H Q) : tOp r (tSE X Wx fa) (tSE X Wx fb) σ H fun x H1 => ∃ k, x = .bl k ∧ Q k H1 := by
  obtain ⟨c, e1, e2, O, p⟩ := h
  subst e1 e2
  refine ⟨c, rfl, rfl, O, (Post.bnd2 p (Ext.refl c) rfl).imp fun c1 w hσ1 O1 x1 ⟨_, _, p1⟩ v r1 => ?_⟩
  refine ⟨c1, hσ1, rfl, O1, (Post.bnd2 p1 x1 hσ1).imp fun c2 w2 hσ2 O2 x2 ⟨x3, hσ3, p2⟩ v2 r2 => ?_⟩
  obtain ⟨d1, q1, p3⟩ := p2.view O2 x3 hσ3 (r1.ext O1 x2 hσ2)
  obtain ⟨d2, q2, p4⟩ := p3.view O2 x3 hσ3 r2
  obtain ⟨b, e3, p5⟩ := p4.opt1
  exact hr c2 d1 d2 v v2 b _ O2 q1 q2 e3 ⟨b, rfl, p5.ok rfl hσ3 O2 x3⟩
theorem st_cmp {op : CmpOp} {g : D → D → Option Bool} (ho : CmpOk X (compareOp op) g) (ha : SE X Wx a fa) (hb : SE X Wx b fb) (hm : behindInMarks op b = false := by first | exact nomark _ | with_unfolding_all rfl) :
    ST X Wx (.Compare a [op] [b] pos) (cmpM g fa fb) := by
  obtain ⟨r, h1, h2⟩ := ho
  exact ⟨PT.imp (pt_cmpR h1 ha.pe hb.pe hm) fun σ H Q h => cmp_of h2 h⟩
def bW (o : Option Bool) : Option W := match o with
  | some b => some (.val (.bl b))
  | none => none
def cmpV (g : D → D → Option Bool) (fa fb : M W) : M W := opM (fun x y => bW (g x y)) fa fb
theorem se_cmp {op : CmpOp} {g : D → D → Option Bool} (ho : CmpOk X (compareOp op) g) (ha : SE X Wx a fa) (hb : SE X Wx b fb) (hm : behindInMarks op b = false := by first | exact nomark _ | with_unfolding_all rfl) :
    SE X Wx (.Compare a [op] [b] pos) (cmpV g fa fb) := by
  obtain ⟨r, h1, h2⟩ := ho
  refine ⟨PE.imp (pe_cmpR h1 ha.pe hb.pe hm) fun σ H Q h => two_of (fun c d1 d2 v1 v2 w Q O r1 r2 e f => ?_) h⟩
  cases q : g d1 d2 with
  | none => simp [bW, q] at e
  | some b =>
    simp only [bW, q, Option.some.injEq] at e
    subst e
    exact h2 c d1 d2 v1 v2 b Q O r1 r2 q (f.sc O rfl)
/-! ### tests -/
theorem st_not {f : M Bool} (h : ST X Wx a f) : ST X Wx (.UnaryOp .Not a pos) (bnd f fun b => ret (!b)) := ⟨PT.imp (pt_not h.pt) fun σ H Q ⟨c, e1, e2, O, p⟩ => by
  subst e1 e2
  exact ⟨c, rfl, rfl, O, (Post.bnd2 p (Ext.refl c) rfl).imp fun c1 b hσ1 O1 x1 ⟨_, _, p1⟩ => p1.ok rfl hσ1 O1 x1⟩⟩
structure SWT (X : Cx) (Wx : WX) (e : Expr) (f : M Bool) : Prop where
  pw : PW X e (tST X Wx f)
theorem PW.imp {e : Expr} {t t' : TT} (h : PW X e t) (k : ∀ σ H Q, t' σ H Q → t σ H Q) : PW X e t' := ⟨fun wh pins s σ H Q I q => h.run wh pins s σ H Q I (k _ _ _ q)⟩
theorem SWT.st {f : M Bool} (h : SWT X Wx e f) : ST X Wx e f := ⟨h.pw.pt⟩
theorem sw_and1 {f : M Bool} (h : ST X Wx a f) : SWT X Wx (.BoolOp .And [a] pos) f := ⟨pw_and1 h.pt⟩
theorem sw_or1 {f : M Bool} (h : ST X Wx a f) : SWT X Wx (.BoolOp .Or [a] pos) f := ⟨pw_or1 h.pt⟩
def andM (f g : M Bool) : M Bool := bnd f fun b => if b = true then g else ret false
def orM (f g : M Bool) : M Bool := bnd f fun b => if b = true then ret true else g
variable {rest : List Expr} {f g : M Bool}
theorem sw_and (ha : ST X Wx a f) (hb : SWT X Wx (.BoolOp .And (b :: rest) pos) g) : SWT X Wx (.BoolOp .And (a :: b :: rest) pos) (andM f g) := ⟨PW.imp (pw_and ha.pt hb.pw) fun σ H Q ⟨c, e1, e2, O, p⟩ => by
  subst e1 e2
  refine ⟨c, rfl, rfl, O, (Post.bnd2 p (Ext.refl c) rfl).imp fun c1 b hσ1 O1 x1 ⟨_, _, p1⟩ => ?_⟩
  cases b with
  | true => exact ⟨c1, hσ1, rfl, O1, p1.from x1 hσ1⟩
  | false => exact p1.ok rfl hσ1 O1 x1⟩
theorem sw_or (ha : ST X Wx a f) (hb : SWT X Wx (.BoolOp .Or (b :: rest) pos) g) : SWT X Wx (.BoolOp .Or (a :: b :: rest) pos) (orM f g) := ⟨PW.imp (pw_or ha.pt hb.pw) fun σ H Q ⟨c, e1, e2, O, p⟩ => by
  subst e1 e2
  refine ⟨c, rfl, rfl, O, (Post.bnd2 p (Ext.refl c) rfl).imp fun c1 b hσ1 O1 x1 ⟨_, _, p1⟩ => ?_⟩
  cases b with
  | true => exact p1.ok rfl hσ1 O1 x1
  | false => exact ⟨c1, hσ1, rfl, O1, p1.from x1 hσ1⟩⟩
end
end Z

namespace Z
open PySem L2

section
variable {X : Cx} {Wx : WX} {e a b : Expr} {es rest : List Expr} {pos : Pos} {fa fb fc : M W}
theorem PW.imp' {e : Expr} {t t' : TT} (h : PW X e t) (k : ∀ σ H Q, t' σ H Q → t σ H Q) : PW X e t' := PW.imp h k
/-! ### a test of a value's truth -/
def truD : D → Option Bool
  | .non => some false
  | .bl b => some b
  | .int i => some (i != 0)
  | .str y => if y.length ≤ sizeLine then some ((y.length : Int) != 0) else none
  | .tup xs => some (!xs.isEmpty)
  | .ktp xs => some (!xs.isEmpty)
  | .lst xs => some (!xs.isEmpty)
  | .scr xs => some (!xs.isEmpty)
  | .dK ks _ => some (!ks.isEmpty)
  | _ => none
theorem empty_of {T : Tx} {F : Hp} {φ : List Addr} {ds : List D} {us : List V} (r : Reps T F φ ds us) : us.isEmpty = ds.isEmpty := by
  have := r.len
  cases us <;> cases ds <;> simp_all
theorem truD_ok {T : Tx} {H : Hp} {φ : List Addr} {d : D} {v : V} {b : Bool} (r : Rep T H φ d v) (h : truD d = some b) : TruV T.K v H b := by
  cases d with
  | non => cases (show v = .non from r); simpa [truD, TruV, eq_comm] using h
  | bl x => cases (show v = .bl x from r); simpa [truD, TruV, eq_comm] using h
  | int i => cases (show v = .int i from r); simp only [truD, Option.some.injEq] at h; exact h.symm
  | str y =>
    cases (show v = .str y from r)
    simp only [truD] at h
    split at h
    · exact ⟨by assumption, (Option.some.inj h).symm⟩
    · cases h
  | tup xs =>
    obtain ⟨a, us, rfl, q, r⟩ := r
    exact .inr (.inl ⟨us, .of q, by rw [empty_of r]; exact (Option.some.inj h).symm⟩)
  | ktp xs =>
    obtain ⟨a, us, rfl, q, r⟩ := r
    exact .inr (.inl ⟨us, q.sq, by rw [empty_of r]; exact (Option.some.inj h).symm⟩)
  | lst xs =>
    obtain ⟨a, us, rfl, q, r⟩ := r
    exact .inl ⟨us, .of q, by rw [empty_of r]; exact (Option.some.inj h).symm⟩
  | scr xs =>
    obtain ⟨a, us, rfl, q, r⟩ := r
    exact .inl ⟨us, q, by rw [empty_of r]; exact (Option.some.inj h).symm⟩
  | dK ks vs =>
    obtain ⟨a, us, rfl, z, q, r⟩ := r
    refine .inr (.inr ⟨_, q, ?_⟩)
    have e := (Option.some.inj h).symm
    rw [e]
    congr 1
    cases ks <;> cases us <;> simp_all
  | _ => cases h
def truM (fa : M W) : M Bool := bnd fa fun x => bnd (view x) fun d => opt (truD d)
theorem st_truth (ha : SE X Wx a fa) (he : ∀ whole, isTrue a X.env whole = (do let v ← whole; standAt a.pos; holding [v] (truthy v)) := by intro _; rfl) : ST X Wx a (truM fa) := ⟨PT.imp (pt_truth ha.pe he) fun σ H Q ⟨c, e1, e2, O, p⟩ => by
  subst e1 e2
  refine ⟨c, rfl, rfl, O, (Post.bnd2 p (Ext.refl c) rfl).imp fun c1 w hσ1 O1 x1 ⟨_, _, p1⟩ v r => ?_⟩
  obtain ⟨d, q, p2⟩ := p1.view O1 x1 hσ1 r
  obtain ⟨b, e, p3⟩ := p2.opt1
  exact ⟨b, truD_ok (q.up O1) e, p3.ok rfl hσ1 O1 x1⟩⟩
/-! ### and, or, not as values; by truth -/
theorem se_one {op} (h : SE X Wx a fa) : SE X Wx (.BoolOp op [a] pos) fa := ⟨pe_one h.pe⟩
def andV (fa fb : M W) : M W := bnd fa fun x => bnd (view x) fun d => bnd (opt (truD d)) fun b => if b = true then fb else ret x
def orV (fa fb : M W) : M W := bnd fa fun x => bnd (view x) fun d => bnd (opt (truD d)) fun b => if b = true then ret x else fb
def notV (fa : M W) : M W := bnd fa fun x => bnd (view x) fun d => bnd (opt (truD d)) fun b => ret (.val (.bl (!b)))
theorem tSE_from {c c1 : Cf} {f : M W} {Q : VK} (x : Ext c c1) (hσ : c1.σ = c.σ) (O1 : Ok (tx X) c1) (p : Post (tx X) c (f c1.s) (fun c2 w => ∀ v, RepW (tx X) c.H c2 w v → Q v c2.H) Wx) : tSE X Wx f c1.σ c1.H Q :=
  ⟨c1, rfl, rfl, O1, (p.from x hσ).imp fun c2 w _ _ _ q v r => q v (RepW.early x r)⟩
theorem se_and (ha : SE X Wx a fa) (hb : SE X Wx (.BoolOp .And (b :: rest) pos) fb) : SE X Wx (.BoolOp .And (a :: b :: rest) pos) (andV fa fb) := ⟨PE.imp (pe_andT ha.pe hb.pe) fun σ H Q ⟨c, e1, e2, O, p⟩ => by
  subst e1 e2
  refine ⟨c, rfl, rfl, O, (Post.bnd2 p (Ext.refl c) rfl).imp fun c1 w hσ1 O1 x1 ⟨_, _, p1⟩ v r => ?_⟩
  obtain ⟨d, q, p2⟩ := p1.view O1 x1 hσ1 r
  obtain ⟨b, e, p3⟩ := p2.opt
  refine ⟨b, truD_ok (q.up O1) e, ?_⟩
  cases b with
  | true => rw [← hσ1]; exact tSE_from x1 hσ1 O1 p3
  | false => exact p3.ok rfl hσ1 O1 x1 v r⟩
theorem se_or (ha : SE X Wx a fa) (hb : SE X Wx (.BoolOp .Or (b :: rest) pos) fb) : SE X Wx (.BoolOp .Or (a :: b :: rest) pos) (orV fa fb) := ⟨PE.imp (pe_orT ha.pe hb.pe) fun σ H Q ⟨c, e1, e2, O, p⟩ => by
  subst e1 e2
  refine ⟨c, rfl, rfl, O, (Post.bnd2 p (Ext.refl c) rfl).imp fun c1 w hσ1 O1 x1 ⟨_, _, p1⟩ v r => ?_⟩
  obtain ⟨d, q, p2⟩ := p1.view O1 x1 hσ1 r
  obtain ⟨b, e, p3⟩ := p2.opt
  refine ⟨b, truD_ok (q.up O1) e, ?_⟩
  cases b with
  | true => exact p3.ok rfl hσ1 O1 x1 v r
  | false => rw [← hσ1]; exact tSE_from x1 hσ1 O1 p3⟩
theorem se_not (ha : SE X Wx a fa) : SE X Wx (.UnaryOp .Not a pos) (notV fa) := ⟨PE.imp (pe_notT ha.pe) fun σ H Q ⟨c, e1, e2, O, p⟩ => by
  subst e1 e2
  refine ⟨c, rfl, rfl, O, (Post.bnd2 p (Ext.refl c) rfl).imp fun c1 w hσ1 O1 x1 ⟨_, _, p1⟩ v r => ?_⟩
  obtain ⟨d, q, p2⟩ := p1.view O1 x1 hσ1 r
  obtain ⟨b, e, p3⟩ := p2.opt
  exact ⟨b, truD_ok (q.up O1) e, p3.ok rfl hσ1 O1 x1 _ rfl⟩⟩
def iteM (ft : M Bool) (fa fb : M W) : M W := bnd ft fun b => if b = true then fa else fb
theorem se_if {ft : M Bool} {t : Expr} (ht : ST X Wx t ft) (ha : SE X Wx a fa) (hb : SE X Wx b fb) : SE X Wx (.IfExp t a b pos) (iteM ft fa fb) := ⟨PE.imp (pe_ifExp ht.pt ha.pe hb.pe) fun σ H Q ⟨c, e1, e2, O, p⟩ => by
  subst e1 e2
  refine ⟨c, rfl, rfl, O, (Post.bnd2 p (Ext.refl c) rfl).imp fun c1 b hσ1 O1 x1 ⟨_, _, p1⟩ => ?_⟩
  cases b with
  | true => rw [← hσ1]; exact tSE_from x1 hσ1 O1 p1
  | false => rw [← hσ1]; exact tSE_from x1 hσ1 O1 p1⟩
/-! ### argument lists -/
/-- a new object is data at once; a name stays a name -/
def fix (w : W) : M W := match w with
  | .new c => ret (.val c.toD)
  | w => ret w
def RepA (T : Tx) (c : Cf) : W → V → Prop
  | .val d, v => Rep T c.F c.φ d v
  | .slot i, v => c.σ[i]? = some (some v)
  | .new _, _ => False
theorem RepA.w {T : Tx} {H0 : Hp} {c : Cf} {w : W} {v : V} (h : RepA T c w v) : RepW T H0 c w v := by
  cases w with
  | new _ => exact h.elim
  | _ => exact h
theorem RepA.ext {T : Tx} {c c1 : Cf} {w : W} {v : V} (h : RepA T c w v) (x : Ext c c1) (hσ : c1.σ = c.σ) : RepA T c1 w v := by
  cases w with
  | new _ => exact h.elim
  | val d => exact Rep.mono x.le x.pre h
  | slot i => exact (by rw [hσ]; exact h : c1.σ[i]? = some (some v))
theorem Post.fix {T : Tx} {c0 c : Cf} {β : Type} {E : WX} {R : Cf → β → Prop} {w : W} {v : V} {k : W → M β} (h : Post T c0 (Z.bnd (Z.fix w) k c.s) R E) (O : Ok T c) (x : Ext c0 c) (hσ : c.σ = c0.σ) (r : RepW T c0.H c w v) :
    ∃ c1 w1, c1.σ = c.σ ∧ c1.H = c.H ∧ Ok T c1 ∧ Ext c0 c1 ∧ RepA T c1 w1 v ∧ Post T c0 (k w1 c1.s) R E := by
  cases w with
  | val d => exact ⟨c, .val d, rfl, rfl, O, x, r, h⟩
  | slot i => exact ⟨c, .slot i, rfl, rfl, O, x, r, h⟩
  | new cl =>
    obtain ⟨a, rfl, hc, f, n, z⟩ := r
    exact ⟨_, .val cl.toD, (by rfl), (by rfl), O.freeze n, Ext.freeze O x (.inl z), frF_rep O hc, h⟩
def RepAs (T : Tx) (c : Cf) : List W → List V → Prop
  | [], vs => vs = []
  | w :: ws, vs => ∃ v r, vs = v :: r ∧ RepA T c w v ∧ RepAs T c ws r
theorem RepAs.ext {T : Tx} {c c1 : Cf} (x : Ext c c1) (hσ : c1.σ = c.σ) : ∀ {ws : List W} {vs : List V}, RepAs T c ws vs → RepAs T c1 ws vs
  | [], _, h => h
  | w :: ws, _, ⟨v, r, e, h1, h2⟩ => ⟨v, r, e, h1.ext x hσ, h2.ext x hσ⟩
def tSA (X : Cx) (Wx : WX) (f : M (List W)) : TA := fun σ H Q => ∃ c : Cf, c.σ = σ ∧ c.H = H ∧ Ok (tx X) c ∧ Post (tx X) c (f c.s) (fun c1 ws => ∀ vs, RepAs (tx X) c1 ws vs → Q vs c1.H) Wx
structure SA (X : Cx) (Wx : WX) (es : List Expr) (f : M (List W)) : Prop where
  pa : PA X es (tSA X Wx f)
theorem PA.imp {es : List Expr} {t t' : TA} (h : PA X es t) (k : ∀ σ H Q, t' σ H Q → t σ H Q) : PA X es t' := ⟨fun p pins s σ H Q I q => h.run p pins s σ H Q I (k _ _ _ q)⟩
def nilA : M (List W) := ret []
def consA (f : M W) (g : M (List W)) : M (List W) := bnd f fun x => bnd (fix x) fun x => bnd g fun r => ret (x :: r)
theorem sa_nil : SA X Wx [] nilA := ⟨PA.imp pa_nil fun σ H Q ⟨c, e1, e2, O, p⟩ => by
  subst e1 e2
  exact p.here O [] rfl⟩
theorem tSA_step {ta : TE} {t : TA} {fs : M (List W)} (ka : ∀ σ H Q, tSE X Wx fa σ H Q → ta σ H Q) (kt : ∀ σ H Q, tSA X Wx fs σ H Q → t σ H Q) {σ : St} {H : Hp} {Q : List V → Hp → Prop} (h : tSA X Wx (consA fa fs) σ H Q) : tCons ta t σ H Q := by
  obtain ⟨c, e1, e2, O, p⟩ := h
  subst e1 e2
  refine ka _ _ _ ⟨c, rfl, rfl, O, (Post.bnd2 p (Ext.refl c) rfl).imp fun c1 w hσ1 O1 x1 ⟨_, _, p1⟩ v r1 => ?_⟩
  obtain ⟨c1', w', h1, h2, O1', x1', r1', p1'⟩ := p1.fix O1 x1 hσ1 r1
  rw [← h2]
  refine kt _ _ _ ⟨c1', h1.trans hσ1, rfl, O1', (Post.bnd2 p1' x1' (h1.trans hσ1)).imp fun c2 ws hσ2 O2 x2 ⟨x3, hσ3, p2⟩ vs r2 => ?_⟩
  exact p2.ok rfl hσ3 O2 x3 (v :: vs) ⟨v, vs, rfl, r1'.ext x2 hσ2, r2⟩
theorem sa_cons {fs : M (List W)} (ha : SE X Wx e fa) (hr : SA X Wx es fs) (hs : starEach (e :: es) X.env = (false, eval e X.env) :: starEach es X.env := by rfl) : SA X Wx (e :: es) (consA fa fs) :=
  ⟨PA.imp (pa_cons ha.pe hr.pa hs) fun σ H Q h => tSA_step (fun _ _ _ h => h) (fun _ _ _ h => h) h⟩
/-- all of them as data, from the left -/
def toDs : List W → M (List D)
  | [] => ret []
  | w :: ws => bnd (toD w) fun d => bnd (toDs ws) fun ds => ret (d :: ds)
theorem Post.toDA {T : Tx} {c0 c : Cf} {β : Type} {E : WX} {R : Cf → β → Prop} {w : W} {v : V} {k : D → M β} (h : Post T c0 (Z.bnd (Z.toD w) k c.s) R E) (O : Ok T c) (r : RepA T c w v) :
    ∃ c1 d, c1.σ = c.σ ∧ c1.H = c.H ∧ Ok T c1 ∧ Ext c c1 ∧ Rep T c1.F c1.φ d v ∧ Post T c0 (k d c1.s) R E := by
  cases w with
  | new _ => exact r.elim
  | val d => exact ⟨c, d, rfl, rfl, O, Ext.refl c, r, h⟩
  | slot i =>
    have r : c.σ[i]? = some (some v) := r
    unfold Z.bnd Z.toD at h
    cases e : c.s.e[i]? with
    | none => simp only [e] at h; exact h.elim
    | some sl =>
      simp only [e] at h
      cases sl with
      | un => exact h.elim
      | fz d =>
        obtain ⟨v', e1, r'⟩ := O.fz i d e
        rw [r] at e1
        cases e1
        exact ⟨c, d, rfl, rfl, O, Ext.refl c, r', h⟩
      | ow cl =>
        obtain ⟨a, e1, r'⟩ := O.ow i cl e
        rw [r] at e1
        cases e1
        obtain ⟨O1, x1⟩ := O.drop e r
        exact ⟨_, _, (by rfl), (by rfl), O1, x1, frF_rep O r', h⟩
theorem bnd_assoc {α β γ : Type} (f : M α) (k : α → M β) (k2 : β → M γ) : bnd (bnd f k) k2 = bnd f fun a => bnd (k a) k2 := by
  funext s
  unfold bnd
  cases f s <;> rfl
theorem Post.toDs {T : Tx} {c0 : Cf} {β : Type} {E : WX} {R : Cf → β → Prop} : ∀ {ws : List W} {vs : List V} {c : Cf} {k : List D → M β}, Post T c0 (Z.bnd (Z.toDs ws) k c.s) R E → Ok T c → RepAs T c ws vs →
    ∃ c1 ds, c1.σ = c.σ ∧ c1.H = c.H ∧ Ok T c1 ∧ Ext c c1 ∧ Reps T c1.F c1.φ ds vs ∧ Post T c0 (k ds c1.s) R E
  | [], vs, c, k, h, O, r => ⟨c, [], rfl, rfl, O, Ext.refl c, r, h⟩
  | w :: ws, _, c, k, h, O, ⟨v, r, rfl, h1, h2⟩ => by
    unfold Z.toDs at h
    rw [bnd_assoc] at h
    obtain ⟨c1, d, e1, e2, O1, x1, r1, h⟩ := h.toDA O h1
    rw [bnd_assoc] at h
    obtain ⟨c2, ds, e3, e4, O2, x2, r2, h⟩ := h.toDs O1 (h2.ext x1 e1)
    exact ⟨c2, d :: ds, e3.trans e1, e4.trans e2, O2, x1.trans x2, ⟨v, r, rfl, r1.mono x2.le x2.pre, r2⟩, h⟩
/-- all of them as they stand -/
def views : List W → M (List D)
  | [] => ret []
  | w :: ws => bnd (view w) fun d => bnd (views ws) fun ds => ret (d :: ds)
def RepVs (T : Tx) (c : Cf) : List D → List V → Prop
  | [], vs => vs = []
  | d :: ds, vs => ∃ v r, vs = v :: r ∧ RepV T c d v ∧ RepVs T c ds r
theorem Post.views {T : Tx} {c0 c : Cf} {β : Type} {E : WX} {R : Cf → β → Prop} (O : Ok T c) (x : Ext c0 c) (hσ : c.σ = c0.σ) : ∀ {ws : List W} {vs : List V} {k : List D → M β}, Post T c0 (Z.bnd (Z.views ws) k c.s) R E → RepAs T c ws vs →
    ∃ ds, RepVs T c ds vs ∧ Post T c0 (k ds c.s) R E
  | [], vs, k, h, r => ⟨[], r, h⟩
  | w :: ws, _, k, h, ⟨v, r, rfl, h1, h2⟩ => by
    unfold Z.views at h
    rw [bnd_assoc] at h
    obtain ⟨d, q, h⟩ := h.view O x hσ (RepA.w (H0 := c.H) h1)
    rw [bnd_assoc] at h
    obtain ⟨ds, q2, h⟩ := Post.views O x hσ h h2
    exact ⟨d :: ds, ⟨v, r, rfl, q, q2⟩, h⟩
/-! ### displays -/
def tupM (f : M (List W)) : M W := bnd f fun ws => bnd (toDs ws) fun ds => if ds.length ≤ sizeLine then ret (.val (.tup ds)) else stuck
def lstM (f : M (List W)) : M W := bnd f fun ws => bnd (toDs ws) fun ds => if ds.length ≤ sizeLine then ret (.new (.lst ds)) else stuck
variable {fs : M (List W)}
theorem disp_of {k : List D → M W} {t : St → Hp → VK → Prop} (ht : ∀ (σ : St) (H : Hp) (Q : VK), (tSA X Wx fs σ H fun us H1 => ∃ (c0 c : Cf) (ds : List D), c0.H = H ∧ c.H = H1 ∧ c.σ = σ ∧ c0.σ = σ ∧ Ok (tx X) c ∧ Ext c0 c ∧ Reps (tx X) c.F c.φ ds us ∧ Post (tx X) c0 (k ds c.s) (fun c1 w => ∀ v, RepW (tx X) c0.H c1 w v → Q v c1.H) Wx) → t σ H Q)
    {σ : St} {H : Hp} {Q : VK} (h : tSE X Wx (bnd fs fun ws => bnd (toDs ws) k) σ H Q) : t σ H Q := by
  obtain ⟨c, e1, e2, O, p⟩ := h
  subst e1 e2
  refine ht _ _ _ ⟨c, rfl, rfl, O, (Post.bnd2 p (Ext.refl c) rfl).imp fun c1 ws hσ1 O1 x1 ⟨_, _, p1⟩ us r => ?_⟩
  obtain ⟨c2, ds, h1, h2, O2, x2, r2, p2⟩ := p1.toDs O1 r
  exact ⟨c, c2, ds, rfl, h2, h1.trans hσ1, rfl, O2, x1.trans x2, r2, p2⟩
theorem se_tup {x1} (h : SA X Wx es fs) : SE X Wx (.Tuple es x1 pos) (tupM fs) := ⟨PE.imp (pe_tup h.pa) fun σ H Q q => disp_of (t := tTup (tSA X Wx fs)) (fun σ H Q ⟨c, e1, e2, O, p⟩ => ⟨c, e1, e2, O, p.imp fun c1 ws hσ O1 x q us r => by
  obtain ⟨c0, c2, ds, e3, e4, e5, e6, O2, x2, r2, p2⟩ := q us r
  by_cases z : ds.length ≤ sizeLine
  · rw [if_pos z] at p2
    rw [← e4]
    exact ⟨by rw [r2.len]; exact z, fun p hp => (p2.fin O2 x2 (e5.trans e6.symm)).tup O2 r2 hp⟩
  · rw [if_neg z] at p2
    exact p2.elim⟩) q⟩
theorem se_lst (h : SA X Wx es fs) : SE X Wx (.List es pos) (lstM fs) := ⟨PE.imp (pe_lst h.pa) fun σ H Q q => disp_of (t := tLst (tSA X Wx fs)) (fun σ H Q ⟨c, e1, e2, O, p⟩ => ⟨c, e1, e2, O, p.imp fun c1 ws hσ O1 x q us r => by
  obtain ⟨c0, c2, ds, e3, e4, e5, e6, O2, x2, r2, p2⟩ := q us r
  by_cases z : ds.length ≤ sizeLine
  · rw [if_pos z] at p2
    rw [← e4]
    exact ⟨by rw [r2.len]; exact z, fun p hp => (p2.fin O2 x2 (e5.trans e6.symm)).lst O2 r2 hp⟩
  · rw [if_neg z] at p2
    exact p2.elim⟩) q⟩
/-! ### built-in functions -/
def CallOk (X : Cx) (f : Value) (g : List D → Option W) : Prop :=
  ∃ r, CallR X f r ∧ ∀ c ds vs w Q, Ok (tx X) c → RepVs (tx X) c ds vs → g ds = some w → Fin2 (tx X) c w Q → r vs c.H Q
def callM (g : List D → Option W) (fs : M (List W)) : M W := bnd fs fun ws => bnd (views ws) fun ds => opt (g ds)
theorem call_of {g : List D → Option W} {r : List V → Hp → VK → Prop} (hr : ∀ c ds vs w Q, Ok (tx X) c → RepVs (tx X) c ds vs → g ds = some w → Fin2 (tx X) c w Q → r vs c.H Q) {σ : St} {H : Hp} {Q : VK} (h : tSE X Wx (callM g fs) σ H Q) : tCB r (tSA X Wx fs) σ H Q := by
  obtain ⟨c, e1, e2, O, p⟩ := h
  subst e1 e2
  refine ⟨c, rfl, rfl, O, (Post.bnd2 p (Ext.refl c) rfl).imp fun c1 ws hσ1 O1 x1 ⟨_, _, p1⟩ us r => ?_⟩
  obtain ⟨ds, q, p2⟩ := Post.views O1 x1 hσ1 p1 r
  obtain ⟨w, e, p3⟩ := p2.opt1
  exact hr c1 ds us w Q O1 q e (p3.fin O1 x1 hσ1)
theorem se_callB {x : Str} {id : String} {p : Pos} {g : List D → Option W} (hc : CallOk X (.builtin id) g) (hg : Gl X x) (hm : X.mg x = none) (hv : bootBuiltins x = some (.builtin id)) (ha : SA X Wx (e :: es) fs) (hn : x ≠ "__name__" := by decide) (hdb : (x == ("__debug__" : Str)) = false := by decide)
    (he : starEach (e :: es) X.env = (false, eval e X.env) :: starEach es X.env := by rfl) (hpl : (backTo pos (starEach es X.env)).any (·.1) = false := by rfl) : SE X Wx (.Call (.Name x p) (e :: es) [] pos) (callM g fs) := by
  obtain ⟨r, h1, h2⟩ := hc
  exact ⟨PE.imp (pe_callB h1 hg hm hv ha.pa hn hdb he hpl) fun σ H Q h => call_of h2 h⟩
theorem se_callTy {x : Str} {id : String} {p : Pos} {g : List D → Option W} (hc : CallOk X (.type id) g) (hg : Gl X x) (hm : X.mg x = none) (hv : bootBuiltins x = some (.type id)) (ha : SA X Wx (e :: es) fs) (hn : x ≠ "__name__" := by decide) (hdb : (x == ("__debug__" : Str)) = false := by decide)
    (he : starEach (e :: es) X.env = (false, eval e X.env) :: starEach es X.env := by rfl) (hpl : (backTo pos (starEach es X.env)).any (·.1) = false := by rfl) : SE X Wx (.Call (.Name x p) (e :: es) [] pos) (callM g fs) := by
  obtain ⟨r, h1, h2⟩ := hc
  exact ⟨PE.imp (pe_callTy h1 hg hm hv ha.pa hn hdb he hpl) fun σ H Q h => call_of h2 h⟩
end
end Z

namespace Z
open PySem L2

/-! ## What a value is, by its data -/
section
variable {T : Tx} {c : Cf} {v : V}
theorem RepV.int {i : Int} (h : RepV T c (.int i) v) : v = .int i := by
  cases h with
  | dat r => exact r
  | cel cl a e => cases cl <;> cases e
theorem RepV.bl {b : Bool} (h : RepV T c (.bl b) v) : v = .bl b := by
  cases h with
  | dat r => exact r
  | cel cl a e => cases cl <;> cases e
theorem RepV.str {x : Str} (h : RepV T c (.str x) v) : v = .str x := by
  cases h with
  | dat r => exact r
  | cel cl a e => cases cl <;> cases e
theorem RepV.non (h : RepV T c .non v) : v = .non := by
  cases h with
  | dat r => exact r
  | cel cl a e => cases cl <;> cases e
theorem RepV.tup {ds : List D} (h : RepV T c (.tup ds) v) (O : Ok T c) : ∃ a us, v = .ref a ∧ c.H a = some (.tup us) ∧ Reps T c.F c.φ ds us := by
  cases h with
  | dat r =>
    obtain ⟨a, us, e, q, r⟩ := r
    exact ⟨a, us, e, O.le _ _ q, r⟩
  | cel cl a e => cases cl <;> cases e
theorem RepV.ktp {ds : List D} (h : RepV T c (.ktp ds) v) (O : Ok T c) : ∃ a us, v = .ref a ∧ TqT T.K c.H a us ∧ Reps T c.F c.φ ds us := by
  cases h with
  | dat r =>
    obtain ⟨a, us, e, q, r⟩ := r
    exact ⟨a, us, e, TqT.le O.le q, r⟩
  | cel cl a e => cases cl <;> cases e
/-- a tuple is data -/
theorem RepV.tupF {ds : List D} (h : RepV T c (.tup ds) v) : Rep T c.F c.φ (.tup ds) v := by
  cases h with
  | dat r => exact r
  | cel cl a e => cases cl <;> cases e
theorem RepV.lst {ds : List D} (h : RepV T c (.lst ds) v) (O : Ok T c) : ∃ a us, v = .ref a ∧ c.H a = some (.lst us) ∧ Reps T c.F c.φ ds us := by
  cases h with
  | dat r =>
    obtain ⟨a, us, e, q, r⟩ := r
    exact ⟨a, us, e, O.le _ _ q, r⟩
  | cel cl a e1 e2 h =>
    cases cl with
    | lst xs =>
      cases e1
      obtain ⟨us, q, r⟩ := h
      exact ⟨a, us, e2, q, r⟩
    | _ => cases e1
theorem RepV.scr {ds : List D} (h : RepV T c (.scr ds) v) (O : Ok T c) : ∃ a us, v = .ref a ∧ SqL T.K c.H a us ∧ Reps T c.F c.φ ds us := by
  cases h with
  | dat r =>
    obtain ⟨a, us, e, q, r⟩ := r
    exact ⟨a, us, e, SqL.le O.le q, r⟩
  | cel cl a e => cases cl <;> cases e
/-- the items of a list or a tuple -/
def seqOf : D → Option (List D)
  | .lst ds => some ds
  | .scr ds => some ds
  | .tup ds => some ds
  | .ktp ds => some ds
  | _ => none
def lstOf : D → Option (List D)
  | .lst ds => some ds
  | .scr ds => some ds
  | _ => none
theorem RepV.lstOf {d : D} {ds : List D} (h : RepV T c d v) (O : Ok T c) (e : Z.lstOf d = some ds) : ∃ a us, v = .ref a ∧ SqL T.K c.H a us ∧ Reps T c.F c.φ ds us := by
  cases d <;> simp only [Z.lstOf, Option.some.injEq, reduceCtorEq] at e
  · subst e
    obtain ⟨a, us, e, q, r⟩ := h.lst O
    exact ⟨a, us, e, .of q, r⟩
  · subst e
    exact h.scr O
theorem RepV.seqOf {d : D} {ds : List D} (h : RepV T c d v) (O : Ok T c) (e : Z.seqOf d = some ds) : ∃ a us, v = .ref a ∧ (SqL T.K c.H a us ∨ SqT T.K c.H a us) ∧ Reps T c.F c.φ ds us := by
  cases d <;> simp only [Z.seqOf, Option.some.injEq, reduceCtorEq] at e
  · subst e
    obtain ⟨a, us, e, q, r⟩ := h.tup O
    exact ⟨a, us, e, .inr (.of q), r⟩
  · subst e
    obtain ⟨a, us, e, q, r⟩ := h.ktp O
    exact ⟨a, us, e, .inr q.sq, r⟩
  · subst e
    obtain ⟨a, us, e, q, r⟩ := h.lst O
    exact ⟨a, us, e, .inl (.of q), r⟩
  · subst e
    obtain ⟨a, us, e, q, r⟩ := h.scr O
    exact ⟨a, us, e, .inl q, r⟩
end

/-! ## Operators -/
def addG : D → D → Option W
  | .int i, .int j => some (.val (.int (i + j)))
  | .str x, .str y => if x.length + y.length ≤ sizeLine then some (.val (.str (x ++ y))) else none
  | .lst xs, .lst ys => if xs.length + ys.length ≤ sizeLine then some (.new (.lst (xs ++ ys))) else none
  | .tup xs, .tup ys => if xs.length + ys.length ≤ sizeLine then some (.val (.tup (xs ++ ys))) else none
  | .int i, .bl k => some (.val (.int (i + PyProof.Rows.b2i k)))
  | _, _ => none
def subG : D → D → Option W
  | .int i, .int j => some (.val (.int (i - j)))
  | _, _ => none
def mulG : D → D → Option W
  | .int i, .int j => if i.natAbs.log2 + j.natAbs.log2 < 1000000 then some (.val (.int (i * j))) else none
  | .lst xs, .int k => if -(2 ^ 63) ≤ k ∧ k < 2 ^ 63 ∧ xs.length * k.toNat ≤ sizeLine then some (.new (.lst (List.replicate k.toNat xs).flatten)) else none
  | _, _ => none
def fdivG : D → D → Option W
  | .int i, .int j => if 0 < j ∧ j.natAbs.log2 < 9000 then some (.val (.int (i / j))) else none
  | _, _ => none
def modG : D → D → Option W
  | .int i, .int j => if 0 < j then some (.val (.int (i % j))) else none
  | _, _ => none
def powG : D → D → Option W
  | .int i, .int j => if 0 ≤ j ∧ j ≤ 1000000 ∧ i.natAbs < 2 ^ 64 then some (.val (.int (i ^ j.toNat))) else none
  | _, _ => none
def shlG : D → D → Option W
  | .int i, .int j => if 0 ≤ j ∧ j ≤ 1000000 ∧ i.natAbs < 2 ^ 64 then some (.val (.int (i * 2 ^ j.toNat))) else none
  | _, _ => none
def shrG : D → D → Option W
  | .int i, .int j => if 0 ≤ j then some (.val (.int (i / 2 ^ j.toNat))) else none
  | _, _ => none
def bandG : D → D → Option W
  | .int i, .int j => some (.val (.int (Builtin.bitAnd i j)))
  | _, _ => none
def borG : D → D → Option W
  | .int i, .int j => some (.val (.int (Builtin.bitOr i j)))
  | _, _ => none
section
variable {X : Cx}
theorem OpOk.ints {f : Value → Value → Sem Value} {C : Int → Int → Prop} {h : Int → Int → Int} {g : D → D → Option W} (o : OpR X f (rI C fun i j => .int (h i j))) (e : ∀ d1 d2 w, g d1 d2 = some w → ∃ i j, d1 = .int i ∧ d2 = .int j ∧ C i j ∧ w = .val (.int (h i j))) : OpOk X f g :=
  ⟨_, o, fun c d1 d2 v1 v2 w Q O r1 r2 q f => by
    obtain ⟨i, j, rfl, rfl, hc, rfl⟩ := e d1 d2 w q
    exact ⟨i, j, r1.int, r2.int, hc, f.sc O rfl⟩⟩
theorem OpOk.ints0 {f : Value → Value → Sem Value} {h : Int → Int → Int} {g : D → D → Option W} (o : OpR X f (rI0 fun i j => .int (h i j))) (e : ∀ d1 d2 w, g d1 d2 = some w → ∃ i j, d1 = .int i ∧ d2 = .int j ∧ w = .val (.int (h i j))) : OpOk X f g :=
  ⟨_, o, fun c d1 d2 v1 v2 w Q O r1 r2 q f => by
    obtain ⟨i, j, rfl, rfl, rfl⟩ := e d1 d2 w q
    exact ⟨i, j, r1.int, r2.int, f.sc O rfl⟩⟩
theorem oo_add : OpOk X (binaryOp .Add) addG := by
  refine ⟨_, op_add.or (op_add_str.or (op_cat.or (op_catA.or op_add_ib))), fun c d1 d2 v1 v2 w Q O r1 r2 q f => ?_⟩
  cases d1 <;> cases d2 <;> simp only [addG, reduceCtorEq, Option.some.injEq, Option.ite_none_right_eq_some] at q
  · subst q
    exact .inr (.inr (.inr (.inr ⟨_, _, r1.int, r2.bl, f.sc O rfl⟩)))
  · subst q
    exact .inl ⟨_, _, r1.int, r2.int, f.sc O rfl⟩
  · obtain ⟨z, rfl⟩ := q
    exact .inr (.inl ⟨_, _, r1.str, r2.str, z, f.sc O rfl⟩)
  · obtain ⟨z, rfl⟩ := q
    obtain ⟨a, us, rfl, h1, q1⟩ := r1.tup O
    obtain ⟨b, ws, rfl, h2, q2⟩ := r2.tup O
    refine .inr (.inr (.inr (.inl ⟨a, b, us, ws, rfl, rfl, .of h1, .of h2, by rw [q1.len, q2.len]; exact z, fun e => ?_, fun _ e => ?_, fun _ _ p hp => f.tup O (q1.append q2) hp⟩)))
    · have r := r2.tupF
      subst e
      have e1 : _ = [] := List.eq_nil_of_length_eq_zero q1.len.symm
      rw [e1, List.nil_append] at f
      exact f.sc O r
    · have r := r1.tupF
      subst e
      have e1 : _ = [] := List.eq_nil_of_length_eq_zero q2.len.symm
      rw [e1, List.append_nil] at f
      exact f.sc O r
  · obtain ⟨z, rfl⟩ := q
    obtain ⟨a, us, rfl, h1, q1⟩ := r1.lst O
    obtain ⟨b, ws, rfl, h2, q2⟩ := r2.lst O
    exact .inr (.inr (.inl ⟨a, b, us, ws, rfl, rfl, h1, h2, by rw [q1.len, q2.len]; exact z, fun p hp => f.lst O (q1.append q2) hp⟩))
theorem oo_sub : OpOk X (binaryOp .Sub) subG := .ints0 op_sub fun d1 d2 w q => by
  cases d1 <;> cases d2 <;> simp only [subG, reduceCtorEq, Option.some.injEq] at q
  exact ⟨_, _, rfl, rfl, q.symm⟩
theorem Reps.flat {T : Tx} {F : Hp} {φ : List Addr} {ds : List D} {us : List V} (h : Reps T F φ ds us) : ∀ k : Nat, Reps T F φ (List.replicate k ds).flatten (List.replicate k us).flatten
  | 0 => rfl
  | k + 1 => by
    rw [List.replicate_succ, List.replicate_succ, List.flatten_cons, List.flatten_cons]
    exact h.append (Reps.flat h k)
theorem oo_mul : OpOk X (binaryOp .Mult) mulG := by
  refine ⟨_, op_mulW.or op_rep, fun c d1 d2 v1 v2 w Q O r1 r2 q f => ?_⟩
  cases d1 <;> cases d2 <;> simp only [mulG, reduceCtorEq, Option.some.injEq, Option.ite_none_right_eq_some] at q
  · obtain ⟨z, rfl⟩ := q
    exact .inl ⟨_, _, r1.int, r2.int, z, f.sc O rfl⟩
  · obtain ⟨⟨z1, z2, z3⟩, rfl⟩ := q
    obtain ⟨a, us, rfl, h1, q1⟩ := r1.lst O
    exact .inr ⟨a, _, us, rfl, r2.int, h1, z1, z2, by rw [q1.len]; exact z3, fun p hp => f.lst O (q1.flat _) hp⟩
theorem oo_fdiv : OpOk X (binaryOp .FloorDiv) fdivG := .ints op_fdivW fun d1 d2 w q => by
  cases d1 <;> cases d2 <;> simp only [fdivG, reduceCtorEq, Option.some.injEq, Option.ite_none_right_eq_some] at q
  exact ⟨_, _, rfl, rfl, q.1, q.2.symm⟩
theorem oo_mod : OpOk X (binaryOp .Mod) modG := .ints op_mod fun d1 d2 w q => by
  cases d1 <;> cases d2 <;> simp only [modG, reduceCtorEq, Option.some.injEq, Option.ite_none_right_eq_some] at q
  exact ⟨_, _, rfl, rfl, q.1, q.2.symm⟩
theorem oo_pow : OpOk X (binaryOp .Pow) powG := .ints op_pow fun d1 d2 w q => by
  cases d1 <;> cases d2 <;> simp only [powG, reduceCtorEq, Option.some.injEq, Option.ite_none_right_eq_some] at q
  exact ⟨_, _, rfl, rfl, q.1, q.2.symm⟩
theorem oo_shl : OpOk X (binaryOp .LShift) shlG := .ints op_shl fun d1 d2 w q => by
  cases d1 <;> cases d2 <;> simp only [shlG, reduceCtorEq, Option.some.injEq, Option.ite_none_right_eq_some] at q
  exact ⟨_, _, rfl, rfl, q.1, q.2.symm⟩
theorem oo_shr : OpOk X (binaryOp .RShift) shrG := .ints op_shr fun d1 d2 w q => by
  cases d1 <;> cases d2 <;> simp only [shrG, reduceCtorEq, Option.some.injEq, Option.ite_none_right_eq_some] at q
  exact ⟨_, _, rfl, rfl, q.1, q.2.symm⟩
theorem oo_band : OpOk X (binaryOp .BitAnd) bandG := .ints0 op_and fun d1 d2 w q => by
  cases d1 <;> cases d2 <;> simp only [bandG, reduceCtorEq, Option.some.injEq] at q
  exact ⟨_, _, rfl, rfl, q.symm⟩
theorem oo_bor : OpOk X (binaryOp .BitOr) borG := .ints0 op_or fun d1 d2 w q => by
  cases d1 <;> cases d2 <;> simp only [borG, reduceCtorEq, Option.some.injEq] at q
  exact ⟨_, _, rfl, rfl, q.symm⟩
end
/-! ## Comparisons -/
mutual
def py : D → Option PyData
  | .non => some .none
  | .bl b => some (.bool b)
  | .int i => some (.int i)
  | .str x => some (.str x)
  | .tup ds => match pys ds with
    | some ps => some (.tuple ps)
    | none => none
  | .ktp ds => match pys ds with
    | some ps => some (.tuple ps)
    | none => none
  | .lst ds => match pys ds with
    | some ps => some (.list ps)
    | none => none
  | .scr ds => match pys ds with
    | some ps => some (.list ps)
    | none => none
  | _ => none
def pys : List D → Option (List PyData)
  | [] => some []
  | d :: ds => match py d, pys ds with
    | some p, some ps => some (p :: ps)
    | _, _ => none
end
mutual
theorem py_dp {T : Tx} {H : Hp} {φ : List Addr} : ∀ {d : D} {v : V} {p : PyData}, Rep T H φ d v → py d = some p → Dp T.K H v p
  | .non, _, _, r, e => by cases e; cases (show _ = V.non from r); exact .non
  | .bl b, _, _, r, e => by cases e; cases (show _ = V.bl b from r); exact .bl b
  | .int i, _, _, r, e => by cases e; cases (show _ = V.int i from r); exact .int i
  | .str x, _, _, r, e => by cases e; cases (show _ = V.str x from r); exact .str x
  | .tup ds, _, p, r, e => by
    obtain ⟨a, us, rfl, q, r⟩ := r
    unfold py at e
    split at e
    · cases e; exact .tup (.of q) (pys_dp r (by assumption))
    · cases e
  | .ktp ds, _, p, r, e => by
    obtain ⟨a, us, rfl, q, r⟩ := r
    unfold py at e
    split at e
    · cases e; exact .tup q.sq (pys_dp r (by assumption))
    · cases e
  | .lst ds, _, p, r, e => by
    obtain ⟨a, us, rfl, q, r⟩ := r
    unfold py at e
    split at e
    · cases e; exact .lst (.of q) (pys_dp r (by assumption))
    · cases e
  | .scr ds, _, p, r, e => by
    obtain ⟨a, us, rfl, q, r⟩ := r
    unfold py at e
    split at e
    · cases e; exact .lst q (pys_dp r (by assumption))
    · cases e
  | .ty _, _, _, _, e => nomatch e
  | .dK _ _, _, _, _, e => nomatch e
  | .dT _ _, _, _, _, e => nomatch e
  | .obj _ _ _, _, _, _, e => nomatch e
  | .cls _, _, _, _, e => nomatch e
  | .ref _, _, _, _, e => nomatch e
theorem pys_dp {T : Tx} {H : Hp} {φ : List Addr} : ∀ {ds : List D} {vs : List V} {ps : List PyData}, Reps T H φ ds vs → pys ds = some ps → DpAll T.K H vs ps
  | [], _, _, r, e => by
    cases e
    rw [show _ = [] from r]
    exact .nil
  | d :: ds, _, ps, r, e => by
    obtain ⟨v, vs, rfl, h1, h2⟩ := r
    unfold pys at e
    split at e
    · cases e; exact .cons (py_dp h1 (by assumption)) (pys_dp h2 (by assumption))
    · cases e
end
/-- == -/
def eqG : D → D → Option Bool
  | .int i, .int j => some (decide (i = j))
  | .str x, .str y => some (decide (x = y))
  | .bl a, .bl b => some (decide (a = b))
  | .non, .non => some true
  | .non, .int _ => some false
  | .int _, .non => some false
  | .non, .str _ => some false
  | .str _, .non => some false
  | d1, d2 => match py d1, py d2 with
    | some a, some b => if SeqAt.shaped a = true ∧ SeqAt.shaped b = true then some (PyData.eqv a b) else none
    | _, _ => none
def neG (d1 d2 : D) : Option Bool := match eqG d1 d2 with
  | some b => some (!b)
  | none => none
theorem eqG_cases {d1 d2 : D} {b : Bool} (h : eqG d1 d2 = some b) :
    (∃ x y : V, (∀ T F φ v, Rep T F φ d1 v → v = x) ∧ (∀ T F φ v, Rep T F φ d2 v → v = y) ∧ scal x y = true ∧ b = decide (x = y)) ∨ ∃ p q, py d1 = some p ∧ py d2 = some q ∧ SeqAt.shaped p = true ∧ SeqAt.shaped q = true ∧ b = PyData.eqv p q := by
  unfold eqG at h
  split at h
  · exact .inl ⟨.int _, .int _, fun _ _ _ _ r => r, fun _ _ _ _ r => r, rfl, by simp at h ⊢; exact h.symm⟩
  · exact .inl ⟨.str _, .str _, fun _ _ _ _ r => r, fun _ _ _ _ r => r, rfl, by simp at h ⊢; exact h.symm⟩
  · exact .inl ⟨.bl _, .bl _, fun _ _ _ _ r => r, fun _ _ _ _ r => r, rfl, by simp at h ⊢; exact h.symm⟩
  · exact .inl ⟨.non, .non, fun _ _ _ _ r => r, fun _ _ _ _ r => r, rfl, by simp at h ⊢; exact h⟩
  · exact .inl ⟨.non, .int _, fun _ _ _ _ r => r, fun _ _ _ _ r => r, rfl, by simp at h ⊢; exact h⟩
  · exact .inl ⟨.int _, .non, fun _ _ _ _ r => r, fun _ _ _ _ r => r, rfl, by simp at h ⊢; exact h⟩
  · exact .inl ⟨.non, .str _, fun _ _ _ _ r => r, fun _ _ _ _ r => r, rfl, by simp at h ⊢; exact h⟩
  · exact .inl ⟨.str _, .non, fun _ _ _ _ r => r, fun _ _ _ _ r => r, rfl, by simp at h ⊢; exact h⟩
  · split at h
    · split at h
      · rename_i p q e1 e2 z
        exact .inr ⟨p, q, e1, e2, z.1, z.2, (Option.some.inj h).symm⟩
      · cases h
    · cases h
section
variable {X : Cx}
theorem co_eq (hu : X.A.units + 64 < cLine) : CmpOk X (compareOp .Eq) eqG := by
  refine ⟨_, op_eq.or (op_eqD hu), fun c d1 d2 v1 v2 b Q O r1 r2 q f => ?_⟩
  rcases eqG_cases q with ⟨x, y, h1, h2, s, rfl⟩ | ⟨p, p', h1, h2, s1, s2, rfl⟩
  · cases h1 _ _ _ _ (r1.up O)
    cases h2 _ _ _ _ (r2.up O)
    exact .inl ⟨s, f⟩
  · exact .inr ⟨p, p', py_dp (r1.up O) h1, py_dp (r2.up O) h2, s1, s2, f⟩
theorem co_ne (hu : X.A.units + 64 < cLine) : CmpOk X (compareOp .NotEq) neG := by
  refine ⟨_, op_ne.or (op_neD hu), fun c d1 d2 v1 v2 b Q O r1 r2 q f => ?_⟩
  unfold neG at q
  split at q
  · rename_i b' e
    cases q
    rcases eqG_cases e with ⟨x, y, h1, h2, s, rfl⟩ | ⟨p, p', h1, h2, s1, s2, rfl⟩
    · cases h1 _ _ _ _ (r1.up O)
      cases h2 _ _ _ _ (r2.up O)
      exact .inl ⟨s, f⟩
    · exact .inr ⟨p, p', py_dp (r1.up O) h1, py_dp (r2.up O) h2, s1, s2, f⟩
  · cases q
def ltG : D → D → Option Bool
  | .int i, .int j => some (decide (i < j))
  | .str i, .str j => some (decide (i.cps.toList < j.cps.toList))
  | _, _ => none
def leG : D → D → Option Bool
  | .int i, .int j => some (decide (i ≤ j))
  | _, _ => none
def gtG : D → D → Option Bool
  | .int i, .int j => some (decide (j < i))
  | _, _ => none
def geG : D → D → Option Bool
  | .int i, .int j => some (decide (j ≤ i))
  | _, _ => none
theorem co_lt : CmpOk X (compareOp .Lt) ltG := by
  refine ⟨_, op_lt.or op_lt_str, fun c d1 d2 v1 v2 b Q O r1 r2 q f => ?_⟩
  cases d1 <;> cases d2 <;> simp only [ltG, reduceCtorEq, Option.some.injEq] at q
  · subst q; exact .inl ⟨_, _, r1.int, r2.int, f⟩
  · subst q; exact .inr ⟨_, _, r1.str, r2.str, f⟩
theorem co_le : CmpOk X (compareOp .LtE) leG := by
  refine ⟨_, op_le, fun c d1 d2 v1 v2 b Q O r1 r2 q f => ?_⟩
  cases d1 <;> cases d2 <;> simp only [leG, reduceCtorEq, Option.some.injEq] at q
  subst q; exact ⟨_, _, r1.int, r2.int, f⟩
theorem co_gt : CmpOk X (compareOp .Gt) gtG := by
  refine ⟨_, op_gt, fun c d1 d2 v1 v2 b Q O r1 r2 q f => ?_⟩
  cases d1 <;> cases d2 <;> simp only [gtG, reduceCtorEq, Option.some.injEq] at q
  subst q; exact ⟨_, _, r1.int, r2.int, f⟩
theorem co_ge : CmpOk X (compareOp .GtE) geG := by
  refine ⟨_, op_ge, fun c d1 d2 v1 v2 b Q O r1 r2 q f => ?_⟩
  cases d1 <;> cases d2 <;> simp only [geG, reduceCtorEq, Option.some.injEq] at q
  subst q; exact ⟨_, _, r1.int, r2.int, f⟩
/-- in -/
def flatD : D → Bool
  | .non => true
  | .bl _ => true
  | .int _ => true
  | .str _ => true
  | _ => false
def eqF : D → D → Bool
  | .non, .non => true
  | .bl a, .bl b => a == b
  | .bl a, .int b => (if a then 1 else 0) == b
  | .int a, .bl b => a == (if b then 1 else 0)
  | .int a, .int b => a == b
  | .str a, .str b => a == b
  | _, _ => false
def inG (d1 d2 : D) : Option Bool := match d2 with
  | .str y => match d1 with
    | .str x => some (!(Builtin.Str.occurrences y x 0 y.length 1).isEmpty)
    | _ => none
  | _ => match seqOf d2 with
    | some ds => if flatD d1 = true ∧ ds.all flatD = true then some (ds.any fun y => eqF y d1) else
        match py d1, py d2 with
        | some p, some (.list ps) => if SeqAt.shaped p = true ∧ SeqAt.shaped (.list ps) = true then some (ps.any fun z => PyData.eqv z p) else none
        | _, _ => none
    | none => none
def notInG (d1 d2 : D) : Option Bool := match inG d1 d2 with
  | some b => some (!b)
  | none => none
theorem flat_rep {T : Tx} {F : Hp} {φ : List Addr} {d : D} {v : V} (r : Rep T F φ d v) (f : flatD d = true) : flatV v = true := by
  cases d <;> simp only [flatD, Bool.false_eq_true] at f
  all_goals (cases (show v = _ from r); rfl)
theorem flat_reps {T : Tx} {F : Hp} {φ : List Addr} : ∀ {ds : List D} {vs : List V}, Reps T F φ ds vs → ds.all flatD = true → vs.all flatV = true
  | [], _, r, _ => by rw [show _ = [] from r]; rfl
  | d :: ds, _, ⟨v, r, rfl, h1, h2⟩, f => by
    rw [List.all_cons, Bool.and_eq_true] at f ⊢
    exact ⟨flat_rep h1 f.1, flat_reps h2 f.2⟩
theorem eqF_rep {T : Tx} {F F' : Hp} {φ φ' : List Addr} {d d' : D} {v v' : V} (r : Rep T F φ d v) (r' : Rep T F' φ' d' v') (f : flatD d = true) (f' : flatD d' = true) : eqV v v' = eqF d d' := by
  cases d <;> simp only [flatD, Bool.false_eq_true] at f <;> cases d' <;> simp only [flatD, Bool.false_eq_true] at f'
  all_goals (cases (show v = _ from r); cases (show v' = _ from r'); rfl)
theorem inF_rep {T : Tx} {F F' : Hp} {φ φ' : List Addr} {d : D} {v : V} (r : Rep T F φ d v) (f : flatD d = true) : ∀ {ds : List D} {vs : List V}, Reps T F' φ' ds vs → ds.all flatD = true → inV v vs = ds.any fun y => eqF y d
  | [], _, h, _ => by rw [show _ = [] from h]; rfl
  | e :: ds, _, ⟨u, vs, rfl, h1, h2⟩, g => by
    rw [List.all_cons, Bool.and_eq_true] at g
    show (u :: vs).any (fun y => eqV y v) = _
    rw [List.any_cons, List.any_cons, eqF_rep h1 r g.1 f]
    congr 1
    exact inF_rep r f h2 g.2
theorem inG_cases {c : Cf} {T : Tx} {d1 d2 : D} {v1 v2 : V} {b : Bool} (O : Ok T c) (r1 : RepV T c d1 v1) (r2 : RepV T c d2 v2) (h : inG d1 d2 = some b) :
    (∃ x y, v1 = .str x ∧ v2 = .str y ∧ b = !(Builtin.Str.occurrences y x 0 y.length 1).isEmpty) ∨ (∃ p xs, v2 = .ref p ∧ (SqL T.K c.H p xs ∨ SqT T.K c.H p xs) ∧ flatV v1 = true ∧ xs.all flatV = true ∧ b = inV v1 xs) ∨
      ∃ d ds, Dp T.K c.H v1 d ∧ Dp T.K c.H v2 (.list ds) ∧ SeqAt.shaped d = true ∧ SeqAt.shaped (.list ds) = true ∧ b = ds.any fun z => PyData.eqv z d := by
  unfold inG at h
  split at h
  · split at h
    · exact .inl ⟨_, _, r1.str, r2.str, (Option.some.inj h).symm⟩
    · cases h
  · split at h
    · rename_i ds e
      split at h
      · rename_i z
        obtain ⟨a, us, rfl, q, r⟩ := r2.seqOf O e
        exact .inr (.inl ⟨a, us, rfl, q, flat_rep (r1.up O) z.1, flat_reps r z.2, by rw [inF_rep (r1.up O) z.1 r z.2]; exact (Option.some.inj h).symm⟩)
      · split at h
        · split at h
          · rename_i p ps e1 e2 z
            exact .inr (.inr ⟨p, ps, py_dp (r1.up O) e1, py_dp (r2.up O) e2, z.1, z.2, (Option.some.inj h).symm⟩)
          · cases h
        · cases h
    · cases h
theorem co_in (hu : X.A.units + 65 < cLine) : CmpOk X (compareOp .In) inG := by
  refine ⟨_, op_in_str.or (op_in_seq.or (op_inD hu)), fun c d1 d2 v1 v2 b Q O r1 r2 q f => ?_⟩
  rcases inG_cases O r1 r2 q with ⟨x, y, rfl, rfl, rfl⟩ | ⟨p, xs, rfl, h, f1, f2, rfl⟩ | ⟨d, ds, h1, h2, s1, s2, rfl⟩
  · exact .inl ⟨x, y, rfl, rfl, f⟩
  · exact .inr (.inl ⟨p, xs, rfl, h, f1, f2, f⟩)
  · exact .inr (.inr ⟨d, ds, h1, h2, s1, s2, f⟩)
theorem co_notIn (hu : X.A.units + 65 < cLine) : CmpOk X (compareOp .NotIn) notInG := by
  refine ⟨_, op_notin_str.or (op_notIn_seq.or (op_notInD hu)), fun c d1 d2 v1 v2 b Q O r1 r2 q f => ?_⟩
  unfold notInG at q
  split at q
  · rename_i b' e
    cases q
    rcases inG_cases O r1 r2 e with ⟨x, y, rfl, rfl, rfl⟩ | ⟨p, xs, rfl, h, f1, f2, rfl⟩ | ⟨d, ds, h1, h2, s1, s2, rfl⟩
    · exact .inl ⟨x, y, rfl, rfl, f⟩
    · exact .inr (.inl ⟨p, xs, rfl, h, f1, f2, f⟩)
    · exact .inr (.inr ⟨d, ds, h1, h2, s1, s2, f⟩)
  · cases q
def isNonD : D → Bool
  | .non => true
  | _ => false
/-- is None -/
def isG (d1 d2 : D) : Option Bool := match d2 with
  | .non => some (isNonD d1)
  | .bl b => match d1 with | .bl a => some (decide (a = b)) | .non => some false | _ => none
  | _ => none
/-- None is a bool -/
def rIsNB : R2 := fun x y H Q => ∃ b : Bool, x = .non ∧ y = .bl b ∧ Q (.bl false) H
def rNotNB : R2 := fun x y H Q => ∃ b : Bool, x = .non ∧ y = .bl b ∧ Q (.bl true) H
theorem op_isNB {X : Cx} : OpR X (compareOp .Is) rIsNB := by
  intro pins s σ H x y v u Q I rx ry h
  obtain ⟨b, rfl, rfl, q⟩ := h
  cases (show v = Value.none from rx)
  cases (show u = Value.bool b from ry)
  exact wpAny_is_other rfl (fun e => nomatch e) ⟨.bl false, H, I, rfl, q⟩
theorem op_notNB {X : Cx} : OpR X (compareOp .IsNot) rNotNB := by
  intro pins s σ H x y v u Q I rx ry h
  obtain ⟨b, rfl, rfl, q⟩ := h
  cases (show v = Value.none from rx)
  cases (show u = Value.bool b from ry)
  exact wpAny_isNot_other rfl (fun e => nomatch e) ⟨.bl true, H, I, rfl, q⟩
def isNotG (d1 d2 : D) : Option Bool := match isG d1 d2 with
  | some b => some (!b)
  | none => none
theorem isNon {T : Tx} {F : Hp} {φ : List Addr} {d : D} {v : V} (r : Rep T F φ d v) : decide (v = V.non) = isNonD d := by
  cases d <;> simp only [isNonD, decide_eq_true_eq, decide_eq_false_iff_not]
  · exact r
  all_goals first
    | (cases (show v = _ from r); exact fun z => nomatch z)
    | (obtain ⟨a, us, rfl, _⟩ := r; exact fun z => nomatch z)
    | (obtain ⟨a, A, dx, us, rfl, _⟩ := r; exact fun z => nomatch z)
    | (obtain ⟨A, _, rfl⟩ := r; exact fun z => nomatch z)
    | (obtain ⟨a, _, rfl⟩ := r; exact fun z => nomatch z)
theorem co_is : CmpOk X (compareOp .Is) isG := by
  refine ⟨_, op_isN.or (op_isBl.or op_isNB), fun c d1 d2 v1 v2 b Q O r1 r2 q f => ?_⟩
  unfold isG at q
  split at q
  · cases q
    exact .inl ⟨r2.non, by rw [isNon (r1.up O)]; exact f⟩
  · split at q
    · cases q
      exact .inr (.inl ⟨_, _, r1.bl, r2.bl, f⟩)
    · cases q
      exact .inr (.inr ⟨_, r1.non, r2.bl, f⟩)
    · cases q
  · cases q
theorem co_isNot : CmpOk X (compareOp .IsNot) isNotG := by
  refine ⟨_, op_notN.or (op_notBl.or op_notNB), fun c d1 d2 v1 v2 b Q O r1 r2 q f => ?_⟩
  unfold isNotG at q
  split at q
  · rename_i b' e
    cases q
    unfold isG at e
    split at e
    · cases e
      exact .inl ⟨r2.non, by rw [isNon (r1.up O)]; exact f⟩
    · split at e
      · cases e
        exact .inr (.inl ⟨_, _, r1.bl, r2.bl, f⟩)
      · cases e
        exact .inr (.inr ⟨_, r1.non, r2.bl, f⟩)
      · cases e
    · cases e
  · cases q
end
end Z

namespace Z
open PySem L2

theorem CallR.or {X : Cx} {f : Value} {r r' : List V → Hp → VK → Prop} (h : CallR X f r) (h' : CallR X f r') : CallR X f (fun xs H Q => r xs H Q ∨ r' xs H Q) := by
  intro pins s σ H xs us Q I rv q
  rcases q with q | q
  · exact h pins s σ H xs us Q I rv q
  · exact h' pins s σ H xs us Q I rv q
section
variable {T : Tx} {c : Cf}
theorem RepVs.one {d : D} {vs : List V} (h : RepVs T c [d] vs) : ∃ v, vs = [v] ∧ RepV T c d v := by
  obtain ⟨v, r, rfl, h, e⟩ := h
  cases (show r = [] from e)
  exact ⟨v, rfl, h⟩
theorem RepVs.two {d e : D} {vs : List V} (h : RepVs T c [d, e] vs) : ∃ v u, vs = [v, u] ∧ RepV T c d v ∧ RepV T c e u := by
  obtain ⟨v, r, rfl, h, h2⟩ := h
  obtain ⟨u, rfl, h3⟩ := RepVs.one h2
  exact ⟨v, u, rfl, h, h3⟩
end
/-! ## Built-in functions -/
def lenG : List D → Option W
  | [.str y] => if y.length ≤ sizeLine then some (.val (.int y.length)) else none
  | [.dK ks vs] => some (.val (.int ks.length))
  | [d] => match seqOf d with
    | some ds => some (.val (.int ds.length))
    | none => none
  | _ => none
def absG : List D → Option W
  | [.int i] => some (.val (.int (if i < 0 then -i else i)))
  | _ => none
def intG : List D → Option W
  | [.int i] => some (.val (.int i))
  | [.bl k] => some (.val (.int (if k then 1 else 0)))
  | [.str a] => match intText? a with
    | some n => if a.length ≤ 640 then some (.val (.int n)) else none
    | none => none
  | _ => none
def strG : List D → Option W
  | [.int i] => if i.natAbs.log2 < 1920 then some (.val (.str (toString i))) else none
  | [.str a] => some (.val (.str a))
  | _ => none
def intOf : D → Option Int
  | .int i => some i
  | _ => none
def blOf : D → Option Bool
  | .bl i => some i
  | _ => none
def strOf : D → Option Str
  | .str i => some i
  | _ => none
/-- all of a list by a partial reading -/
def allOf {α : Type} (f : D → Option α) : List D → Option (List α)
  | [] => some []
  | d :: ds => match f d, allOf f ds with
    | some a, some r => some (a :: r)
    | _, _ => none
theorem allOf_int : ∀ {ds : List D} {ns : List Int}, allOf intOf ds = some ns → ds = ns.map D.int
  | [], ns, h => by cases h; rfl
  | d :: ds, ns, h => by
    unfold allOf at h
    split at h
    · rename_i a r h1 h2
      cases h
      cases d <;> cases h1
      rw [allOf_int h2]
      rfl
    · cases h
theorem allOf_bl : ∀ {ds : List D} {ns : List Bool}, allOf blOf ds = some ns → ds = ns.map D.bl
  | [], ns, h => by cases h; rfl
  | d :: ds, ns, h => by
    unfold allOf at h
    split at h
    · rename_i a r h1 h2
      cases h
      cases d <;> cases h1
      rw [allOf_bl h2]
      rfl
    · cases h
theorem allOf_str : ∀ {ds : List D} {ns : List Str}, allOf strOf ds = some ns → ds = ns.map D.str
  | [], ns, h => by cases h; rfl
  | d :: ds, ns, h => by
    unfold allOf at h
    split at h
    · rename_i a r h1 h2
      cases h
      cases d <;> cases h1
      rw [allOf_str h2]
      rfl
    · cases h
def maxL : List Int → Int
  | [] => 0
  | [a] => a
  | a :: r => max a (maxL r)
def minL : List Int → Int
  | [] => 0
  | [a] => a
  | a :: r => min a (minL r)
theorem maxL_ok : ∀ {ns : List Int}, ns ≠ [] → maxL ns ∈ ns ∧ ∀ y ∈ ns, y ≤ maxL ns
  | [], h => absurd rfl h
  | [a], _ => by simp [maxL]
  | a :: b :: r, _ => by
    have ih := maxL_ok (ns := b :: r) (by simp)
    show max a (maxL (b :: r)) ∈ a :: b :: r ∧ ∀ y ∈ a :: b :: r, y ≤ max a (maxL (b :: r))
    refine ⟨?_, fun y hy => ?_⟩
    · by_cases h : a ≤ maxL (b :: r)
      · rw [Int.max_eq_right h]; exact List.mem_cons_of_mem _ ih.1
      · rw [Int.max_eq_left (by omega)]; exact List.mem_cons_self
    · rcases List.mem_cons.mp hy with e | hy
      · omega
      · have := ih.2 y hy; omega
theorem minL_ok : ∀ {ns : List Int}, ns ≠ [] → minL ns ∈ ns ∧ ∀ y ∈ ns, minL ns ≤ y
  | [], h => absurd rfl h
  | [a], _ => by simp [minL]
  | a :: b :: r, _ => by
    have ih := minL_ok (ns := b :: r) (by simp)
    show min a (minL (b :: r)) ∈ a :: b :: r ∧ ∀ y ∈ a :: b :: r, min a (minL (b :: r)) ≤ y
    refine ⟨?_, fun y hy => ?_⟩
    · by_cases h : a ≤ minL (b :: r)
      · rw [Int.min_eq_left h]; exact List.mem_cons_self
      · rw [Int.min_eq_right (by omega)]; exact List.mem_cons_of_mem _ ih.1
    · rcases List.mem_cons.mp hy with e | hy
      · omega
      · have := ih.2 y hy; omega
def maxG : List D → Option W
  | [.int i, .int j] => some (.val (.int (if j > i then j else i)))
  | [d] => match lstOf d with
    | some ds => match allOf intOf ds with
      | some (n :: ns) => some (.val (.int (maxL (n :: ns))))
      | _ => none
    | none => none
  | _ => none
def minG : List D → Option W
  | [.int i, .int j] => some (.val (.int (if j < i then j else i)))
  | [d] => match lstOf d with
    | some ds => match allOf intOf ds with
      | some (n :: ns) => some (.val (.int (minL (n :: ns))))
      | _ => none
    | none => none
  | _ => none
def sumG : List D → Option W
  | [d] => match lstOf d with
    | some ds => match allOf intOf ds with
      | some ns => some (.val (.int ns.sum))
      | none => none
    | none => none
  | _ => none
def anyG : List D → Option W
  | [d] => match lstOf d with
    | some ds => match allOf blOf ds with
      | some ns => some (.val (.bl (ns.any id)))
      | none => none
    | none => none
  | _ => none
def allG : List D → Option W
  | [d] => match lstOf d with
    | some ds => match allOf blOf ds with
      | some ns => some (.val (.bl (ns.all id)))
      | none => none
    | none => none
  | _ => none
def listG : List D → Option W
  | [d] => match seqOf d with
    | some ds => some (.new (.lst ds))
    | none => none
  | _ => none
def tupleG : List D → Option W
  | [.tup ds] => some (.val (.tup ds))
  | [.ktp ds] => some (.val (.ktp ds))
  | [d] => match lstOf d with
    | some ds => some (.val (.tup ds))
    | none => none
  | _ => none
/-- sorted of ints -/
def insI (x : Int) : List Int → List Int
  | [] => [x]
  | y :: r => if x ≤ y then x :: y :: r else y :: insI x r
def sortI : List Int → List Int
  | [] => []
  | x :: r => insI x (sortI r)
theorem insI_perm (x : Int) : ∀ l : List Int, (insI x l).Perm (x :: l)
  | [] => List.Perm.refl _
  | y :: r => by
    unfold insI
    split
    · exact List.Perm.refl _
    · exact ((insI_perm x r).cons y).trans (List.Perm.swap x y r)
theorem sortI_perm : ∀ l : List Int, (sortI l).Perm l
  | [] => List.Perm.refl _
  | x :: r => (insI_perm x (sortI r)).trans ((sortI_perm r).cons x)
theorem insI_sorted (x : Int) : ∀ l : List Int, l.Pairwise (· ≤ ·) → (insI x l).Pairwise (· ≤ ·)
  | [], _ => by simp [insI]
  | y :: r, h => by
    obtain ⟨h1, h2⟩ := List.pairwise_cons.mp h
    unfold insI
    split
    · rename_i q
      refine List.pairwise_cons.mpr ⟨fun z hz => ?_, h⟩
      rcases List.mem_cons.mp hz with e | hz
      · omega
      · have := h1 z hz; omega
    · rename_i q
      refine List.pairwise_cons.mpr ⟨fun z hz => ?_, insI_sorted x r h2⟩
      rcases List.mem_cons.mp ((insI_perm x r).mem_iff.mp hz) with e | hz
      · omega
      · exact h1 z hz
theorem sortI_sorted : ∀ l : List Int, (sortI l).Pairwise (· ≤ ·)
  | [] => .nil
  | x :: r => insI_sorted x _ (sortI_sorted r)
theorem sorted_one : ∀ {l m : List Int}, l.Perm m → l.Pairwise (· ≤ ·) → m.Pairwise (· ≤ ·) → l = m
  | l, m, p, h1, h2 => List.Perm.eq_of_pairwise (le := fun a b => decide (a ≤ b)) (fun a b _ _ x y => by simp at x y; omega) (h1.imp (by simp)) (h2.imp (by simp)) p
def sortedG : List D → Option W
  | [d] => match lstOf d with
    | some ds => match allOf intOf ds with
      | some ns => some (.new (.lst ((sortI ns).map D.int)))
      | none => none
    | none => none
  | _ => none
section
variable {X : Cx}
theorem seqD {d : D} {ds : List D} (h : seqOf d = some ds) : (∀ y, d ≠ .str y) ∧ (∀ ks vs, d ≠ .dK ks vs) := by
  cases d <;> simp [seqOf] at h ⊢
theorem oc_len : CallOk X (.builtin "len") lenG := by
  refine ⟨_, CallR.or call_len call_lenD, fun c ds vs w Q O rs q f => ?_⟩
  unfold lenG at q
  split at q
  · obtain ⟨v, rfl, r⟩ := rs.one
    cases r.str
    split at q
    · cases q
      exact .inl ⟨_, _, rfl, ⟨by assumption, rfl⟩, f.sc O rfl⟩
    · cases q
  · obtain ⟨v, rfl, r⟩ := rs.one
    cases q
    obtain ⟨a, us, rfl, z, h, _⟩ := r.up O
    refine .inr ⟨a, _, rfl, h, ?_⟩
    rw [List.length_zip, z, Nat.min_self]
    exact f.sc O rfl
  · obtain ⟨v, rfl, r⟩ := rs.one
    split at q
    · cases q
      obtain ⟨a, us, rfl, h, r⟩ := r.seqOf O (by assumption)
      refine .inl ⟨_, us.length, rfl, ?_, f.sc O (by rw [r.len]; rfl)⟩
      rcases h with h | h
      · exact .inl ⟨us, h, rfl⟩
      · exact .inr ⟨us, h, rfl⟩
    · cases q
  · cases q
theorem oc_abs : CallOk X (.builtin "abs") absG := by
  refine ⟨_, call_abs, fun c ds vs w Q O rs q f => ?_⟩
  unfold absG at q
  split at q
  · obtain ⟨v, rfl, r⟩ := rs.one
    cases r.int
    cases q
    exact ⟨_, rfl, f.sc O rfl⟩
  · cases q
theorem oc_int : CallOk X (.type "int") intG := by
  refine ⟨_, CallR.or call_int1 call_int_str, fun c ds vs w Q O rs q f => ?_⟩
  unfold intG at q
  split at q
  · obtain ⟨v, rfl, r⟩ := rs.one
    cases r.int
    cases q
    exact .inl (.inl ⟨_, rfl, f.sc O rfl⟩)
  · obtain ⟨v, rfl, r⟩ := rs.one
    cases r.bl
    cases q
    exact .inl (.inr ⟨_, rfl, f.sc O rfl⟩)
  · obtain ⟨v, rfl, r⟩ := rs.one
    cases r.str
    split at q
    · split at q
      · cases q
        exact .inr ⟨_, _, rfl, by assumption, by assumption, f.sc O rfl⟩
      · cases q
    · cases q
  · cases q
theorem oc_max (hc : X.calm = true) : CallOk X (.builtin "max") maxG := by
  refine ⟨_, CallR.or (call_max2 hc) (cr_max hc), fun c ds vs w Q O rs q f => ?_⟩
  unfold maxG at q
  split at q
  · obtain ⟨v, u, rfl, r1, r2⟩ := rs.two
    cases r1.int
    cases r2.int
    cases q
    exact .inl ⟨_, _, rfl, f.sc O rfl⟩
  · obtain ⟨v, rfl, r⟩ := rs.one
    split at q
    · split at q
      · rename_i ds e1 _ n ns e2
        cases q
        obtain ⟨a, us, rfl, h, r⟩ := r.lstOf O e1
        rw [allOf_int e2] at r
        rw [r.ints] at h
        have m := maxL_ok (ns := n :: ns) (by simp)
        refine .inr ⟨a, n :: ns, rfl, h, by simp, fun m' h1 h2 => ?_⟩
        have e : m' = maxL (n :: ns) := by
          have := m.2 m' h1
          have := h2 _ m.1
          omega
        rw [e]
        exact f.sc O rfl
      · cases q
    · cases q
  · cases q
theorem oc_min (hc : X.calm = true) : CallOk X (.builtin "min") minG := by
  refine ⟨_, CallR.or (call_min2 hc) (cr_min hc), fun c ds vs w Q O rs q f => ?_⟩
  unfold minG at q
  split at q
  · obtain ⟨v, u, rfl, r1, r2⟩ := rs.two
    cases r1.int
    cases r2.int
    cases q
    exact .inl ⟨_, _, rfl, f.sc O rfl⟩
  · obtain ⟨v, rfl, r⟩ := rs.one
    split at q
    · split at q
      · rename_i ds e1 _ n ns e2
        cases q
        obtain ⟨a, us, rfl, h, r⟩ := r.lstOf O e1
        rw [allOf_int e2] at r
        rw [r.ints] at h
        have m := minL_ok (ns := n :: ns) (by simp)
        refine .inr ⟨a, n :: ns, rfl, h, by simp, fun m' h1 h2 => ?_⟩
        have e : m' = minL (n :: ns) := by
          have := m.2 m' h1
          have := h2 _ m.1
          omega
        rw [e]
        exact f.sc O rfl
      · cases q
    · cases q
  · cases q
theorem oc_sum (hc : X.calm = true) : CallOk X (.builtin "sum") sumG := by
  refine ⟨_, cr_sum hc, fun c ds vs w Q O rs q f => ?_⟩
  unfold sumG at q
  split at q
  · obtain ⟨v, rfl, r⟩ := rs.one
    split at q
    · split at q
      · rename_i ds e1 _ ns e2
        cases q
        obtain ⟨a, us, rfl, h, r⟩ := r.lstOf O e1
        rw [allOf_int e2] at r
        rw [r.ints] at h
        exact ⟨a, ns, rfl, h, f.sc O rfl⟩
      · cases q
    · cases q
  · cases q
theorem oc_any (hc : X.calm = true) : CallOk X (.builtin "any") anyG := by
  refine ⟨_, cr_any hc, fun c ds vs w Q O rs q f => ?_⟩
  unfold anyG at q
  split at q
  · obtain ⟨v, rfl, r⟩ := rs.one
    split at q
    · split at q
      · rename_i ds e1 _ ns e2
        cases q
        obtain ⟨a, us, rfl, h, r⟩ := r.lstOf O e1
        rw [allOf_bl e2] at r
        rw [r.bls] at h
        exact ⟨a, ns, rfl, h, f.sc O rfl⟩
      · cases q
    · cases q
  · cases q
theorem oc_all (hc : X.calm = true) : CallOk X (.builtin "all") allG := by
  refine ⟨_, cr_all hc, fun c ds vs w Q O rs q f => ?_⟩
  unfold allG at q
  split at q
  · obtain ⟨v, rfl, r⟩ := rs.one
    split at q
    · split at q
      · rename_i ds e1 _ ns e2
        cases q
        obtain ⟨a, us, rfl, h, r⟩ := r.lstOf O e1
        rw [allOf_bl e2] at r
        rw [r.bls] at h
        exact ⟨a, ns, rfl, h, f.sc O rfl⟩
      · cases q
    · cases q
  · cases q
theorem oc_list : CallOk X (.type "list") listG := by
  refine ⟨_, call_list_of, fun c ds vs w Q O rs q f => ?_⟩
  unfold listG at q
  split at q
  · obtain ⟨v, rfl, r⟩ := rs.one
    split at q
    · cases q
      obtain ⟨a, us, rfl, h, r⟩ := r.seqOf O (by assumption)
      exact ⟨a, us, rfl, h, fun l hl => f.lst O r hl⟩
    · cases q
  · cases q
theorem RepV.ktpF {T : Tx} {c : Cf} {ds : List D} {v : V} (h : RepV T c (.ktp ds) v) : Rep T c.F c.φ (.ktp ds) v := by
  cases h with
  | dat r => exact r
  | cel cl a e => cases cl <;> cases e
theorem oc_tuple : CallOk X (.type "tuple") tupleG := by
  refine ⟨_, call_tuple_of, fun c ds vs w Q O rs q f => ?_⟩
  unfold tupleG at q
  split at q
  · obtain ⟨v, rfl, r⟩ := rs.one
    cases q
    obtain ⟨a, us, rfl, h, r2⟩ := r.tup O
    exact ⟨a, us, rfl, .inr ⟨.of h, f.sc O r.tupF⟩⟩
  · obtain ⟨v, rfl, r⟩ := rs.one
    cases q
    obtain ⟨a, us, rfl, h, r2⟩ := r.ktp O
    exact ⟨a, us, rfl, .inr ⟨h.sq, f.sc O (RepV.ktpF r)⟩⟩
  · obtain ⟨v, rfl, r⟩ := rs.one
    split at q
    · cases q
      obtain ⟨a, us, rfl, h, r⟩ := r.lstOf O (by assumption)
      exact ⟨a, us, rfl, .inl ⟨h, fun l hl => f.tup O r hl⟩⟩
    · cases q
  · cases q
theorem Reps.of_ints {T : Tx} {F : Hp} {φ : List Addr} : ∀ ns : List Int, Reps T F φ (ns.map D.int) (ns.map V.int)
  | [] => rfl
  | n :: ns => ⟨_, _, rfl, rfl, Reps.of_ints ns⟩
theorem Reps.of_strs {T : Tx} {F : Hp} {φ : List Addr} : ∀ ns : List Str, Reps T F φ (ns.map D.str) (ns.map V.str)
  | [] => rfl
  | n :: ns => ⟨_, _, rfl, rfl, Reps.of_strs ns⟩
theorem oc_sorted : CallOk X (.builtin "sorted") sortedG := by
  refine ⟨_, cr_sortedI, fun c ds vs w Q O rs q f => ?_⟩
  unfold sortedG at q
  split at q
  · obtain ⟨v, rfl, r⟩ := rs.one
    split at q
    · split at q
      · rename_i ds e1 _ ns e2
        cases q
        obtain ⟨a, us, rfl, h, r⟩ := r.lstOf O e1
        rw [allOf_int e2] at r
        rw [r.ints] at h
        refine ⟨a, ns, rfl, h, fun ns' p h1 h2 hp => ?_⟩
        have e : ns' = sortI ns := sorted_one (h1.trans (sortI_perm ns).symm) h2 (sortI_sorted ns)
        rw [e]
        exact f.lst O (Reps.of_ints _) hp
      · cases q
    · cases q
  · cases q
end
/-! ## isinstance of built-in types -/
def tyD : D → Option String
  | .non => some "NoneType"
  | .bl _ => some "bool"
  | .int _ => some "int"
  | .str _ => some "str"
  | .tup _ => some "tuple"
  | .ktp _ => some "tuple"
  | .lst _ => some "list"
  | .scr _ => some "list"
  | .dK _ _ => some "dict"
  | .dT _ _ => some "dict"
  | _ => none
def tyNames : List String := ["NoneType", "bool", "int", "str", "tuple", "list", "dict"]
def isTy (a b : String) : Option Bool := if a ∈ tyNames ∧ b ∈ tyNames then some (decide (a = b) || (decide (a = "bool") && decide (b = "int"))) else none
theorem isTy_kit {a b : String} {r : Bool} (h : isTy a b = some r) : kitB a b = some r := by
  unfold isTy at h
  split at h
  · rename_i z
    have k : ∀ a ∈ tyNames, ∀ b ∈ tyNames, kitB a b = some (decide (a = b) || (decide (a = "bool") && decide (b = "int"))) := by decide +kernel
    rw [k a z.1 b z.2]; exact h
  · cases h
def tyOf : D → Option String
  | .ty n => some n
  | _ => none
def anyTy (a : String) : List String → Option Bool
  | [] => some false
  | b :: r => match isTy a b, anyTy a r with
    | some x, some y => some (x || y)
    | _, _ => none
def isiG : List D → Option W
  | [d, .ty n] => match tyD d with
    | some t => match isTy t n with
      | some b => some (.val (.bl b))
      | none => none
    | none => none
  | [d, .tup ts] => match tyD d, allOf tyOf ts with
    | some t, some ns => match anyTy t ns with
      | some b => some (.val (.bl b))
      | none => none
    | _, _ => none
  | [d, .ktp ts] => match tyD d, allOf tyOf ts with
    | some t, some ns => match anyTy t ns with
      | some b => some (.val (.bl b))
      | none => none
    | _, _ => none
  | _ => none
section
variable {X : Cx}
theorem allOf_ty : ∀ {ds : List D} {ns : List String}, allOf tyOf ds = some ns → ds = ns.map D.ty
  | [], ns, h => by cases h; rfl
  | d :: ds, ns, h => by
    unfold allOf at h
    split at h
    · rename_i a r h1 h2
      cases h
      cases d <;> cases h1
      rw [allOf_ty h2]
      rfl
    · cases h
theorem tyX_of {T : Tx} {c : Cf} {d : D} {v : V} {t : String} (O : Ok T c) (r : RepV T c d v) (h : tyD d = some t) : TyX T.K c.H v (.type t) := by
  cases d <;> simp only [tyD, Option.some.injEq, reduceCtorEq] at h <;> subst h
  · cases r.non; exact .base .non
  · cases r.bl; exact .base (.bl _)
  · cases r.int; exact .base (.int _)
  · cases r.str; exact .base (.str _)
  · obtain ⟨a, us, rfl, h, _⟩ := r.tup O
    exact .base (.tup h)
  · obtain ⟨a, us, rfl, h, _⟩ := r.ktp O
    rcases h with h | ⟨o, its, n, h1, h2, _⟩
    · exact .base (.tup h)
    · exact .kTuple h1 h2
  · obtain ⟨a, us, rfl, h, _⟩ := r.lst O
    exact .base (.lst h)
  · obtain ⟨a, us, rfl, h, _⟩ := r.scr O
    rcases h with (h | ⟨o, h⟩) | ⟨o, its, n, h1, h2, _⟩
    · exact .base (.lst h)
    · exact .base (.frz h)
    · exact .kList h1 h2
  · obtain ⟨a, us, rfl, _, h, _⟩ := r.up O
    exact .base (.dK h)
  · obtain ⟨a, us, rfl, _, h, _⟩ := r.up O
    exact .base (.dT h)
theorem anyTy_kit {K : PySem.W.Frag} {t : String} : ∀ {ns : List String} {b : Bool}, anyTy t ns = some b → PySem.W.kitAny K (.type t) (ns.map Value.type) = some b
  | [], b, h => by cases h; rfl
  | n :: ns, b, h => by
    unfold anyTy at h
    split at h
    · rename_i x y h1 h2
      cases h
      have ih := anyTy_kit (K := K) h2
      refine kitAny_cons (kit_ty (isTy_kit h1)) (fun e => ?_) fun e => ?_
      · rw [e, Bool.false_or]; exact ih
      · rw [e, Bool.true_or]
    · cases h
theorem Reps.tys {T : Tx} {F : Hp} {φ : List Addr} : ∀ {ns : List String} {us : List V}, Reps T F φ (ns.map D.ty) us → us = ns.map V.ty
  | [], _, h => h
  | n :: ns, _, h => by
    obtain ⟨u, r, rfl, q, z⟩ := h
    rw [show u = _ from q, Reps.tys z]; rfl
theorem cls_ty : ∀ ns : List String, Paired ClsV (ns.map V.ty) (ns.map Value.type)
  | [] => .nil
  | n :: ns => .cons (.ty n) (cls_ty ns)
theorem oc_isi : CallOk X (.builtin "isinstance") isiG := by
  refine ⟨_, CallR.or call_isi (CallR.or call_isiT call_isiK), fun c ds vs w Q O rs q f => ?_⟩
  unfold isiG at q
  split at q
  · rename_i d n
    obtain ⟨v, u, rfl, r1, r2⟩ := rs.two
    have e2 : u = .ty n := by
      cases r2 with
      | dat r => exact r
      | cel cl a e => cases cl <;> cases e
    subst e2
    split at q
    · split at q
      · cases q
        exact .inl ⟨v, _, _, _, _, rfl, .ty n, tyX_of O r1 (by assumption), kit_ty (isTy_kit (by assumption)), f.sc O rfl⟩
      · cases q
    · cases q
  · rename_i d ts
    obtain ⟨v, u, rfl, r1, r2⟩ := rs.two
    split at q
    · rename_i t ns e1 e2
      split at q
      · cases q
        have ets := allOf_ty e2
        subst ets
        obtain ⟨a, us, rfl, h, rr⟩ := r2.tup O
        cases Reps.tys rr
        exact .inr (.inl ⟨v, a, _, _, _, _, rfl, h, cls_ty ns, tyX_of O r1 e1, anyTy_kit (by assumption), f.sc O rfl⟩)
      · cases q
    · cases q
  · rename_i d ts
    obtain ⟨v, u, rfl, r1, r2⟩ := rs.two
    split at q
    · rename_i t ns e1 e2
      split at q
      · cases q
        have ets := allOf_ty e2
        subst ets
        obtain ⟨a, us, rfl, h, rr⟩ := r2.ktp O
        cases Reps.tys rr
        rcases h with h | ⟨o, its, n, h1, h2, h3, h4, h5⟩
        · exact .inr (.inl ⟨v, a, _, _, _, _, rfl, h, cls_ty ns, tyX_of O r1 e1, anyTy_kit (by assumption), f.sc O rfl⟩)
        · obtain ⟨oc, od, odt, osl⟩ := o
          cases h2
          cases h3
          have e : its.toList = ns.map Value.type := ClsV.all (cls_ty ns) h5
          have e' : its = (ns.map Value.type).toArray := by rw [← e]
          subst e'
          exact .inr (.inr ⟨v, a, od, ns.map Value.type, n, osl, _, _, rfl, h1, tyX_of O r1 e1, anyTy_kit (by assumption), f.sc O rfl⟩)
      · cases q
    · cases q
  · cases q
end
end Z

namespace Z
open PySem L2

section
variable {X : Cx} {Wx : WX} {e a b d : Expr} {es rest : List Expr} {pos : Pos} {fa fb fc : M W} {fs : M (List W)}
theorem repW_bl {T : Tx} {H : Hp} {c : Cf} {b : Bool} : RepW T H c (.val (.bl b)) (.bl b) := rfl
/-! ## Unary operators, chains -/
def UnOk (X : Cx) (f : Value → Sem Value) (g : D → Option W) : Prop :=
  ∃ r, UnR X f r ∧ ∀ c d v w Q, Ok (tx X) c → RepV (tx X) c d v → g d = some w → Fin2 (tx X) c w Q → r v c.H Q
def unM (g : D → Option W) (fa : M W) : M W := bnd fa fun x => bnd (view x) fun d => opt (g d)
def negG : D → Option W
  | .int i => some (.val (.int (-i)))
  | _ => none
def invG : D → Option W
  | .int i => some (.val (.int (Builtin.bitNot i)))
  | _ => none
theorem ou_neg : UnOk X (unaryOp .USub) negG := ⟨_, un_neg, fun c d v w Q O r q f => by
  cases d <;> simp only [negG, reduceCtorEq, Option.some.injEq] at q
  subst q
  exact ⟨_, r.int, f.sc O rfl⟩⟩
theorem ou_inv : UnOk X (unaryOp .Invert) invG := ⟨_, un_inv, fun c d v w Q O r q f => by
  cases d <;> simp only [invG, reduceCtorEq, Option.some.injEq] at q
  subst q
  exact ⟨_, r.int, f.sc O rfl⟩⟩
theorem se_un {op : UnaryOp} {g : D → Option W} (ho : UnOk X (unaryOp op) g) (ha : SE X Wx a fa) : SE X Wx (.UnaryOp op a pos) (unM g fa) := by
  obtain ⟨r, h1, h2⟩ := ho
  refine ⟨PE.imp (pe_un h1 ha.pe) fun σ H Q ⟨c, e1, e2, O, p⟩ => ?_⟩
  subst e1 e2
  refine ⟨c, rfl, rfl, O, (Post.bnd2 p (Ext.refl c) rfl).imp fun c1 w hσ1 O1 x1 ⟨_, _, p1⟩ v r1 => ?_⟩
  obtain ⟨d, q, p2⟩ := p1.view O1 x1 hσ1 r1
  obtain ⟨w2, e, p3⟩ := p2.opt1
  exact h2 c1 d v w2 Q O1 q e (p3.fin O1 x1 hσ1)
/-- a op b op2 d -/
def chainM (g g2 : D → D → Option Bool) (fa fb fc : M W) : M Bool := bnd fa fun x => bnd fb fun y => bnd (view x) fun dx => bnd (view y) fun dy => bnd (opt (g dx dy)) fun k =>
  if k = true then bnd fc fun z => bnd (view y) fun dy => bnd (view z) fun dz => opt (g2 dy dz) else ret false
theorem chain_of {g g2 : D → D → Option Bool} {r r2 : R2} (hr : ∀ c d1 d2 v1 v2 b Q, Ok (tx X) c → RepV (tx X) c d1 v1 → RepV (tx X) c d2 v2 → g d1 d2 = some b → Q (.bl b) c.H → r v1 v2 c.H Q)
    (hr2 : ∀ c d1 d2 v1 v2 b Q, Ok (tx X) c → RepV (tx X) c d1 v1 → RepV (tx X) c d2 v2 → g2 d1 d2 = some b → Q (.bl b) c.H → r2 v1 v2 c.H Q)
    {σ : St} {H : Hp} {Q : VK} {R : Cf → Bool → Prop} (hR : ∀ c b, R c b → Q (.bl b) c.H) {c : Cf} (e1 : c.σ = σ) (e2 : c.H = H) (O : Ok (tx X) c) (p : Post (tx X) c (chainM g g2 fa fb fc c.s) R Wx) :
    tChain r r2 (tSE X Wx fa) (tSE X Wx fb) (tSE X Wx fc) σ H Q := by
  subst e1 e2
  refine ⟨c, rfl, rfl, O, (Post.bnd2 p (Ext.refl c) rfl).imp fun c1 w hσ1 O1 x1 ⟨_, _, p1⟩ v r1 => ?_⟩
  refine ⟨c1, hσ1, rfl, O1, (Post.bnd2 p1 x1 hσ1).imp fun c2 w2 hσ2 O2 x2 ⟨x3, hσ3, p2⟩ v2 r2 => ?_⟩
  obtain ⟨d1, q1, p3⟩ := p2.view O2 x3 hσ3 (r1.ext O1 x2 hσ2)
  obtain ⟨d2, q2, p4⟩ := p3.view O2 x3 hσ3 r2
  obtain ⟨k, e3, p5⟩ := p4.opt
  refine hr c2 d1 d2 v v2 k _ O2 q1 q2 e3 ⟨k, rfl, ?_⟩
  cases k with
  | false => exact hR _ _ (p5.ok rfl hσ3 O2 x3)
  | true =>
    rw [if_pos rfl] at p5 ⊢
    refine ⟨c2, hσ3, rfl, O2, (Post.bnd2 p5 x3 hσ3).imp fun c4 w4 hσ4 O4 x4 ⟨x5, hσ5, p6⟩ v4 r4 => ?_⟩
    obtain ⟨d5, q5, p7⟩ := p6.view O4 x5 hσ5 (r2.ext O2 x4 hσ4)
    obtain ⟨d6, q6, p8⟩ := p7.view O4 x5 hσ5 r4
    obtain ⟨k2, e9, p9⟩ := p8.opt1
    exact hr2 c4 d5 d6 v2 v4 k2 _ O4 q5 q6 e9 (hR _ _ (p9.ok rfl hσ5 O4 x5))
theorem se_chain {op op2 : CmpOp} {g g2 : D → D → Option Bool} (ho : CmpOk X (compareOp op) g) (ho2 : CmpOk X (compareOp op2) g2) (ha : SE X Wx a fa) (hb : SE X Wx b fb) (hc : SE X Wx d fc)
    (hm : lastMarks [op, op2] [b, d] = false := by with_unfolding_all rfl) : SE X Wx (.Compare a [op, op2] [b, d] pos) (blM (chainM g g2 fa fb fc)) := by
  obtain ⟨r, h1, h2⟩ := ho
  obtain ⟨r2, h3, h4⟩ := ho2
  refine ⟨PE.imp (pe_chain h1 h3 ha.pe hb.pe hc.pe hm) fun σ H Q ⟨c, e1, e2, O, p⟩ => ?_⟩
  exact chain_of h2 h4 (R := fun c1 b => c1.σ = c.σ ∧ Ok (tx X) c1 ∧ Ext c c1 ∧ Post (tx X) c (ret (.val (.bl b)) c1.s) (fun c1 w => ∀ v, RepW (tx X) H c1 w v → Q v c1.H) Wx) (fun c1 b ⟨hσ, O1, x, p⟩ => Post.ok (a := W.val (.bl b)) (s := c1.s) p rfl hσ O1 x _ repW_bl) e1 e2 O
    ((Post.bnd2 p (Ext.refl c) rfl).imp fun c1 b hσ O1 x ⟨_, _, q⟩ => ⟨hσ, O1, x, q⟩)
theorem st_chain {op op2 : CmpOp} {g g2 : D → D → Option Bool} (ho : CmpOk X (compareOp op) g) (ho2 : CmpOk X (compareOp op2) g2) (ha : SE X Wx a fa) (hb : SE X Wx b fb) (hc : SE X Wx d fc)
    (hm : lastMarks [op, op2] [b, d] = false := by with_unfolding_all rfl) : ST X Wx (.Compare a [op, op2] [b, d] pos) (chainM g g2 fa fb fc) := by
  obtain ⟨r, h1, h2⟩ := ho
  obtain ⟨r2, h3, h4⟩ := ho2
  refine ⟨PT.imp (pt_chain h1 h3 ha.pe hb.pe hc.pe hm) fun σ H Q ⟨c, e1, e2, O, p⟩ => ?_⟩
  exact chain_of h2 h4 (Q := fun x H' => ∃ k, x = .bl k ∧ Q k H') (fun c1 b q => ⟨b, rfl, q⟩) e1 e2 O p

/-! ## Subscripts -/
theorem Reps.at {T : Tx} {F : Hp} {φ : List Addr} {ds : List D} {us : List V} (r : Reps T F φ ds us) {i : Int} {d : D} (h : atI ds i = some d) : ∃ u, atI us i = some u ∧ Rep T F φ d u := by
  unfold atI at h ⊢
  rw [r.len]
  cases q : ixN ds.length i with
  | none => rw [q] at h; cases h
  | some j =>
    rw [q] at h
    exact r.get h
def keyOf : D → Option Key
  | .int i => some (.inl i)
  | .str x => some (.inr x)
  | _ => none
def keysOf : D → Option (List Key)
  | .tup ds => allOf keyOf ds
  | _ => none
def lookD {κ : Type} [DecidableEq κ] : List κ → List D → κ → Option D
  | k :: ks, d :: ds, q => if k = q then some d else lookD ks ds q
  | _, _, _ => none
theorem look_rep {κ : Type} [DecidableEq κ] {T : Tx} {F : Hp} {φ : List Addr} (q : κ) : ∀ {ks : List κ} {ds : List D} {us : List V}, us.length = ks.length → Reps T F φ ds us →
    (lookD ks ds q = none ∧ valV (ks.zip us) q = none) ∨ ∃ d u, lookD ks ds q = some d ∧ valV (ks.zip us) q = some u ∧ Rep T F φ d u
  | [], ds, us, z, r => .inl ⟨by cases ds <;> rfl, rfl⟩
  | k :: ks, [], us, z, r => by rw [show us = [] from r] at z; cases z
  | k :: ks, d :: ds, us, z, r => by
    obtain ⟨u, us, rfl, h1, h2⟩ := r
    show (((if k = q then some d else lookD ks ds q) = none ∧ _) ∨ _)
    have e : valV ((k :: ks).zip (u :: us)) q = if k = q then some u else valV (ks.zip us) q := by
      unfold valV
      rw [List.zip_cons_cons, List.find?_cons]
      by_cases hk : k = q
      · simp [hk]
      · simp [hk]
    rw [e]
    show (_ ∨ ∃ d' u', (if k = q then some d else lookD ks ds q) = some d' ∧ _)
    by_cases hk : k = q
    · simp only [hk, if_true]
      exact .inr ⟨d, u, rfl, rfl, h1⟩
    · simp only [hk, if_false]
      exact look_rep q (by simpa using z) h2
theorem keyOf_rep {T : Tx} {F : Hp} {φ : List Addr} {d : D} {v : V} {k : Key} (r : Rep T F φ d v) (h : keyOf d = some k) : v = kV k := by
  cases d <;> simp only [keyOf, reduceCtorEq, Option.some.injEq] at h <;> subst h <;> exact r
theorem keysOf_reps {T : Tx} {F : Hp} {φ : List Addr} : ∀ {ds : List D} {us : List V} {ks : List Key}, Reps T F φ ds us → allOf keyOf ds = some ks → us = ks.map kV
  | [], us, ks, r, h => by cases h; exact r
  | d :: ds, us, ks, r, h => by
    obtain ⟨u, us, rfl, h1, h2⟩ := r
    unfold allOf at h
    split at h
    · cases h
      rw [keyOf_rep h1 (by assumption), keysOf_reps h2 (by assumption)]
      rfl
    · cases h
/-- what a dict has at a key -/
def dgetG (d k : D) : Option (Option D) := match d with
  | .dK ks vs => match keyOf k with
    | some q => some (lookD ks vs q)
    | none => none
  | .dT ks vs => match keysOf k with
    | some q => some (lookD ks vs q)
    | none => none
  | _ => none
theorem dget_rep {T : Tx} {c : Cf} {d k : D} {v u : V} {o : Option D} (O : Ok T c) (r1 : RepV T c d v) (r2 : RepV T c k u) (h : dgetG d k = some o) :
    ∃ a ov, v = .ref a ∧ DGet c.H a u ov ∧ ((o = none ∧ ov = none) ∨ ∃ d' u', o = some d' ∧ ov = some u' ∧ Rep T c.H c.φ d' u') := by
  have r1 := r1.up O
  cases d <;> simp only [dgetG, reduceCtorEq] at h
  · obtain ⟨a, us, rfl, z, q, r⟩ := r1
    split at h
    · rename_i kk e
      cases h
      refine ⟨a, _, rfl, .inl ⟨_, kk, .inl q, keyOf_rep (r2.up O) e, rfl⟩, ?_⟩
      exact look_rep kk z r
    · cases h
  · obtain ⟨a, us, rfl, z, q, r⟩ := r1
    split at h
    · rename_i kk e
      cases h
      cases k <;> simp only [keysOf, reduceCtorEq] at e
      obtain ⟨b, ws, rfl, q2, r2⟩ := r2.tup O
      have e2 := keysOf_reps r2 e
      subst e2
      refine ⟨a, _, rfl, .inr ⟨_, kk, b, .inl q, rfl, q2, rfl⟩, ?_⟩
      exact look_rep kk z r
    · cases h
end
end Z

namespace Z
open PySem L2 PyProof.Rows

section
variable {X : Cx} {Wx : WX} {e a b d : Expr} {es rest : List Expr} {pos : Pos} {fa fb fc : M W} {fs : M (List W)}
/-! ## Subscripts -/
def rIxD : R2 := fun x y H Q => ∃ a v, x = .ref a ∧ DGet H a y (some v) ∧ Q v H
theorem ix_dict (hu : X.A.units + 1 < cLine) : IxR X rIxD := by
  intro value slice pins s σ H x y v u Q I rx ry h hs
  obtain ⟨a, z, rfl, g, q⟩ := h
  cases rx
  exact tail_any (dict_typeIs I g) PySem.F.slot_dict_getitem.lookup (d_getItem hu I g ry fun w' s3 I3 rw' => ⟨z, H, I3, rw', q⟩) hs
def ixG (d i : D) : Option W := match i with
  | .int k => match seqOf d with
    | some ds => match atI ds k with
      | some x => some (.val x)
      | none => none
    | none => match d with
      | .str z => if z.length ≤ sizeLine then match atI z.cps.toList k with
        | some c => some (.val (.str ⟨#[c]⟩))
        | none => none else none
      | _ => match dgetG d i with
        | some (some x) => some (.val x)
        | _ => none
  | _ => match dgetG d i with
    | some (some x) => some (.val x)
    | _ => none
/-- what a dict has at a key, as data of ours -/
theorem dget_repF {T : Tx} {c : Cf} {d k : D} {v u : V} {x : D} (O : Ok T c) (r1 : RepV T c d v) (r2 : RepV T c k u) (h : dgetG d k = some (some x)) : ∃ a u', v = .ref a ∧ DGet c.H a u (some u') ∧ Rep T c.F c.φ x u' := by
  cases d with
  | dK ks vs =>
    simp only [dgetG] at h
    split at h
    · rename_i kk e
      have h : lookD ks vs kk = some x := by simpa using h
      have key : ∀ a us, c.H a = some (.dK (ks.zip us)) → us.length = ks.length → Reps T c.F c.φ vs us → ∃ u', DGet c.H a u (some u') ∧ Rep T c.F c.φ x u' := fun a us q z r => by
        rcases look_rep kk z r with ⟨e1, _⟩ | ⟨d', u', e1, e2, r'⟩
        · rw [e1] at h; cases h
        · rw [e1] at h; cases h
          exact ⟨u', .inl ⟨_, kk, .inl q, keyOf_rep (r2.up O) e, e2.symm⟩, r'⟩
      cases r1 with
      | dat r =>
        obtain ⟨a, us, rfl, z, q, r⟩ := r
        obtain ⟨u', k1, k2⟩ := key a us (O.le _ _ q) z r
        exact ⟨a, u', rfl, k1, k2⟩
      | cel cl a e1 e2 hc =>
        cases cl <;> cases e1
        obtain ⟨us, z, q, r⟩ := hc
        obtain ⟨u', k1, k2⟩ := key a us q z r
        exact ⟨a, u', e2, k1, k2⟩
    · cases h
  | dT ks vs =>
    simp only [dgetG] at h
    split at h
    · rename_i kk e
      have h : lookD ks vs kk = some x := by simpa using h
      cases k <;> simp only [keysOf, reduceCtorEq] at e
      obtain ⟨b, ws, rfl, q2, r2⟩ := r2.tup O
      have e2 := keysOf_reps r2 e
      subst e2
      have key : ∀ a us, c.H a = some (.dT (ks.zip us)) → us.length = ks.length → Reps T c.F c.φ vs us → ∃ u', DGet c.H a (.ref b) (some u') ∧ Rep T c.F c.φ x u' := fun a us q z r => by
        rcases look_rep kk z r with ⟨e1, _⟩ | ⟨d', u', e1, e2, r'⟩
        · rw [e1] at h; cases h
        · rw [e1] at h; cases h
          exact ⟨u', .inr ⟨_, kk, b, .inl q, rfl, q2, e2.symm⟩, r'⟩
      cases r1 with
      | dat r =>
        obtain ⟨a, us, rfl, z, q, r⟩ := r
        obtain ⟨u', k1, k2⟩ := key a us (O.le _ _ q) z r
        exact ⟨a, u', rfl, k1, k2⟩
      | cel cl a e1 e2 hc =>
        cases cl <;> cases e1
        obtain ⟨us, z, q, r⟩ := hc
        obtain ⟨u', k1, k2⟩ := key a us q z r
        exact ⟨a, u', e2, k1, k2⟩
    · cases h
  | _ => simp only [dgetG, reduceCtorEq] at h
theorem se_ix (hu : X.A.units + 1 < cLine) (ha : SE X Wx a fa) (hb : SE X Wx b fb) (hs : PlainIx b := by exact fun _ _ => rfl) : SE X Wx (.Subscript a b pos) (opM ixG fa fb) := by
  refine ⟨PE.imp (pe_ix (ix_seq.or (ix_dict hu)) ha.pe hb.pe hs) fun σ H Q h => two_of (fun c d1 d2 v1 v2 w Q O r1 r2 q f => ?_) h⟩
  have dict : ∀ w, (match dgetG d1 d2 with | some (some x) => some (W.val x) | _ => none) = some w → Fin2 (tx X) c w Q → rIxD v1 v2 c.H Q := fun w e f => by
    split at e
    · cases e
      obtain ⟨a, u', rfl, g, r⟩ := dget_repF O r1 r2 (by assumption)
      exact ⟨a, u', rfl, g, f.sc O r⟩
    · cases e
  unfold ixG at q
  split at q
  · rename_i k
    split at q
    · rename_i ds e
      split at q
      · cases q
        obtain ⟨a, us, rfl, h, r⟩ := r1.seqOf O e
        obtain ⟨u, e2, r⟩ := r.at (by assumption)
        rcases h with h | h
        · exact .inl (.inl ⟨a, us, k, u, rfl, r2.int, h, e2, f.sc O r⟩)
        · exact .inl (.inr (.inl ⟨a, us, k, u, rfl, r2.int, h, e2, f.sc O r⟩))
      · cases q
    · split at q
      · split at q
        · split at q
          · cases q
            exact .inl (.inr (.inr ⟨_, k, _, r1.str, r2.int, by assumption, by assumption, f.sc O rfl⟩))
          · cases q
        · cases q
      · exact .inr (dict w q f)
  · exact .inr (dict w q f)
/-! ### slices -/
def tSO (X : Cx) (Wx : WX) (f : M (Option Int)) : TO := fun σ H Q => ∃ c : Cf, c.σ = σ ∧ c.H = H ∧ Ok (tx X) c ∧ Post (tx X) c (f c.s) (fun c1 o => Q o c1.H) Wx
structure SO (X : Cx) (Wx : WX) (e : Option Expr) (f : M (Option Int)) : Prop where
  po : PO X e (tSO X Wx f)
theorem PO.imp {e : Option Expr} {t t' : TO} (h : PO X e t) (k : ∀ σ H Q, t' σ H Q → t σ H Q) : PO X e t' := ⟨fun pins s σ H Q I q => h.run pins s σ H Q I (k _ _ _ q)⟩
def intM (fa : M W) : M Int := bnd fa fun x => bnd (view x) fun d => opt (intOf d)
theorem so_none : SO X Wx none (ret none) := ⟨PO.imp po_none fun σ H Q ⟨c, e1, e2, O, p⟩ => by
  subst e1 e2
  exact p.here O⟩
theorem intOf_rep {T : Tx} {c : Cf} {d : D} {v : V} {i : Int} (r : RepV T c d v) (h : intOf d = some i) : v = .int i := by
  cases d <;> cases h
  exact r.int
theorem so_some (h : SE X Wx e fa) : SO X Wx (some e) (bnd (intM fa) fun i => ret (some i)) := ⟨PO.imp (po_some h.pe) fun σ H Q ⟨c, e1, e2, O, p⟩ => by
  subst e1 e2
  unfold intM at p
  rw [bnd_assoc] at p
  refine ⟨c, rfl, rfl, O, (Post.bnd2 p (Ext.refl c) rfl).imp fun c1 w hσ1 O1 x1 ⟨_, _, p1⟩ v r1 => ?_⟩
  rw [bnd_assoc] at p1
  obtain ⟨d, q, p2⟩ := p1.view O1 x1 hσ1 r1
  obtain ⟨i, e, p3⟩ := p2.opt
  exact ⟨i, intOf_rep q e, p3.ok rfl hσ1 O1 x1⟩⟩
def cutL {α : Type} (xs : List α) (lo hi : Option Int) : List α := (xs.drop (HT.sIx xs.length 0 lo)).take (HT.sIx xs.length xs.length hi - HT.sIx xs.length 0 lo)
theorem Reps.cut {T : Tx} {F : Hp} {φ : List Addr} {ds : List D} {us : List V} (r : Reps T F φ ds us) (lo hi : Option Int) : Reps T F φ (cutL ds lo hi) (cutV us lo hi) := by
  unfold cutL cutV
  rw [r.len]
  exact (r.drop _).take _
def slG (d : D) (lo hi : Option Int) : Option W := match d with
  | .str z => if z.length ≤ sizeLine then some (.val (.str (cutS z lo hi))) else none
  | .tup ds => some (.val (.tup (cutL ds lo hi)))
  | _ => match lstOf d with
    | some ds => some (.new (.lst (cutL ds lo hi)))
    | none => none
def slM (fa : M W) (fl fh : M (Option Int)) : M W := bnd fa fun x => bnd fl fun lo => bnd fh fun hi => bnd (view x) fun d => opt (slG d lo hi)
theorem cut_whole {α : Type} {xs : List α} {lo hi : Option Int} (h : HT.sIx xs.length 0 lo = 0 ∧ HT.sIx xs.length xs.length hi = xs.length) : cutL xs lo hi = xs := by
  unfold cutL
  rw [h.1, h.2]
  simp
theorem se_slice {lo hi : Option Expr} {fl fh : M (Option Int)} {p2 : Pos} (ha : SE X Wx a fa) (hl : SO X Wx lo fl) (hh : SO X Wx hi fh) : SE X Wx (.Subscript a (.Slice lo hi none p2) pos) (slM fa fl fh) := by
  refine ⟨PE.imp (pe_slice (sl_str.or (sl_tupA.or sl_list)) ha.pe hl.po hh.po) fun σ H Q ⟨c, e1, e2, O, p⟩ => ?_⟩
  subst e1 e2
  refine ⟨c, rfl, rfl, O, (Post.bnd2 p (Ext.refl c) rfl).imp fun c1 w hσ1 O1 x1 ⟨_, _, p1⟩ v r1 => ?_⟩
  refine ⟨c1, hσ1, rfl, O1, (Post.bnd2 p1 x1 hσ1).imp fun c2 l hσ2 O2 x2 ⟨x3, hσ3, p2⟩ => ?_⟩
  refine ⟨c2, hσ3, rfl, O2, (Post.bnd2 p2 x3 hσ3).imp fun c3 h hσ4 O3 x4 ⟨x5, hσ5, p3⟩ => ?_⟩
  obtain ⟨d, q, p4⟩ := p3.view O3 x5 hσ5 (r1.ext O1 (x2.trans x4) (hσ4.trans hσ2))
  obtain ⟨w2, e, p5⟩ := p4.opt1
  have f := p5.fin O3 x5 hσ5
  unfold slG at e
  split at e
  · split at e
    · cases e
      exact .inl ⟨_, q.str, by assumption, f.sc O3 rfl⟩
    · cases e
  · rename_i ds
    cases e
    obtain ⟨a, us, rfl, h1, r⟩ := q.tup O3
    refine .inr (.inl ⟨a, us, rfl, .of h1, fun z => ?_, fun z p hp => f.tup O3 (r.cut _ _) hp⟩)
    rw [r.len] at z
    rw [cut_whole z] at f
    exact f.sc O3 q.tupF
  · split at e
    · cases e
      obtain ⟨a, us, rfl, h1, r⟩ := q.lstOf O3 (by assumption)
      exact .inr (.inr ⟨a, us, rfl, h1, fun p hp => f.lst O3 (r.cut _ _) hp⟩)
    · cases e
/-! ## `in` a dict -/
def rDIn (neg : Bool) : R2 := fun y x H Q => ∃ a o, x = .ref a ∧ DGet H a y o ∧ Q (.bl (if neg then !o.isSome else o.isSome)) H
theorem op_din (hu : X.A.units + 1 < cLine) : OpR X (compareOp .In) (rDIn false) := by
  intro pins s σ H y x u v Q I ry rx h
  obtain ⟨a, o, rfl, g, q⟩ := h
  cases rx
  exact d_in hu I g ry fun s3 I3 => ⟨.bl o.isSome, H, I3, rfl, q⟩
theorem op_dnotin (hu : X.A.units + 1 < cLine) : OpR X (compareOp .NotIn) (rDIn true) := by
  intro pins s σ H y x u v Q I ry rx h
  obtain ⟨a, o, rfl, g, q⟩ := h
  cases rx
  exact d_notIn hu I g ry fun s3 I3 => ⟨.bl (!o.isSome), H, I3, rfl, q⟩
/-- in: a text, a list, a tuple, a dict -/
def inA (d1 d2 : D) : Option Bool := match d2 with
  | .dK _ _ => match dgetG d2 d1 with
    | some o => some o.isSome
    | none => none
  | .dT _ _ => match dgetG d2 d1 with
    | some o => some o.isSome
    | none => none
  | _ => inG d1 d2
def notInA (d1 d2 : D) : Option Bool := match inA d1 d2 with
  | some b => some (!b)
  | none => none
theorem inA_cases {T : Tx} {c : Cf} {d1 d2 : D} {v1 v2 : V} {b : Bool} (O : Ok T c) (r1 : RepV T c d1 v1) (r2 : RepV T c d2 v2) (h : inA d1 d2 = some b) : inG d1 d2 = some b ∨ ∃ a o, v2 = .ref a ∧ DGet c.H a v1 o ∧ b = o.isSome := by
  have key : (match dgetG d2 d1 with | some o => some o.isSome | none => none) = some b → ∃ a o, v2 = .ref a ∧ DGet c.H a v1 o ∧ b = o.isSome := fun e => by
    split at e
    · cases e
      obtain ⟨a, ov, rfl, g, z⟩ := dget_rep O r2 r1 (by assumption)
      refine ⟨a, ov, rfl, g, ?_⟩
      rcases z with ⟨rfl, rfl⟩ | ⟨_, _, rfl, rfl, _⟩ <;> rfl
    · cases e
  unfold inA at h
  split at h
  · exact .inr (key h)
  · exact .inr (key h)
  · exact .inl h
theorem co_inA (hu : X.A.units + 65 < cLine) : CmpOk X (compareOp .In) inA := by
  obtain ⟨r, h1, h2⟩ := co_in (X := X) hu
  refine ⟨_, h1.or (op_din (by omega)), fun c d1 d2 v1 v2 b Q O r1 r2 q f => ?_⟩
  rcases inA_cases O r1 r2 q with e | ⟨a, o, rfl, g, rfl⟩
  · exact .inl (h2 c d1 d2 v1 v2 b Q O r1 r2 e f)
  · exact .inr ⟨a, o, rfl, g, f⟩
theorem co_notInA (hu : X.A.units + 65 < cLine) : CmpOk X (compareOp .NotIn) notInA := by
  obtain ⟨r, h1, h2⟩ := co_notIn (X := X) hu
  refine ⟨_, h1.or (op_dnotin (by omega)), fun c d1 d2 v1 v2 b Q O r1 r2 q f => ?_⟩
  unfold notInA at q
  split at q
  · cases q
    rcases inA_cases O r1 r2 (by assumption) with e | ⟨a, o, rfl, g, rfl⟩
    · exact .inl (h2 c d1 d2 v1 v2 _ Q O r1 r2 (by unfold notInG; rw [e]) f)
    · exact .inr ⟨a, o, rfl, g, f⟩
  · cases q
end
end Z

namespace Z
open PySem L2

/-! ## Writing a cell -/
section
variable {T : Tx} {c c0 : Cf} {a : Addr} {cl cl' : Cell} {o : HO}
/-- the state's part of a write at the address a -/
theorem Ok.write {s1 : S} (O : Ok T c) (m : Mu c a) (ho : ∀ x, o ≠ .own x) (hc : CellAt T c.F c.φ (upd c.H a o) cl' a)
    (h1 : s1.h.length = c.s.h.length) (h2 : ∀ (n : Nat) (cl : Cell), s1.h[n]? = some cl → (c.φ[n]? = some a ∧ cl = cl') ∨ (c.φ[n]? ≠ some a ∧ c.s.h[n]? = some cl))
    (e1 : s1.e.length = c.s.e.length) (e2 : ∀ (i : Nat) (sl : Slot), s1.e[i]? = some sl → (∀ cl, sl = .ow cl → (∃ cl0, c.s.e[i]? = some (.ow cl0)) ∧ (Own c i a → cl = cl') ∧ (¬ Own c i a → c.s.e[i]? = some (.ow cl))) ∧ (∀ d, sl = .fz d → c.s.e[i]? = some (.fz d))) :
    Ok T { c with H := upd c.H a o, s := s1 } ∧ Ext c { c with H := upd c.H a o, s := s1 } := by
  obtain ⟨ou, hu, nu⟩ := O.there m
  have p := List.prefix_refl c.φ
  have keep : ∀ b, b ≠ a → (∀ cl, CellAt T c.F c.φ c.H cl b → CellAt T c.F c.φ (upd c.H a o) cl b) := fun b hb cl h => h.keep ⟨upd_ne hb, fun dx e => (upd_ne (fun z => by
    rw [z, hu] at e; cases e; exact nu _ rfl)).trans e⟩
  have own : ∀ i b, Own { c with H := upd c.H a o, s := s1 } i b → Own c i b := fun i b ⟨⟨cl, h⟩, h3⟩ => ⟨((e2 i _ h).1 cl rfl).1, h3⟩
  have mu : ∀ b, Mu { c with H := upd c.H a o, s := s1 } b → Mu c b := fun b h => h.elim .inl fun ⟨i, h⟩ => .inr ⟨i, own i b h⟩
  refine ⟨⟨fun b u e => ?_, h1 ▸ O.len, fun n b cl hb hn => ?_, O.nd, fun i d h => ?_, fun i cl h => ?_, fun i j b x y => O.apart i j b (own i b x) (own j b y), fun i b x => O.out i b (own i b x), fun b h => O.free b (mu b h), e1.trans O.elen⟩,
    ⟨fun _ _ h => h, p, fun b u e n => (upd_ne (fun z => n (by rw [z]; exact m))).trans e, fun b h => ?_, fun b h => .inl (mu b h), fun _ h => .inl h⟩⟩
  · have hb : b ≠ a := fun z => by
      have := O.free a m
      have e : c.F b = some u := e
      rw [z, this] at e
      cases e
    exact (upd_ne hb).trans (O.le b u e)
  · rcases h2 n cl hn with ⟨h3, rfl⟩ | ⟨h3, h4⟩
    · have hb : c.φ[n]? = some b := hb
      rw [hb] at h3
      cases h3
      exact hc
    · exact keep b (fun z => h3 (by rw [← z]; exact hb)) cl (O.cell n b cl hb h4)
  · exact O.fz i d ((e2 i _ h).2 d rfl)
  · obtain ⟨⟨cl0, k1⟩, k2, k3⟩ := (e2 i _ h).1 cl rfl
    obtain ⟨b, k4, k5⟩ := O.ow i cl0 k1
    by_cases hb : Own c i a
    · have e : b = a := by
        have := hb.2
        rw [k4] at this
        cases this
        rfl
      subst e
      rw [k2 hb]
      exact ⟨b, k4, hc⟩
    · have k6 := k3 hb
      rw [k1] at k6
      cases k6
      exact ⟨b, k4, keep b (fun z => hb ⟨⟨cl, k1⟩, z ▸ k4⟩) cl k5⟩
  · by_cases hb : b = a
    · show upd c.H a o b ≠ none
      rw [hb, upd_same]
      exact fun z => nomatch z
    · show upd c.H a o b ≠ none
      rw [upd_ne hb]
      exact h
end
/-- a cell is changed, by its handle -/
def updW {α : Type} (w : W) (k : Cell → Option (Cell × α)) : M α := fun s =>
  let hp : Nat → Out α := fun n => match s.h[n]? with
    | some cl => match k cl with
      | some (cl', a) => .ok a { s with h := s.h.set n cl' }
      | none => .stuck
    | none => .stuck
  match w with
  | .val (.ref n) => hp n
  | .slot i => match s.e[i]? with
    | some (.fz (.ref n)) => hp n
    | some (.ow cl) => match k cl with
      | some (cl', a) => .ok a { s with e := s.e.set i (.ow cl') }
      | none => .stuck
    | _ => .stuck
  | _ => .stuck
theorem post_updW {T : Tx} {c c0 : Cf} {α : Type} {w : W} {v : V} {k : Cell → Option (Cell × α)} {R : Cf → α → Prop} {E : WX} (O : Ok T c) (x : Ext c0 c) (hσ : c.σ = c0.σ) (r : RepA T c w v) (h : Post T c0 (updW w k c.s) R E) :
    ∃ a cl cl' y, v = .ref a ∧ CellAt T c.F c.φ c.H cl a ∧ k cl = some (cl', y) ∧ ∀ o, (∀ z, o ≠ .own z) → CellAt T c.F c.φ (upd c.H a o) cl' a → ∃ c1, c1.H = upd c.H a o ∧ c1.F = c.F ∧ c1.φ = c.φ ∧ c1.σ = c.σ ∧ Ok T c1 ∧ Ext c0 c1 ∧ R c1 y := by
  have hp : ∀ n a, c.φ[n]? = some a → Post T c0 (match c.s.h[n]? with
      | some cl => match k cl with
        | some (cl', a) => Out.ok a { c.s with h := c.s.h.set n cl' }
        | none => Out.stuck
      | none => Out.stuck) R E → ∃ cl cl' y, CellAt T c.F c.φ c.H cl a ∧ k cl = some (cl', y) ∧ ∀ o, (∀ z, o ≠ .own z) → CellAt T c.F c.φ (upd c.H a o) cl' a → ∃ c1, c1.H = upd c.H a o ∧ c1.F = c.F ∧ c1.φ = c.φ ∧ c1.σ = c.σ ∧ Ok T c1 ∧ Ext c0 c1 ∧ R c1 y := fun n a hn h => by
    split at h
    · rename_i cl e
      split at h
      · rename_i cl' y e2
        refine ⟨cl, cl', y, O.cell n a cl hn e, e2, fun o ho hc => ?_⟩
        have hm : Mu c a := .inl (List.mem_of_getElem? hn)
        have hnl : n < c.s.h.length := (List.getElem?_eq_some_iff.mp e).1
        obtain ⟨O1, x1⟩ := O.write (s1 := { c.s with h := c.s.h.set n cl' }) (o := o) hm ho hc (by show (c.s.h.set n cl').length = _; rw [List.length_set]) (fun m cl2 h2 => by
          have h2 : (c.s.h.set n cl')[m]? = some cl2 := h2
          by_cases q : m = n
          · subst q
            rw [List.getElem?_set_self hnl] at h2
            cases h2
            exact .inl ⟨hn, rfl⟩
          · rw [List.getElem?_set_ne (Ne.symm q)] at h2
            refine .inr ⟨fun z => q ?_, h2⟩
            exact (List.getElem_inj O.nd).mp ((List.getElem?_eq_some_iff.mp z).2.trans (List.getElem?_eq_some_iff.mp hn).2.symm)) rfl (fun i sl hs => by
          refine ⟨fun cl2 q => ?_, fun d q => by rw [q] at hs; exact hs⟩
          rw [q] at hs
          exact ⟨⟨cl2, hs⟩, fun z => absurd (List.mem_of_getElem? hn) (O.out i a z), fun _ => hs⟩)
        exact ⟨_, (by rfl), (by rfl), (by rfl), (by rfl), O1, x.trans x1, h.ok rfl hσ O1 (x.trans x1)⟩
      · exact h.elim
    · exact h.elim
  cases w with
  | new cl => exact r.elim
  | val d =>
    unfold updW at h
    cases d with
    | ref n =>
      obtain ⟨a, hn, rfl⟩ := r
      obtain ⟨cl, cl', y, z⟩ := hp n a hn h
      exact ⟨a, cl, cl', y, rfl, z⟩
    | _ => exact h.elim
  | slot i =>
    have r : c.σ[i]? = some (some v) := r
    unfold updW at h
    cases e : c.s.e[i]? with
    | none => simp only [e] at h; exact h.elim
    | some sl =>
      simp only [e] at h
      cases sl with
      | un => exact h.elim
      | fz d =>
        cases d with
        | ref n =>
          obtain ⟨v', e1, a, hn, rfl⟩ := O.fz i _ e
          rw [r] at e1
          cases e1
          obtain ⟨cl, cl', y, z⟩ := hp n a hn h
          exact ⟨a, cl, cl', y, rfl, z⟩
        | _ => exact h.elim
      | ow cl =>
        obtain ⟨a, e1, hcl⟩ := O.ow i cl e
        rw [r] at e1
        cases e1
        dsimp only at h
        split at h
        · rename_i cl' y e2
          refine ⟨a, cl, cl', y, rfl, hcl, e2, fun o ho hc => ?_⟩
          have own : Own c i a := ⟨⟨cl, e⟩, r⟩
          have hi : i < c.s.e.length := (List.getElem?_eq_some_iff.mp e).1
          obtain ⟨O1, x1⟩ := O.write (s1 := { c.s with e := c.s.e.set i (.ow cl') }) (o := o) (.inr ⟨i, own⟩) ho hc rfl (fun m cl2 h2 => .inr ⟨fun z => O.out i a own (List.mem_of_getElem? z), h2⟩) (by show (c.s.e.set i _).length = _; rw [List.length_set]) (fun j sl hs => by
            have hs : (c.s.e.set i (.ow cl'))[j]? = some sl := hs
            by_cases q : j = i
            · subst q
              rw [List.getElem?_set_self hi] at hs
              cases hs
              exact ⟨fun cl2 q => by cases q; exact ⟨⟨cl, e⟩, fun _ => rfl, fun z => absurd own z⟩, fun d q => nomatch q⟩
            · rw [List.getElem?_set_ne (Ne.symm q)] at hs
              refine ⟨fun cl2 z => ?_, fun d z => by rw [z] at hs; exact hs⟩
              rw [z] at hs
              exact ⟨⟨cl2, hs⟩, fun z => absurd (O.apart j i a z own) q, fun _ => hs⟩)
          exact ⟨_, (by rfl), (by rfl), (by rfl), (by rfl), O1, x.trans x1, h.ok rfl hσ O1 (x.trans x1)⟩
        · exact h.elim
/-! ## Methods of built-in types -/
def mtyD : D → Option String
  | .str _ => some "str"
  | .int _ => some "int"
  | .lst _ => some "list"
  | .scr _ => some "list"
  | .dK _ _ => some "dict"
  | .dT _ _ => some "dict"
  | _ => none
theorem tyV_of {T : Tx} {c : Cf} {d : D} {v : V} {t : String} (O : Ok T c) (r : RepV T c d v) (h : mtyD d = some t) : tyV T.K t v c.H := by
  cases d <;> simp only [mtyD, Option.some.injEq, reduceCtorEq] at h <;> subst h
  · cases r.int; exact rfl
  · cases r.str; exact rfl
  · obtain ⟨a, us, rfl, h, _⟩ := r.lst O
    exact .inl ⟨rfl, us, .of h⟩
  · obtain ⟨a, us, rfl, h, _⟩ := r.scr O
    exact .inl ⟨rfl, us, h⟩
  · obtain ⟨a, us, rfl, _, h, _⟩ := r.up O
    exact .inr (.inr (.inl ⟨rfl, .inl ⟨_, h⟩⟩))
  · obtain ⟨a, us, rfl, _, h, _⟩ := r.up O
    exact .inr (.inr (.inl ⟨rfl, .inr ⟨_, h⟩⟩))
def guard (b : Bool) : M Unit := fun s => if b = true then .ok () s else .stuck
theorem Post.guard {T : Tx} {c0 : Cf} {β : Type} {E : WX} {b : Bool} {k : Unit → M β} {s : S} {R : Cf → β → Prop} (h : Post T c0 (Z.bnd (Z.guard b) k s) R E) : b = true ∧ Post T c0 (k () s) R E := by
  cases b with
  | false => exact h.elim
  | true => exact ⟨rfl, h⟩
/-- a method that changes nothing -/
def MtOk (X : Cx) (id : String) (g : D → List D → Option W) : Prop :=
  ∃ r, MtR X id r ∧ ∀ c d ds v vs w Q, Ok (tx X) c → RepV (tx X) c d v → RepVs (tx X) c ds vs → g d ds = some w → Fin2 (tx X) c w Q → r v vs c.H Q
/-- a method that changes its object -/
def MuOk (X : Cx) (id : String) (g : Cell → List D → Option (Cell × D)) : Prop :=
  ∃ r, MtR X id r ∧ ∀ c a cl ds vs cl' y Q, Ok (tx X) c → CellAt (tx X) c.F c.φ c.H cl a → Reps (tx X) c.F c.φ ds vs → g cl ds = some (cl', y) →
    (∀ o v, (∀ z, o ≠ .own z) → CellAt (tx X) c.F c.φ (upd c.H a o) cl' a → Rep (tx X) c.F c.φ y v → Q v (upd c.H a o)) → r (.ref a) vs c.H Q
def mtM (t : String) (g : D → List D → Option W) (fa : M W) (fs : M (List W)) : M W := bnd fa fun x => bnd (fix x) fun x => bnd (view x) fun d => bnd (guard (decide (mtyD d = some t))) fun _ => bnd fs fun ws => bnd (view x) fun d => bnd (views ws) fun ds => opt (g d ds)
def muM (t : String) (g : Cell → List D → Option (Cell × D)) (fa : M W) (fs : M (List W)) : M W := bnd fa fun x => bnd (fix x) fun x => bnd (view x) fun d => bnd (guard (decide (mtyD d = some t))) fun _ => bnd fs fun ws => bnd (toDs ws) fun ds => bnd (updW x fun cl => g cl ds) fun y => ret (.val y)
section
variable {X : Cx} {Wx : WX} {e o : Expr} {es : List Expr} {fo : M W} {fs : M (List W)} {name : Str} {apos cpos : Pos} {T id : String}
theorem mt_of {g : D → List D → Option W} {r : V → List V → Hp → VK → Prop} (hr : ∀ c d ds v vs w Q, Ok (tx X) c → RepV (tx X) c d v → RepVs (tx X) c ds vs → g d ds = some w → Fin2 (tx X) c w Q → r v vs c.H Q) {σ : St} {H : Hp} {Q : VK}
    (h : tSE X Wx (mtM T g fo fs) σ H Q) : tBM X.K T r (tSE X Wx fo) (tSA X Wx fs) σ H Q := by
  obtain ⟨c, e1, e2, O, p⟩ := h
  subst e1 e2
  refine ⟨c, rfl, rfl, O, (Post.bnd2 p (Ext.refl c) rfl).imp fun c1 w hσ1 O1 x1 ⟨_, _, p1⟩ v r1 => ?_⟩
  obtain ⟨c2, w2, h1, h2, O2, x2, r2, p2⟩ := p1.fix O1 x1 hσ1 r1
  have hσ2 := h1.trans hσ1
  obtain ⟨d, q, p3⟩ := p2.view O2 x2 hσ2 (RepA.w (H0 := c.H) r2)
  obtain ⟨ty, p4⟩ := p3.guard
  rw [← h2]
  refine ⟨tyV_of O2 q (of_decide_eq_true ty), c2, hσ2, rfl, O2, (Post.bnd2 p4 x2 hσ2).imp fun c3 ws hσ3 O3 x3 ⟨x4, hσ4, p5⟩ us r3 => ?_⟩
  obtain ⟨d2, q2, p6⟩ := p5.view O3 x4 hσ4 (RepA.w (H0 := c.H) (r2.ext x3 hσ3))
  obtain ⟨ds, q3, p7⟩ := Post.views O3 x4 hσ4 p6 r3
  obtain ⟨w4, e, p8⟩ := p7.opt1
  exact hr c3 d2 ds v us w4 Q O3 q2 q3 e (p8.fin O3 x4 hσ4)
theorem mu_of {g : Cell → List D → Option (Cell × D)} {r : V → List V → Hp → VK → Prop} (hr : ∀ c a cl ds vs cl' y Q, Ok (tx X) c → CellAt (tx X) c.F c.φ c.H cl a → Reps (tx X) c.F c.φ ds vs → g cl ds = some (cl', y) →
    (∀ o v, (∀ z, o ≠ .own z) → CellAt (tx X) c.F c.φ (upd c.H a o) cl' a → Rep (tx X) c.F c.φ y v → Q v (upd c.H a o)) → r (.ref a) vs c.H Q) {σ : St} {H : Hp} {Q : VK}
    (h : tSE X Wx (muM T g fo fs) σ H Q) : tBM X.K T r (tSE X Wx fo) (tSA X Wx fs) σ H Q := by
  obtain ⟨c, e1, e2, O, p⟩ := h
  subst e1 e2
  refine ⟨c, rfl, rfl, O, (Post.bnd2 p (Ext.refl c) rfl).imp fun c1 w hσ1 O1 x1 ⟨_, _, p1⟩ v r1 => ?_⟩
  obtain ⟨c2, w2, h1, h2, O2, x2, r2, p2⟩ := p1.fix O1 x1 hσ1 r1
  have hσ2 := h1.trans hσ1
  obtain ⟨d, q, p3⟩ := p2.view O2 x2 hσ2 (RepA.w (H0 := c.H) r2)
  obtain ⟨ty, p4⟩ := p3.guard
  rw [← h2]
  refine ⟨tyV_of O2 q (of_decide_eq_true ty), c2, hσ2, rfl, O2, (Post.bnd2 p4 x2 hσ2).imp fun c3 ws hσ3 O3 x3 ⟨x4, hσ4, p5⟩ us r3 => ?_⟩
  obtain ⟨c4, ds, h3, h4, O4, x5, r4, p6⟩ := p5.toDs O3 r3
  have r5 := r2.ext (x3.trans x5) (h3.trans hσ3)
  obtain ⟨_, _, p7⟩ : True ∧ True ∧ Post (tx X) c (bnd (updW w2 fun cl => g cl ds) (fun y => ret (W.val y)) c4.s) _ Wx := ⟨trivial, trivial, p6⟩
  have x6 := x4.trans x5
  have hσ6 := h3.trans hσ4
  have p8 : Post (tx X) c (updW w2 (fun cl => g cl ds) c4.s) (fun c1 y => Post (tx X) c (ret (W.val y) c1.s) (fun c1 w => ∀ v, RepW (tx X) c.H c1 w v → Q v c1.H) Wx) Wx := by
    unfold Z.bnd at p7
    cases e : updW w2 (fun cl => g cl ds) c4.s with
    | ok a s1 =>
      rw [e] at p7
      exact fun c1 e1 e2 O y => by
        subst e1
        exact p7
    | exc C ns ds s1 => rw [e] at p7; exact p7
    | stuck => rw [e] at p7; exact p7
  obtain ⟨a, cl, cl', y, rfl, hc, e, fin⟩ := post_updW O4 x6 hσ6 r5 p8
  rw [← h4]
  refine hr c4 a cl ds us cl' y Q O4 hc r4 e fun o v ho hc' rv => ?_
  obtain ⟨c5, k1, k2, k3, k4, O5, x7, p9⟩ := fin o ho hc'
  have z := Post.ok (a := W.val y) (s := c5.s) p9 rfl (k4.trans hσ6) O5 x7 v (show Rep _ c5.F c5.φ y v by rw [k2, k3]; exact rv)
  rw [k1] at z
  exact z
theorem se_mt (pa : PlainAttrs T) (slot : PySem.Slot T name id) (hty : typeOf (.builtin id) = pure (.type "method_descriptor")) {g : D → List D → Option W} (hm : MtOk X id g) (ho : SE X Wx o fo) (ha : SA X Wx (e :: es) fs)
    (hbase : attributeBase o name X.env (eval o X.env) = eval o X.env := by rfl)
    (hfew : ((backTo cpos (starEach (e :: es) X.env)).all (fun x => !x.1) && (backToKw cpos (keywordEach [] X.env)).all (fun x => x.1.isSome)
      && decide ((e :: es).length + ([] : List Keyword).length + (if ([] : List Keyword).isEmpty then 0 else 1) < 30)) = true := by rfl)
    (hline : (apos.endLine == cpos.line) = true := by rfl) (hs : starEach (e :: es) X.env = (false, eval e X.env) :: starEach es X.env := by rfl) (hplain : (backTo cpos (starEach es X.env)).any (·.1) = false := by rfl) :
    SE X Wx (.Call (.Attribute o name apos) (e :: es) [] cpos) (mtM T g fo fs) := by
  obtain ⟨r, h1, h2⟩ := hm
  exact ⟨PE.imp (pe_bm pa slot hty h1 ho.pe ha.pa hbase hfew hline hs hplain) fun σ H Q h => mt_of h2 h⟩
theorem se_mu (pa : PlainAttrs T) (slot : PySem.Slot T name id) (hty : typeOf (.builtin id) = pure (.type "method_descriptor")) {g : Cell → List D → Option (Cell × D)} (hm : MuOk X id g) (ho : SE X Wx o fo) (ha : SA X Wx (e :: es) fs)
    (hbase : attributeBase o name X.env (eval o X.env) = eval o X.env := by rfl)
    (hfew : ((backTo cpos (starEach (e :: es) X.env)).all (fun x => !x.1) && (backToKw cpos (keywordEach [] X.env)).all (fun x => x.1.isSome)
      && decide ((e :: es).length + ([] : List Keyword).length + (if ([] : List Keyword).isEmpty then 0 else 1) < 30)) = true := by rfl)
    (hline : (apos.endLine == cpos.line) = true := by rfl) (hs : starEach (e :: es) X.env = (false, eval e X.env) :: starEach es X.env := by rfl) (hplain : (backTo cpos (starEach es X.env)).any (·.1) = false := by rfl) :
    SE X Wx (.Call (.Attribute o name apos) (e :: es) [] cpos) (muM T g fo fs) := by
  obtain ⟨r, h1, h2⟩ := hm
  exact ⟨PE.imp (pe_bm pa slot hty h1 ho.pe ha.pa hbase hfew hline hs hplain) fun σ H Q h => mu_of h2 h⟩
theorem bm0_bm {r : V → List V → Hp → VK → Prop} {to : TE} {σ : St} {H : Hp} {Q : VK} (h : tBM X.K T r to (fun σ H Q => Q [] H) σ H Q) : tBM0 X.K T r to σ H Q := h
theorem tSA_nil {σ : St} {H : Hp} {Q : List V → Hp → Prop} (h : tSA X Wx nilA σ H Q) : Q [] H := by
  obtain ⟨c, e1, e2, O, p⟩ := h
  subst e1 e2
  exact p.here O [] rfl
theorem se_mt0 (pa : PlainAttrs T) (slot : PySem.Slot T name id) (hty : typeOf (.builtin id) = pure (.type "method_descriptor")) {g : D → List D → Option W} (hm : MtOk X id g) (ho : SE X Wx o fo)
    (hbase : attributeBase o name X.env (eval o X.env) = eval o X.env := by rfl) (hline : (apos.endLine == cpos.line) = true := by rfl) : SE X Wx (.Call (.Attribute o name apos) [] [] cpos) (mtM T g fo nilA) := by
  obtain ⟨r, h1, h2⟩ := hm
  refine ⟨PE.imp (pe_bm0 pa slot hty h1 ho.pe hbase hline) fun σ H Q h => ?_⟩
  obtain ⟨c, e1, e2, O, p⟩ := mt_of h2 h
  exact ⟨c, e1, e2, O, p.imp fun c1 w hσ O1 x q v r => ⟨(q v r).1, tSA_nil (q v r).2⟩⟩
theorem se_mu0 (pa : PlainAttrs T) (slot : PySem.Slot T name id) (hty : typeOf (.builtin id) = pure (.type "method_descriptor")) {g : Cell → List D → Option (Cell × D)} (hm : MuOk X id g) (ho : SE X Wx o fo)
    (hbase : attributeBase o name X.env (eval o X.env) = eval o X.env := by rfl) (hline : (apos.endLine == cpos.line) = true := by rfl) : SE X Wx (.Call (.Attribute o name apos) [] [] cpos) (muM T g fo nilA) := by
  obtain ⟨r, h1, h2⟩ := hm
  refine ⟨PE.imp (pe_bm0 pa slot hty h1 ho.pe hbase hline) fun σ H Q h => ?_⟩
  obtain ⟨c, e1, e2, O, p⟩ := mu_of h2 h
  exact ⟨c, e1, e2, O, p.imp fun c1 w hσ O1 x q v r => ⟨(q v r).1, tSA_nil (q v r).2⟩⟩
/-! ### the methods -/
def appendG (cl : Cell) (ds : List D) : Option (Cell × D) := match cl, ds with
  | .lst xs, [d] => if xs.length < sizeLine then some (.lst (xs ++ [d]), .non) else none
  | _, _ => none
def popG (cl : Cell) (ds : List D) : Option (Cell × D) := match cl, ds with
  | .lst xs, [] => match xs[xs.length - 1]? with
    | some d => some (.lst xs.dropLast, d)
    | none => none
  | .lst xs, [.int i] => if -(2 ^ 63) ≤ i ∧ i < 2 ^ 63 then match seqIndex? i xs.length with
      | some k => match xs[k]? with
        | some d => some (.lst (xs.eraseIdx k), d)
        | none => none
      | none => none else none
  | _, _ => none
def insertG (cl : Cell) (ds : List D) : Option (Cell × D) := match cl, ds with
  | .lst xs, [.int i, d] => if xs.length < sizeLine ∧ 0 ≤ i ∧ i < 2 ^ 63 then some (.lst (xs.take i.toNat ++ [d] ++ xs.drop i.toNat), .non) else none
  | _, _ => none
def reverseG (cl : Cell) (ds : List D) : Option (Cell × D) := match cl, ds with
  | .lst xs, [] => some (.lst xs.reverse, .non)
  | _, _ => none
def clearG (cl : Cell) (ds : List D) : Option (Cell × D) := match cl, ds with
  | .lst xs, [] => some (.lst [], .non)
  | _, _ => none
def extendG (cl : Cell) (ds : List D) : Option (Cell × D) := match cl, ds with
  | .lst xs, [.lst zs] => if xs.length + zs.length ≤ sizeLine then some (.lst (xs ++ zs), .non) else none
  | _, _ => none
def joinG (d : D) (ds : List D) : Option W := match d, ds with
  | .str a, [e] => match seqOf e with
    | some xs => match allOf strOf xs with
      | some ys => if (ys.map (·.length)).sum + ys.length * a.length ≤ 16777216 then some (.val (.str (Txt.join a ys))) else none
      | none => none
    | none => none
  | _, _ => none
theorem Reps.dropLast {T : Tx} {F : Hp} {φ : List Addr} {ds : List D} {us : List V} (r : Reps T F φ ds us) : Reps T F φ ds.dropLast us.dropLast := by
  rw [List.dropLast_eq_take, List.dropLast_eq_take, r.len]
  exact r.take _
theorem Reps.reverse {T : Tx} {F : Hp} {φ : List Addr} : ∀ {ds : List D} {us : List V}, Reps T F φ ds us → Reps T F φ ds.reverse us.reverse
  | [], _, r => by rw [show _ = [] from r]; rfl
  | d :: ds, _, ⟨u, us, rfl, h1, h2⟩ => by
    rw [List.reverse_cons, List.reverse_cons]
    exact (Reps.reverse h2).append ⟨u, [], rfl, h1, rfl⟩
theorem lst_own {us : List V} : ∀ z, HO.lst us ≠ .own z := fun _ q => nomatch q
theorem mo_append : MuOk X "list.append" appendG := ⟨_, mt_append, fun c a cl ds vs cl' y Q O hc rs q f => by
  unfold appendG at q
  split at q
  · split at q
    · cases q
      obtain ⟨us, h, r⟩ := hc
      obtain ⟨u, w, rfl, h1, h2⟩ := rs
      cases (show w = [] from h2)
      refine ⟨a, us, u, rfl, rfl, h, by rw [r.len]; assumption, f _ _ lst_own ⟨_, upd_same, r.append ⟨u, [], rfl, h1, rfl⟩⟩ rfl⟩
    · cases q
  · cases q⟩
theorem mo_reverse : MuOk X "list.reverse" reverseG := ⟨_, mt_reverse, fun c a cl ds vs cl' y Q O hc rs q f => by
  unfold reverseG at q
  split at q
  · cases q
    obtain ⟨us, h, r⟩ := hc
    cases (show vs = [] from rs)
    exact ⟨a, us, rfl, rfl, h, f _ _ lst_own ⟨_, upd_same, r.reverse⟩ rfl⟩
  · cases q⟩
theorem mo_clear : MuOk X "list.clear" clearG := ⟨_, mt_clear, fun c a cl ds vs cl' y Q O hc rs q f => by
  unfold clearG at q
  split at q
  · cases q
    obtain ⟨us, h, r⟩ := hc
    cases (show vs = [] from rs)
    exact ⟨a, us, rfl, rfl, h, f _ _ lst_own ⟨_, upd_same, rfl⟩ rfl⟩
  · cases q⟩
theorem mo_extend : MuOk X "list.extend" extendG := ⟨_, mt_extend, fun c a cl ds vs cl' y Q O hc rs q f => by
  unfold extendG at q
  split at q
  · split at q
    · cases q
      obtain ⟨us, h, r⟩ := hc
      obtain ⟨u, w, rfl, h1, h2⟩ := rs
      cases (show w = [] from h2)
      obtain ⟨b, ws, rfl, hb, r2⟩ := h1
      exact ⟨a, b, us, ws, rfl, rfl, h, O.le _ _ hb, by rw [r.len, r2.len]; assumption, f _ _ lst_own ⟨_, upd_same, r.append r2⟩ rfl⟩
    · cases q
  · cases q⟩
theorem mo_insert : MuOk X "list.insert" insertG := ⟨_, mt_insert, fun c a cl ds vs cl' y Q O hc rs q f => by
  unfold insertG at q
  split at q
  · split at q
    · rename_i z
      cases q
      obtain ⟨us, h, r⟩ := hc
      obtain ⟨u, w, rfl, h1, u2, w2, rfl, h2, h3⟩ := rs
      cases (show w2 = [] from h3)
      cases (show u = _ from h1)
      exact ⟨a, us, _, u2, rfl, rfl, h, by rw [r.len]; exact z.1, z.2.1, z.2.2, f _ _ lst_own ⟨_, upd_same, ((r.take _).append (Reps.cons h2 Reps.nil)).append (r.drop _)⟩ rfl⟩
    · cases q
  · cases q⟩
theorem mtM_R {id : String} {r : V → List V → Hp → VK → Prop} (h : MtM X id r) : MtR X id r := h
theorem mo_pop : MuOk X "list.pop" popG := ⟨_, MtR.or (mtM_R mt_pop) (mtM_R mt_popAt), fun c a cl ds vs cl' y Q O hc rs q f => by
  unfold popG at q
  split at q
  · split at q
    · cases q
      obtain ⟨us, h, r⟩ := hc
      cases (show vs = [] from rs)
      obtain ⟨u, e, r2⟩ := r.get (by assumption)
      exact .inl ⟨a, us, u, rfl, rfl, h, by rw [r.len]; exact e, f _ _ lst_own ⟨_, upd_same, r.dropLast⟩ r2⟩
    · cases q
  · split at q
    · rename_i z
      split at q
      · split at q
        · cases q
          obtain ⟨us, h, r⟩ := hc
          obtain ⟨u, w, rfl, h1, h3⟩ := rs
          cases (show w = [] from h3)
          cases (show u = _ from h1)
          obtain ⟨u, e, r2⟩ := r.get (by assumption)
          exact .inr ⟨a, us, _, _, u, rfl, rfl, h, z.1, z.2, by rw [r.len]; assumption, e, f _ _ lst_own ⟨_, upd_same, r.eraseIdx _⟩ r2⟩
        · cases q
      · cases q
    · cases q
  · cases q⟩
theorem mo_join : MtOk X "str.join" joinG := ⟨_, mt_join, fun c d ds v vs w Q O r rs q f => by
  unfold joinG at q
  split at q
  · obtain ⟨u, rfl, r2⟩ := rs.one
    split at q
    · rename_i xs e1
      split at q
      · rename_i ys e2
        split at q
        · cases q
          obtain ⟨a, us, rfl, h, r3⟩ := r2.seqOf O e1
          rw [allOf_str e2] at r3
          rw [r3.strs] at h
          exact ⟨_, a, _, r.str, rfl, h, by assumption, f.sc O rfl⟩
        · cases q
      · cases q
    · cases q
  · cases q⟩
end
end Z

namespace Z
open PySem L2

/-! ## Statements -/
inductive Fl where
  | next | ret (w : W) | brk | cont
def FlP (T : Tx) (H0 : Hp) (D : Ends) (c1 : Cf) : Fl → Prop
  | .next => D.nx c1.σ c1.H
  | .ret w => ∀ v, RepW T H0 c1 w v → D.rt v c1.H
  | .brk => D.bk c1.σ c1.H
  | .cont => D.ct c1.σ c1.H
def PostS (T : Tx) (c : Cf) (o : Out Fl) (D : Ends) (E : WX) : Prop := match o with
  | .ok fl s1 => ∀ c1, c1.s = s1 → Ok T c1 → Ext c c1 → FlP T c.H D c1 fl
  | .exc C ns ds s1 => ∀ c1 A d us, c1.s = s1 → Ok T c1 → Ext c c1 → T.mg C = some (.ref A) → us.length = ns.length → c1.H d = some (.xd (ns.zip us)) → Reps T c1.F c1.φ ds us → ¬ Mu c1 d → E (.ref A) (some d) c1.σ c1.H
  | .stuck => False
theorem PostS.from {T : Tx} {c c1 : Cf} {o : Out Fl} {D : Ends} {E : WX} (h : PostS T c o D E) (x : Ext c c1) : PostS T c1 o D E := by
  cases o with
  | ok fl s1 =>
    intro c2 e1 O x2
    have z := h c2 e1 O (x.trans x2)
    cases fl with
    | ret w => exact fun v r => z v (RepW.early x r)
    | _ => exact z
  | exc C ns ds s1 => exact fun c2 A d us e1 O x2 => h c2 A d us e1 O (x.trans x2)
  | stuck => exact h
/-- an expression's outcome within a statement -/
theorem PostS.bnd {T : Tx} {c : Cf} {α : Type} {f : M α} {k : α → M Fl} {D : Ends} {E : WX} (h : PostS T c (Z.bnd f k c.s) D E) : Post T c (f c.s) (fun c1 a => PostS T c (k a c1.s) D E) E := by
  unfold Z.bnd at h
  cases e : f c.s with
  | ok a s1 =>
    rw [e] at h
    exact fun c1 e1 e2 O x => by
      subst e1
      exact h
  | exc C ns ds s1 =>
    rw [e] at h
    exact fun c1 A d us e1 e2 O x => h c1 A d us e1 O x
  | stuck => rw [e] at h; exact h
theorem PostS.next {T : Tx} {c c1 : Cf} {s : S} {D : Ends} {E : WX} (h : PostS T c (.ok .next s) D E) (e : c1.s = s) (O : Ok T c1) (x : Ext c c1) : D.nx c1.σ c1.H := h c1 e O x
def tSS (X : Cx) (Wx : WX) (g : M Fl) : TS := fun D σ H => ∃ c : Cf, c.σ = σ ∧ c.H = H ∧ Ok (tx X) c ∧ PostS (tx X) c (g c.s) D Wx
structure SS (X : Cx) (Wx : WX) (st : Stmt) (g : M Fl) : Prop where
  ps : PS X st (tSS X Wx g)
structure SSs (X : Cx) (Wx : WX) (st : List Stmt) (g : M Fl) : Prop where
  ps : PSs X st (tSS X Wx g)
theorem PS.imp {X : Cx} {st : Stmt} {t t' : TS} (h : PS X st t) (k : ∀ D σ H, t' D σ H → t D σ H) : PS X st t' := ⟨fun pins s σ H D I q => h.run pins s σ H D I (k _ _ _ q)⟩
theorem PSs.imp {X : Cx} {st : List Stmt} {t t' : TS} (h : PSs X st t) (k : ∀ D σ H, t' D σ H → t D σ H) : PSs X st t' := ⟨fun pins s σ H D I q => h.run pins s σ H D I (k _ _ _ q)⟩
/-- one statement behind another -/
def seqM (f g : M Fl) : M Fl := fun s => match f s with
  | .ok .next s1 => g s1
  | o => o
def nextM : M Fl := fun s => .ok .next s
theorem tSS_seq {X : Cx} {Wx : WX} {f g : M Fl} {t u : TS} (kt : ∀ D σ H, tSS X Wx f D σ H → t D σ H) (ku : ∀ D σ H, tSS X Wx g D σ H → u D σ H) {D : Ends} {σ : St} {H : Hp} (h : tSS X Wx (seqM f g) D σ H) : tSeq t u D σ H := by
  obtain ⟨c, e1, e2, O, p⟩ := h
  subst e1 e2
  refine kt _ _ _ ⟨c, rfl, rfl, O, ?_⟩
  unfold seqM at p
  cases e : f c.s with
  | ok fl s1 =>
    rw [e] at p
    cases fl with
    | next =>
      intro c1 e1 O1 x
      subst e1
      exact ku _ _ _ ⟨c1, rfl, rfl, O1, p.from x⟩
    | ret w => exact p
    | brk => exact p
    | cont => exact p
  | exc C ns ds s1 => rw [e] at p; exact p
  | stuck => rw [e] at p; exact p
section
variable {X : Cx} {Wx : WX} {e a b : Expr} {es : List Expr} {st : Stmt} {rest : List Stmt} {pos : Pos} {fa fb : M W} {f g : M Fl}
theorem ss_nil : SSs X Wx [] nextM := ⟨PSs.imp pss_nil fun D σ H ⟨c, e1, e2, O, p⟩ => by
  subst e1 e2
  exact p c rfl O (Ext.refl c)⟩
theorem ss_one (h : SS X Wx st f) : SSs X Wx [st] f := ⟨pss_one h.ps⟩
theorem ss_cons (h : SS X Wx st f) (r : SSs X Wx rest g) : SSs X Wx (st :: rest) (seqM f g) := ⟨PSs.imp (pss_cons h.ps r.ps) fun D σ H h => tSS_seq (fun _ _ _ h => h) (fun _ _ _ h => h) h⟩
theorem ss_pass : SS X Wx (.Pass pos) nextM := ⟨PS.imp ps_pass fun D σ H ⟨c, e1, e2, O, p⟩ => by
  subst e1 e2
  exact p c rfl O (Ext.refl c)⟩
theorem ss_break : SS X Wx (.Break pos) (fun s => .ok .brk s) := ⟨PS.imp ps_break fun D σ H ⟨c, e1, e2, O, p⟩ => by
  subst e1 e2
  exact p c rfl O (Ext.refl c)⟩
theorem ss_continue : SS X Wx (.Continue pos) (fun s => .ok .cont s) := ⟨PS.imp ps_continue fun D σ H ⟨c, e1, e2, O, p⟩ => by
  subst e1 e2
  exact p c rfl O (Ext.refl c)⟩
def exprM (f : M W) : M Fl := bnd f fun _ => ret .next
theorem RepW.some {T : Tx} {H0 : Hp} {c : Cf} {w : W} : True := trivial
theorem ss_expr (h : SE X Wx e fa) (hs : swapsWith e none pos.line X.env = pure false := by rfl) : SS X Wx (.Expr e pos) (exprM fa) := ⟨PS.imp (ps_expr h.pe hs) fun D σ H ⟨c, e1, e2, O, p⟩ => by
  subst e1 e2
  exact ⟨c, rfl, rfl, O, (PostS.bnd p).imp fun c1 w hσ O1 x p1 v r => by
    rw [← hσ]
    exact p1 c1 rfl O1 x⟩⟩
def retM (f : M W) : M Fl := bnd f fun w => ret (.ret w)
theorem ss_ret (h : SE X Wx e fa) : SS X Wx (.Return (some e) pos) (retM fa) := ⟨PS.imp (ps_ret h.pe) fun D σ H ⟨c, e1, e2, O, p⟩ => by
  subst e1 e2
  exact ⟨c, rfl, rfl, O, (PostS.bnd p).imp fun c1 w hσ O1 x p1 v r => p1 c1 rfl O1 x v r⟩⟩
theorem ss_retN : SS X Wx (.Return none pos) (fun s => .ok (.ret (.val .non)) s) := ⟨PS.imp ps_retN fun D σ H ⟨c, e1, e2, O, p⟩ => by
  subst e1 e2
  exact p c rfl O (Ext.refl c) .non rfl⟩
def ifM (t : M Bool) (f g : M Fl) : M Fl := bnd t fun b => if b = true then f else g
theorem tSS_from {c c1 : Cf} {D : Ends} (x : Ext c c1) (O1 : Ok (tx X) c1) (p : PostS (tx X) c (f c1.s) D Wx) : tSS X Wx f D c1.σ c1.H := ⟨c1, rfl, rfl, O1, p.from x⟩
theorem ss_if {t : Expr} {ft : M Bool} {p q : List Stmt} (ht : ST X Wx t ft) (hp : SSs X Wx p f) (hq : SSs X Wx q g) : SS X Wx (.If t p q pos) (ifM ft f g) := ⟨PS.imp (ps_if ht.pt hp.ps hq.ps) fun D σ H ⟨c, e1, e2, O, p⟩ => by
  subst e1 e2
  refine ⟨c, rfl, rfl, O, (PostS.bnd p).imp fun c1 b hσ O1 x p1 => ?_⟩
  rw [← hσ]
  cases b with
  | true => exact tSS_from x O1 p1
  | false => exact tSS_from x O1 p1⟩
/-! ### storing to a name -/
def setM (i : Nat) (w : W) : M Fl := fun s => if i < s.e.length then match w with
    | .val d => .ok .next { s with e := s.e.set i (.fz d) }
    | .new c => .ok .next { s with e := s.e.set i (.ow c) }
    | .slot j => match s.e[j]? with
      | some (.fz d) => .ok .next { s with e := s.e.set i (.fz d) }
      | some (.ow c) => .ok .next { s with e := (s.e.set j (.fz c.toD)).set i (.fz c.toD) }
      | _ => .stuck
  else .stuck
theorem set_fz {T : Tx} {c : Cf} {i : Nat} {d : D} {v : V} (O : Ok T c) (hi : i < c.s.e.length) (r : Rep T c.F c.φ d v) :
    Ok T { c with s := { c.s with e := c.s.e.set i (.fz d) }, σ := c.σ.set i (some v) } ∧ Ext c { c with s := { c.s with e := c.s.e.set i (.fz d) }, σ := c.σ.set i (some v) } := by
  have hi' : i < c.σ.length := by rw [← O.elen]; exact hi
  have own : ∀ j b, Own { c with s := { c.s with e := c.s.e.set i (.fz d) }, σ := c.σ.set i (some v) } j b → Own c j b := fun j b ⟨⟨cl, e⟩, e2⟩ => by
    have e : (c.s.e.set i (.fz d))[j]? = some (.ow cl) := e
    have e2 : (c.σ.set i (some v))[j]? = some (some (.ref b)) := e2
    by_cases q : j = i
    · subst q
      rw [List.getElem?_set_self hi] at e
      cases e
    · rw [List.getElem?_set_ne (Ne.symm q)] at e e2
      exact ⟨⟨cl, e⟩, e2⟩
  have mu : ∀ b, Mu { c with s := { c.s with e := c.s.e.set i (.fz d) }, σ := c.σ.set i (some v) } b → Mu c b := fun b m => m.elim .inl fun ⟨j, m⟩ => .inr ⟨j, own j b m⟩
  refine ⟨⟨O.le, O.len, O.cell, O.nd, fun j d' e => ?_, fun j cl e => ?_, fun j k b x y => O.apart j k b (own j b x) (own k b y), fun j b x => O.out j b (own j b x), fun b m => O.free b (mu b m), ?_⟩,
    ⟨fun _ _ h => h, List.prefix_refl _, fun _ _ h _ => h, fun _ h => h, fun b m => .inl (mu b m), fun _ h => .inl h⟩⟩
  · have e : (c.s.e.set i (.fz d))[j]? = some (.fz d') := e
    show ∃ u, (c.σ.set i (some v))[j]? = some (some u) ∧ _
    by_cases q : j = i
    · subst q
      rw [List.getElem?_set_self hi] at e
      cases e
      exact ⟨v, List.getElem?_set_self hi', r⟩
    · rw [List.getElem?_set_ne (Ne.symm q)] at e ⊢
      exact O.fz j d' e
  · have e : (c.s.e.set i (.fz d))[j]? = some (.ow cl) := e
    show ∃ u, (c.σ.set i (some v))[j]? = some (some (.ref u)) ∧ _
    by_cases q : j = i
    · subst q
      rw [List.getElem?_set_self hi] at e
      cases e
    · rw [List.getElem?_set_ne (Ne.symm q)] at e ⊢
      exact O.ow j cl e
  · show (c.s.e.set i _).length = (c.σ.set i _).length
    rw [List.length_set, List.length_set]
    exact O.elen
theorem set_ow {T : Tx} {c : Cf} {i : Nat} {cl : Cell} {a : Addr} (O : Ok T c) (hi : i < c.s.e.length) (hc : CellAt T c.F c.φ c.H cl a) (f : c.F a = none) (n : ¬ Mu c a) :
    Ok T { c with s := { c.s with e := c.s.e.set i (.ow cl) }, σ := c.σ.set i (some (.ref a)) } ∧ ∀ c0, Ext c0 c → c0.H a = none → Ext c0 { c with s := { c.s with e := c.s.e.set i (.ow cl) }, σ := c.σ.set i (some (.ref a)) } := by
  have hi' : i < c.σ.length := by rw [← O.elen]; exact hi
  have own : ∀ j b, Own { c with s := { c.s with e := c.s.e.set i (.ow cl) }, σ := c.σ.set i (some (.ref a)) } j b → (j = i ∧ b = a) ∨ (j ≠ i ∧ Own c j b) := fun j b ⟨⟨cl', e⟩, e2⟩ => by
    have e : (c.s.e.set i (.ow cl))[j]? = some (.ow cl') := e
    have e2 : (c.σ.set i (some (.ref a)))[j]? = some (some (.ref b)) := e2
    by_cases q : j = i
    · subst q
      rw [List.getElem?_set_self hi'] at e2
      cases e2
      exact .inl ⟨rfl, rfl⟩
    · rw [List.getElem?_set_ne (Ne.symm q)] at e e2
      exact .inr ⟨q, ⟨cl', e⟩, e2⟩
  have mu : ∀ b, Mu { c with s := { c.s with e := c.s.e.set i (.ow cl) }, σ := c.σ.set i (some (.ref a)) } b → Mu c b ∨ b = a := fun b m => m.elim (fun m => .inl (.inl m)) fun ⟨j, m⟩ => (own j b m).elim (fun m => .inr m.2) fun m => .inl (.inr ⟨j, m.2⟩)
  refine ⟨⟨O.le, O.len, O.cell, O.nd, fun j d' e => ?_, fun j cl' e => ?_, fun j k b x y => ?_, fun j b x => ?_, fun b m => ?_, ?_⟩,
    fun c0 x z => ⟨x.le, x.pre, x.keep, x.live, fun b m => ?_, x.fz⟩⟩
  · have e : (c.s.e.set i (.ow cl))[j]? = some (.fz d') := e
    show ∃ u, (c.σ.set i (some (.ref a)))[j]? = some (some u) ∧ _
    by_cases q : j = i
    · subst q
      rw [List.getElem?_set_self hi] at e
      cases e
    · rw [List.getElem?_set_ne (Ne.symm q)] at e ⊢
      exact O.fz j d' e
  · have e : (c.s.e.set i (.ow cl))[j]? = some (.ow cl') := e
    show ∃ u, (c.σ.set i (some (.ref a)))[j]? = some (some (.ref u)) ∧ _
    by_cases q : j = i
    · subst q
      rw [List.getElem?_set_self hi] at e
      cases e
      exact ⟨a, List.getElem?_set_self hi', hc⟩
    · rw [List.getElem?_set_ne (Ne.symm q)] at e ⊢
      exact O.ow j cl' e
  · rcases own j b x with ⟨h1, h2⟩ | ⟨h1, h2⟩ <;> rcases own k b y with ⟨h3, h4⟩ | ⟨h3, h4⟩
    · exact h1.trans h3.symm
    · exact absurd (show Mu c a from h2 ▸ .inr ⟨k, h4⟩) n
    · exact absurd (show Mu c a from h4 ▸ .inr ⟨j, h2⟩) n
    · exact O.apart j k b h2 h4
  · rcases own j b x with ⟨h1, h2⟩ | ⟨h1, h2⟩
    · exact fun m => n (h2 ▸ .inl m)
    · exact O.out j b h2
  · rcases mu b m with h | h
    · exact O.free b h
    · rw [h]; exact f
  · show (c.s.e.set i _).length = (c.σ.set i _).length
    rw [List.length_set, List.length_set]
    exact O.elen
  · rcases mu b m with h | h
    · exact x.mu b h
    · rw [h]; exact .inr z
/-- a value is stored to a name -/
theorem post_set {T : Tx} {c c0 : Cf} {i : Nat} {w : W} {v : V} {D : Ends} {E : WX} (O : Ok T c) (x : Ext c0 c) (r : RepW T c0.H c w v) (h : PostS T c0 (setM i w c.s) D E) : D.nx (c.σ.set i (some v)) c.H := by
  unfold setM at h
  by_cases hi : i < c.s.e.length
  · rw [if_pos hi] at h
    cases w with
    | val d =>
      obtain ⟨O1, x1⟩ := set_fz O hi r
      exact h.next rfl O1 (x.trans x1)
    | new cl =>
      obtain ⟨a, rfl, hc, f, n, z⟩ := r
      obtain ⟨O1, x1⟩ := set_ow O hi hc f n
      exact h.next rfl O1 (x1 c0 x z)
    | slot j =>
      have r : c.σ[j]? = some (some v) := r
      cases e : c.s.e[j]? with
      | none => simp only [e] at h; exact h.elim
      | some sl =>
        simp only [e] at h
        cases sl with
        | un => exact h.elim
        | fz d =>
          obtain ⟨v', e1, r'⟩ := O.fz j d e
          rw [r] at e1
          cases e1
          obtain ⟨O1, x1⟩ := set_fz O hi r'
          exact h.next rfl O1 (x.trans x1)
        | ow cl =>
          obtain ⟨a, e1, hc⟩ := O.ow j cl e
          rw [r] at e1
          cases e1
          obtain ⟨O1, x1⟩ := O.drop e r
          obtain ⟨O2, x2⟩ := set_fz (i := i) O1 (by show i < (c.s.e.set j _).length; rw [List.length_set]; exact hi) (frF_rep O hc)
          exact h.next rfl O2 ((x.trans x1).trans x2)
  · rw [if_neg hi] at h
    exact h.elim
def asgM (i : Nat) (f : M W) : M Fl := bnd f (setM i)
theorem ss_set (i : Nat) {x : Str} {pos' : Pos} (h : SE X Wx e fa) (hN : X.N.Nodup) (hi : X.N[i]? = some x := by rfl) (hx : Loc X.env.scope x := by first | exact Or.inl rfl | exact Or.inr rfl) (hs : swapsWith e (some (.Name x pos')) pos.line X.env = pure false := by rfl)
    (hf : X.fn x = true ∨ X.env.scope.names.lookup x = some .local := by first | exact .inl rfl | exact .inr rfl | assumption) : SS X Wx (.Assign [.Name x pos'] e pos) (asgM i fa) := ⟨PS.imp (ps_set hN hi hx h.pe hs hf) fun D σ H ⟨c, e1, e2, O, p⟩ => by
  subst e1 e2
  exact ⟨c, rfl, rfl, O, (PostS.bnd p).imp fun c1 w hσ O1 x p1 v r => by
    show D.nx (c.σ.set i (some v)) c1.H
    rw [← hσ]
    exact post_set O1 x r p1⟩⟩
end
end Z

namespace Z
open PySem L2

open PySem.Spec PyProof.Rows
/-! ## Promises where no guard of a display stands around -/
structure RoomG (k : Nat) (A : Around) : Prop where
  r : Room k A
  g : A.guards = some []
section
variable {j k : Nat} {A : Around}
theorem RoomG.mono (x : RoomG k A) (h : j ≤ k) : RoomG j A := ⟨x.r.mono h, x.g⟩
theorem RoomG.deeper (x : RoomG (k + 1) A) (env : PySem.Env) : RoomG k (A.deeper env) := ⟨x.r.deeper env, x.g⟩
theorem RoomG.make (x : RoomG (k + 1) A) (C : Addr) (us : List Value) (kw : List (Str × Value)) : RoomG k (A.under (.builtin "type.__call__" ⟨.ref C :: us, kw⟩)) := by
  refine ⟨x.r.make C us kw, ?_⟩
  show pushGuards (Code.guards (.builtin "type.__call__" ⟨.ref C :: us, kw⟩)) A.guards = some []
  rw [x.g]
  have e : Code.guards (.builtin "type.__call__" ⟨.ref C :: us, kw⟩) = [] := by
    unfold Code.guards
    rw [show Code.isGuard (.builtin "type.__call__" ⟨.ref C :: us, kw⟩) = false from (show guardIds.contains "type.__call__" = false by decide +kernel)]
    rfl
  rw [e]
  rfl
theorem RoomG.units (x : RoomG k A) : A.units + 64 < cLine := x.r.units
theorem RoomG.u65 (x : RoomG k A) : A.units + 65 < cLine := by have := x.r.un; omega
theorem RoomG.u1 (x : RoomG k A) : A.units + 1 < cLine := by have := x.r.un; omega
end
structure FnG (P : Program) (w : World) (K : PySem.W.Frag) (mg : Str → Option Value) (base : Heap) (k : Nat) (f : Addr) (fd : FuncData) (ps : List Str) (sp : Sp) : Prop where
  len : ∀ vs H Q E, sp vs H Q E → vs.length = ps.length
  run : ∀ (A : Around) (outer : List PySem.Env) (s : Shared) (H : Hp) (args : Args) (us : List Value) (vs : List V) (Q : VK) (E : XK), RoomG k A → Env0 P w K mg base A outer s H → BindsTo s fd args (ps.zip us) → Vals vs us → sp vs H Q E →
    codeAny (model P w) A (.call (.ref f) args) (CR (L2.CX P w) outer P w H s Q E) s
section
variable {P : Program} {w : World} {K : PySem.W.Frag} {mg : Str → Option Value} {base : Heap}
theorem FnG.imp {k : Nat} {f : Addr} {fd : FuncData} {ps : List Str} {sp sp2 : Sp} (G : FnG P w K mg base k f fd ps sp) (im : ∀ vs H Q E, sp2 vs H Q E → sp vs H Q E) : FnG P w K mg base k f fd ps sp2 :=
  ⟨fun vs H Q E z => G.len vs H Q E (im _ _ _ _ z), fun A outer s H args us vs Q E room env bd vl z => G.run A outer s H args us vs Q E room env bd vl (im _ _ _ _ z)⟩
/-- a def by its body -/
theorem okXG {x qual : Str} {st : Stmt} {f : Addr} {fd : FuncData} {N ps : List Str} {k : Nat} {sp : Sp} (F : Fun K x qual st f fd) (S : FnScope N ps (defScope st)) (ln : ∀ vs H Q E, sp vs H Q E → vs.length = ps.length)
    (body : ∀ (cdv : Value) (A : Around) (outer : List PySem.Env) (s : Shared) (H : Hp) (vs : List V) (Q : VK) (E : XK), RoomG k (A.deeper (envOfC qual (defScope st) s.heap.objs.size f cdv)) → sp vs H Q E →
      ∃ t, PSs (cxOf (L2.CX P w) P w K mg base N qual (defScope st) f cdv A outer s H E) (defBody st) t ∧ t { nx := fun _ H2 => Q .non H2, rt := Q } (L2.start N vs) H) : FnG P w K mg base (k + 1) f fd ps sp := by
  obtain ⟨oc, od, kV, dc, pm, an, cdv, ct, osl, rfl, at_, code⟩ := F.ex
  refine ⟨ln, fun A outer s H args us vs Q E room env bd vl pre => ?_⟩
  have size := ln _ _ _ _ pre
  have kin : K.In s.heap := env.mod.kin.keeps fun b o q => (env.bs b o q).1
  have nolim : s.heap.NoLimit := env.mod.nolimit.keeps fun b o q => (env.bs b o q).1
  refine codeAny_call_function room.r.depth (kin _ _ at_) rfl S.co S.gen rfl (PySem.W.codeRec_of kin code) (bd _ _ _ _ ?_)
  refine wpAny_newFunctionEnv_cells S.kind (fun ⟨n, v⟩ my => ?_) fun ev hev s1 inn => ?_
  · rcases S.par n (List.of_mem_zip my).1 with z | z
    · exact .inl z
    · exact .inr ⟨z, PySem.W.cellsFrom_some _ _ _ (.inl z)⟩
  subst hev
  refine ⟨nolim.keeps inn.toInCall.keep, codeAny_func ?_⟩
  obtain ⟨t, tp, tq⟩ := body cdv A outer s H vs Q E (room.deeper _) pre
  have inv : Inv (cxOf (L2.CX P w) P w K mg base N qual (defScope st) f cdv A outer s H E) [] (L2.start N vs) H s1 := inv_start S room.r.hd env size vl inn
  refine wpAny_mono (tp.run [] s1 (L2.start N vs) H _ inv tq) (fun fl s2 done => ?_) fun e s2 done => done
  cases fl with
  | ret u =>
    obtain ⟨v, σ2, H2, J, rv, z⟩ := done
    exact ⟨v, H2, J.os, J.bare, J.base, J.hok, rv, z⟩
  | next =>
    obtain ⟨σ2, H2, J, z⟩ := done
    exact ⟨V.non, H2, J.os, J.bare, J.base, J.hok, rfl, z⟩
  | brk =>
    obtain ⟨_, _, _, z⟩ := done
    exact z.elim
  | cont =>
    obtain ⟨_, _, _, z⟩ := done
    exact z.elim
end
section
variable {X : Cx} {k : Nat} {f : Addr} {fd : FuncData} {ps : List Str} {sp : Sp} {dvs : List V} {ds : List Value} {E : L2.St → XK}
theorem run_fnG {pins : List (Addr × Obj)} {σ : L2.St} {H : Hp} {s : Shared} {Q : VK} {us : List Value} {vs : List V} (G : FnG X.prog X.w X.K X.mg X.base k f fd ps sp) (room : RoomG k X.A) (bd : Binds X.K fd ps ds) (dv : Vals dvs ds) (pass : PassesAt (L2.CX X.prog X.w) X σ (E σ))
    (inv : Inv X pins σ H s) (vl : Vals vs us) (pre : sp (vs ++ dvs) H Q (E σ)) : wpAny (model X.prog X.w) X.A (call (.ref f) us) (EP X pins σ Q) X.xe s := by
  have both : Vals (vs ++ dvs) (us ++ ds) := vl.append dv
  have size : (us ++ ds).length = ps.length := both.length.symm.trans (G.len _ _ _ _ pre)
  refine wpAny_call (codeAny_mono (G.run X.A X.stack s H ⟨us, []⟩ (us ++ ds) (vs ++ dvs) Q (E σ) room inv.env0 (bd s us inv.kIn size) both pre) fun r s2 done => ?_)
  cases r with
  | error er => exact pass pins H s er s2 inv done
  | ok fl => cases fl with
    | ret u => exact inv.after done
    | next => exact False.elim done
    | brk => exact False.elim done
    | cont => exact False.elim done
end
/-! ### the end -/
theorem law_callG {P : Program} {w : World} {K : PySem.W.Frag} {mg mb : Str → Option Value} {k : Nat} {fa a : Addr} {fd : FuncData} {x : Str} {sp : Sp} {s1 : Shared} {vs : List Value} {ns : List Int}
    (kin : K.In s1.heap) (gl : s1.heap.Ns mainGlobals mg) (bl : s1.heap.Ns builtinsNs mb) (blt : ∀ x : Str, x ≠ "__name__" → mb x = bootBuiltins x) (nolim : s1.heap.NoLimit) (gens : s1.gens = #[])
    (sc : s1.heap.get? a = some { cls := .type "list", data := .seq vs.toArray }) (isn : IntsAre vs ns) (size : ns.length ≤ sizeLine) (room : RoomG k callerA)
    (F : ∀ base : Heap, K.In base → base.Ns mainGlobals mg → FnG P w K mg base k fa fd [x] sp) (bd : ∀ (s : Shared) (u : Value), BindsTo s fd ⟨[u], []⟩ [(x, u)])
    (pre : ∀ H : Hp, Only H → SqL K H a (ns.map V.int) → sp [.ref a] H (fun v _ => v = .bl true) fun _ _ _ => False)
    (no : ∀ H e s2, L2.CX P w [] H s1 (fun _ _ _ => False) e s2 → False) :
    codeAny (model P w) callerA (.call (.ref fa) ⟨[.ref a], []⟩) (fun r s2 => r = .ok (.ret (.bool true)) ∧ OldK s1.heap s2.heap ∧ s2.os = s1.os ∧ AllBare s2.gens) s1 := by
  have rv := vals_ints isn
  have many := isn.length
  have goal : ∀ H : Hp, Only H → SqL K H a (ns.map V.int) → HOk P w H s1.heap → (∀ b, H b ≠ none → b = a) → (H a ≠ none → K.lookup a = none) →
      codeAny (model P w) callerA (.call (.ref fa) ⟨[.ref a], []⟩) (fun r s2 => r = .ok (.ret (.bool true)) ∧ OldK s1.heap s2.heap ∧ s2.os = s1.os ∧ AllBare s2.gens) s1 := by
    intro H only seq ok just out
    have low : ∀ {b : Addr} {o : Obj}, s1.heap.get? b = some o → H b = none → (hidT s1.heap H).get? b = some o := fun q n => hidT_get q n
    have none_of : ∀ {b : Addr} {o : Obj} {es : Array DictEntry} {ep : Nat}, s1.heap.get? b = some o → o.data = .dict es ep → H b = none := fun {b o es ep} q d => by
      cases z : H b with
      | none => rfl
      | some u =>
        have q2 : b = a := just b (by rw [z]; simp)
        subst q2
        rw [sc] at q
        cases q
        have d2 : Data.seq vs.toArray _ = Data.dict es ep := d
        cases d2
    have spaces : ∀ {b : Addr} {m : Str → Option Value}, s1.heap.Ns b m → (hidT s1.heap H).Ns b m := fun {b m} ⟨o, es, ep, q, d, r⟩ => ⟨o, es, ep, low q (none_of q d), d, r⟩
    have kin2 : K.In (hidT s1.heap H) := fun b o q => low (kin b o q) (by
      cases z : H b with
      | none => rfl
      | some u =>
        have q2 : b = a := just b (by rw [z]; simp)
        subst q2
        rw [out (by rw [z]; simp)] at q
        cases q)
    have md : Mod K mg (hidT s1.heap H) := ⟨kin2, spaces gl, ⟨mb, spaces bl, blt⟩, let ⟨mc, k1, k2⟩ := nolim; ⟨mc, spaces k1, k2⟩⟩
    have env : Env0 P w K mg (hidT s1.heap H) callerA [] s1 H := ⟨rfl, md, fun b o q => of_hidT q, Nat.le_of_eq (hidT_size _ _), trivial, fun b hb => absurd (show b ∈ ([] : List Addr) from hb) (by simp), ok, .of_eq gens⟩
    refine codeAny_mono ((F _ kin2 (spaces gl)).run callerA [] s1 H ⟨[.ref a], []⟩ [.ref a] [.ref a] _ _ room env (bd s1 (.ref a)) (.cons rfl .nil) (pre H only seq)) fun r s2 done => ?_
    cases r with
    | error er => exact (no H er s2 done).elim
    | ok fl => cases fl with
      | next => exact False.elim done
      | brk => exact False.elim done
      | cont => exact False.elim done
      | ret u =>
        obtain ⟨v, H2, os, bare, un, ok2, rl, q⟩ := done
        have q2 : v = .bl true := q
        subst q2
        obtain rfl : u = Value.bool true := rl
        refine ⟨rfl, OldK.of_keep fun b o q3 => ?_, os, bare⟩
        cases z : H b with
        | none => exact un.keep b o q3 z (by intro y; exact absurd (show b ∈ ([] : List Addr) from y) (by simp)) (by simp)
        | some u =>
          rcases only b with y | ⟨ob, xs, y⟩
          · rw [z] at y
            cases y
          · have y2 := un.frzs b ob _ y
            obtain ⟨i1, _⟩ := ok b _ y
            obtain ⟨i2, _⟩ := ok2 b _ y2
            rw [q3] at i1
            cases i1
            exact i2
  cases z : K.lookup a with
  | some o =>
    have q := kin a o z
    rw [sc] at q
    cases q
    exact goal (fun _ => none) (fun _ => .inl rfl) (.inr ⟨_, vs.toArray, _, z, rfl, rfl, rfl, by rw [List.size_toArray, many]; exact size, by simpa using rv⟩) (fun b u y => by cases (show (none : Option HO) = some u from y)) (fun b y => absurd rfl y) fun y => absurd rfl y
  | none =>
    refine goal (fun b => if b = a then some (.frz { cls := .type "list", data := .seq vs.toArray } (.lst (ns.map V.int))) else none) (fun b => ?_) (.inl (.inr ⟨{ cls := .type "list", data := .seq vs.toArray }, if_pos rfl⟩)) (fun b u y => ?_) (fun b y => ?_) fun _ => z
    · by_cases eq : b = a
      · exact .inr ⟨_, _, if_pos eq⟩
      · exact .inl (if_neg eq)
    · by_cases eq : b = a
      · have y2 := (if_pos eq).symm.trans y
        cases y2
        subst eq
        exact ⟨sc, by rw [List.length_map]; exact size, vs, _, rv, sc⟩
      · have y2 := (if_neg eq).symm.trans y
        cases y2
    · by_cases eq : b = a
      · exact eq
      · exact absurd (if_neg eq) y
theorem walk_ofG {l : PySem.W.OpenLaw} {n k : Nat} {q : Program} {loose : List Str} {XP : (Str → Option Value) → Heap → Prop} {YP : World → Heap → Prop} {d : DefRec} {K : Params → PySem.W.Frag} {sp : World → Sp} {x : Str}
    (most : l.most = some n) (small : n ≤ sizeLine) (dft : d.params.defaults = []) (room : RoomG k callerA)
    (kin : ∀ (w : World) (h : Heap), YP w h → (K w.params).In h)
    (F : ∀ (w : World) (mg : Str → Option Value) (fa : Addr) (h : Heap), (K w.params).In h → h.Ns mainGlobals mg → mg d.name = some (.ref fa) →
      ∃ fd : FuncData, (∀ (s : Shared) (u : Value), BindsTo s fd ⟨[u], []⟩ [(x, u)]) ∧ ∀ base : Heap, (K w.params).In base → base.Ns mainGlobals mg → FnG l.prog w (K w.params) mg base k fa fd [x] (sp w))
    (pre : ∀ (w : World) (H : Hp) (a : Addr) (ns : List Int), ns.length ≤ n → Only H → SqL (K w.params) H a (ns.map V.int) → sp w [.ref a] H (fun v _ => v = .bl true) fun _ _ _ => False)
    (no : ∀ (w : World) (H : Hp) (s : Shared) (e : Value) (s2 : Shared), L2.CX l.prog w [] H s (fun _ _ _ => False) e s2 → False) :
    PySem.W.WalkO q loose XP YP l.row.toRowW d [] (fun f vs => PySem.call f vs) := by
  refine Att.attach_call most dft fun w s0 s1 mg mb fa o pm cd dc a vs ns G Y ho hd hcd at_ obj isn len gens => ?_
  have kx := kin w _ Y
  obtain ⟨fd, bd, fg⟩ := F w mg fa _ kx G.T.g at_
  exact law_callG kx G.T.g G.T.b G.T.builtins G.T.nolimit gens obj isn (Nat.le_trans len small) room fg bd (fun H o2 sq => pre w H a ns len o2 sq) fun H e s2 => no w H s1 e s2
end Z

namespace Z
open PySem L2

/-! ## Defs -/
/-- a def's answer, by its body -/
def outF (o : Out Fl) : Out W := match o with
  | .ok .next s1 => .ok (.val .non) ⟨[], s1.h⟩
  | .ok (.ret w) s1 => match w with
    | .slot i => match s1.e[i]? with
      | some (.fz d) => .ok (.val d) ⟨[], s1.h⟩
      | some (.ow c) => .ok (.new c) ⟨[], s1.h⟩
      | _ => .stuck
    | w => .ok w ⟨[], s1.h⟩
  | .ok _ _ => .stuck
  | .exc C ns vs s1 => .exc C ns vs ⟨[], s1.h⟩
  | .stuck => .stuck
def env0 (n : Nat) (ds : List D) : Env := ds.map Slot.fz ++ List.replicate (n - ds.length) .un
def fnM (n : Nat) (body : M Fl) (ds : List D) : M W := fun s => outF (body ⟨env0 n ds, s.h⟩)
/-- a def's promise: its answers are those of the function -/
def spF (T : Tx) (n : Nat) (F : List D → M W) : Sp := fun vs H Q E => vs.length = n ∧ ∃ (c : Cf) (ds : List D), c.s.e = [] ∧ c.σ = [] ∧ c.H = H ∧ Ok T c ∧ Reps T c.F c.φ ds vs ∧
  Post T c (F ds c.s) (fun c1 w => ∀ v, RepW T H c1 w v → Q v c1.H) (fun cls d _ H => E cls d H)
/-- forgetting the names -/
def Cf.bare (c : Cf) : Cf := { c with s := ⟨[], c.s.h⟩, σ := [] }
theorem Ok.bare {T : Tx} {c : Cf} (O : Ok T c) : Ok T c.bare where
  le := O.le
  len := O.len
  cell := O.cell
  nd := O.nd
  fz := fun i d h => by cases i <;> cases h
  ow := fun i cl h => by cases i <;> cases h
  apart := fun i j a h => by obtain ⟨⟨_, h⟩, _⟩ := h; cases i <;> cases h
  out := fun i a h => by obtain ⟨⟨_, h⟩, _⟩ := h; cases i <;> cases h
  free := fun a m => O.free a (m.elim .inl fun ⟨i, ⟨_, h⟩, _⟩ => by cases i <;> cases h)
  elen := rfl
theorem mu_bare {c : Cf} {a : Addr} : Mu c.bare a ↔ a ∈ c.φ := ⟨fun m => m.elim id fun ⟨i, ⟨_, h⟩, _⟩ => (by cases i <;> cases h), .inl⟩
theorem mu_noe {c : Cf} (h : c.s.e = []) {a : Addr} : Mu c a ↔ a ∈ c.φ := ⟨fun m => m.elim id fun ⟨i, ⟨_, z⟩, _⟩ => (by rw [h] at z; cases i <;> cases z), .inl⟩
/-- with the names of the start -/
def Cf.with (c : Cf) (e : Env) (σ : St) : Cf := { c with s := ⟨e, c.s.h⟩, σ := σ }
theorem with_own {c c1 : Cf} {i : Nat} {a : Addr} : Own (c1.with c.s.e c.σ) i a ↔ Own c i a := Iff.rfl
theorem call_back {T : Tx} {c c1 : Cf} (O : Ok T c) (O1 : Ok T c1) (x : Ext c.bare c1) (he : c1.s.e = []) : Ok T (c1.with c.s.e c.σ) ∧ Ext c (c1.with c.s.e c.σ) := by
  have own_free : ∀ i a, Own c i a → a ∉ c1.φ ∧ c1.F a = none ∧ CellKeep c.H c1.H a := fun i a h => by
    obtain ⟨o, e1, e2⟩ := O.there (.inr ⟨i, h⟩)
    have nm : ¬ Mu c.bare a := fun m => O.out i a h (mu_bare.mp m)
    have ne : c.H a ≠ none := by rw [e1]; exact fun z => nomatch z
    refine ⟨fun m => ?_, ?_, Ext.cellKeep O.bare x ne nm⟩
    · rcases x.mu a (.inl m) with z | z
      · exact nm z
      · exact ne z
    · apply Classical.byContradiction
      intro q
      rcases x.fz a q with z | z | z | ⟨y, z⟩
      · exact z (O.free a (.inr ⟨i, h⟩))
      · exact nm z
      · exact ne z
      · have z : c.H a = some (.own y) := z
        rw [e1] at z
        cases z
        exact e2 _ rfl
  have mu : ∀ a, Mu (c1.with c.s.e c.σ) a → a ∈ c1.φ ∨ ∃ i, Own c i a := fun a m => m
  refine ⟨⟨O1.le, O1.len, O1.cell, O1.nd, fun i d h => ?_, fun i cl h => ?_, O.apart, fun i a h => (own_free i a h).1, fun a m => ?_, O.elen⟩,
    ⟨x.le, x.pre, fun a o h n => x.keep a o h fun m => n (.inl (mu_bare.mp m)), x.live, fun a m => ?_, fun a h => ?_⟩⟩
  · obtain ⟨v, e, r⟩ := O.fz i d h
    exact ⟨v, e, r.mono x.le x.pre⟩
  · obtain ⟨a, e, r⟩ := O.ow i cl h
    exact ⟨a, e, (r.keep (own_free i a ⟨⟨cl, h⟩, e⟩).2.2).mono x.le x.pre⟩
  · rcases mu a m with m | ⟨i, m⟩
    · exact O1.free a (.inl m)
    · exact (own_free i a m).2.1
  · rcases mu a m with m | ⟨i, m⟩
    · rcases x.mu a (.inl m) with z | z
      · exact .inl (.inl (mu_bare.mp z))
      · exact .inr z
    · exact .inl (.inr ⟨i, m⟩)
  · rcases x.fz a h with z | z | z | z
    · exact .inl z
    · exact .inr (.inl (.inl (mu_bare.mp z)))
    · exact .inr (.inr (.inl z))
    · exact .inr (.inr (.inr z))
theorem Reps.getR {T : Tx} {F : Hp} {φ : List Addr} : ∀ {ds : List D} {us : List V} {i : Nat} {u : V}, Reps T F φ ds us → us[i]? = some u → ∃ d, ds[i]? = some d ∧ Rep T F φ d u
  | [], _, _, _, h, e => by rw [show _ = [] from h] at e; simp at e
  | d :: ds, _, 0, _, h, e => by
    obtain ⟨u, r, rfl, q, z⟩ := h
    simp at e; subst e
    exact ⟨d, rfl, q⟩
  | d :: ds, _, i + 1, _, h, e => by
    obtain ⟨u, r, rfl, q, z⟩ := h
    obtain ⟨u', e1, e2⟩ := Reps.getR (i := i) z (by simpa using e)
    exact ⟨u', by simpa using e1, e2⟩
/-- the state at a def's entry -/
theorem entry {T : Tx} {c : Cf} {ds : List D} {vs : List V} {N : List Str} (O : Ok T c) (he : c.s.e = []) (r : Reps T c.F c.φ ds vs) (hl : vs.length ≤ N.length) :
    Ok T (c.with (env0 N.length ds) (L2.start N vs)) ∧ ∀ c1, Ext (c.with (env0 N.length ds) (L2.start N vs)) c1 → Ext c c1 := by
  have len := r.len
  have get : ∀ (i : Nat) (sl : Slot), (env0 N.length ds)[i]? = some sl → (∃ d, sl = .fz d ∧ ds[i]? = some d) ∨ sl = .un := fun i sl h => by
    unfold env0 at h
    by_cases hi : i < ds.length
    · rw [List.getElem?_append_left (by simpa using hi), List.getElem?_map, List.getElem?_eq_getElem hi] at h
      cases h
      exact .inl ⟨_, rfl, List.getElem?_eq_getElem hi⟩
    · rw [List.getElem?_append_right (by simpa using hi), List.getElem?_replicate] at h
      split at h
      · cases h
        exact .inr rfl
      · cases h
  have noown : ∀ i a, ¬ Own (c.with (env0 N.length ds) (L2.start N vs)) i a := fun i a ⟨⟨cl, h⟩, _⟩ => by
    rcases get i _ h with ⟨d, e, _⟩ | e <;> cases e
  refine ⟨⟨O.le, O.len, O.cell, O.nd, fun i d h => ?_, fun i cl h => ?_, fun i j a h => absurd h (noown i a), fun i a h => absurd h (noown i a), fun a m => ?_, ?_⟩,
    fun c1 x => ⟨x.le, x.pre, fun a o h n => x.keep a o h fun m => n ?_, x.live, fun a m => ?_, fun a h => ?_⟩⟩
  · rcases get i _ h with ⟨d', e, e2⟩ | e
    · cases e
      obtain ⟨u, e3, r2⟩ := r.get e2
      refine ⟨u, ?_, r2⟩
      show (L2.start N vs)[i]? = _
      unfold L2.start
      rw [List.getElem?_append_left (by rw [List.length_map]; exact (List.getElem?_eq_some_iff.mp e3).1), List.getElem?_map, e3]
      rfl
    · cases e
  · rcases get i _ h with ⟨d', e, e2⟩ | e <;> cases e
  · rcases m with m | ⟨i, m⟩
    · exact O.free a (.inl m)
    · exact absurd m (noown i a)
  · show (env0 N.length ds).length = (L2.start N vs).length
    unfold env0 L2.start
    rw [List.length_append, List.length_append, List.length_map, List.length_map, List.length_replicate, List.length_replicate, len]
  · rcases m with m | ⟨i, m⟩
    · exact .inl m
    · exact absurd m (noown i a)
  · rcases x.mu a m with z | z
    · rcases z with z | ⟨i, z⟩
      · exact .inl (.inl z)
      · exact absurd z (noown i a)
    · exact .inr z
  · rcases x.fz a h with z | z | z
    · exact .inl z
    · rcases z with z | ⟨i, z⟩
      · exact .inr (.inl (.inl z))
      · exact absurd z (noown i a)
    · exact .inr (.inr z)
/-- leaving a def: its names are forgotten -/
theorem leave {T : Tx} {c0 c : Cf} (O : Ok T c) (x : Ext c0 c) : Ok T c.bare ∧ Ext c0 c.bare := by
  have mu : ∀ a, Mu c.bare a → Mu c a := fun a m => .inl (mu_bare.mp m)
  exact ⟨O.bare, ⟨x.le, x.pre, x.keep, x.live, fun a m => x.mu a (mu a m), x.fz⟩⟩
section
variable {P : Program} {w : World} {K : PySem.W.Frag} {mg : Str → Option Value} {base : Heap}
/-- THE RULE for a def of the text -/
theorem fn_ok {x qual : Str} {st : Stmt} {f : Addr} {fd : FuncData} {N ps : List Str} {k : Nat} {g : M Fl} (F : Fun K x qual st f fd) (S : FnScope N ps (defScope st))
    (hbody : ∀ (cdv : Value) (A : Around) (outer : List PySem.Env) (s : Shared) (H : Hp) (E : XK), RoomG k (A.deeper (PyProof.Rows.envOfC qual (defScope st) s.heap.objs.size f cdv)) →
      SSs (cxOf (L2.CX P w) P w K mg base N qual (defScope st) f cdv A outer s H E) (fun cls d _ H => E cls d H) (defBody st) g) : FnG P w K mg base (k + 1) f fd ps (spF ⟨K, mg⟩ ps.length (fnM N.length g)) := by
  have hps : ps.length ≤ N.length := by
    have := congrArg List.length S.pre
    rw [List.length_take] at this
    omega
  refine okXG F S (fun vs H Q E h => h.1) fun cdv A outer s H vs Q E hr h => ?_
  refine ⟨_, (hbody cdv A outer s H E hr).ps, ?_⟩
  obtain ⟨hl, c, ds, e1, e2, e3, O, r, p⟩ := h
  subst e3
  obtain ⟨O1, back⟩ := entry (N := N) O e1 r (by rw [hl]; exact hps)
  refine ⟨c.with (env0 N.length ds) (L2.start N vs), rfl, rfl, O1, ?_⟩
  unfold fnM outF at p
  show PostS _ _ (g ⟨env0 N.length ds, c.s.h⟩) _ _
  cases e : g ⟨env0 N.length ds, c.s.h⟩ with
  | stuck => rw [e] at p; exact p
  | exc C ns es s1 =>
    rw [e] at p
    intro c1 A d us h1 O2 x h2 h3 h4 h5 h6
    obtain ⟨O3, x3⟩ := leave O2 (back _ x)
    exact p c1.bare A d us (by rw [← h1]; rfl) e2.symm O3 x3 h2 h3 h4 h5 fun m => h6 (.inl (mu_bare.mp m))
  | ok fl s1 =>
    rw [e] at p
    intro c1 h1 O2 x
    obtain ⟨O3, x3⟩ := leave O2 (back _ x)
    have hs : (⟨[], s1.h⟩ : Z.S) = c1.bare.s := by rw [← h1]; rfl
    cases fl with
    | next => exact p c1.bare hs.symm e2.symm O3 x3 .non rfl
    | brk => exact p.elim
    | cont => exact p.elim
    | ret w =>
      intro v rv
      cases w with
      | val d => exact p c1.bare hs.symm e2.symm O3 x3 v rv
      | new cl =>
        obtain ⟨a, ea, hc, hf, hn, hz⟩ := rv
        exact p c1.bare hs.symm e2.symm O3 x3 v ⟨a, ea, hc, hf, fun m => hn (.inl (mu_bare.mp m)), hz⟩
      | slot i =>
        have rv : c1.σ[i]? = some (some v) := rv
        subst h1
        dsimp only at p
        cases q : c1.s.e[i]? with
        | none => simp only [q] at p; exact p.elim
        | some sl =>
          simp only [q] at p
          cases sl with
          | un => exact p.elim
          | fz d =>
            obtain ⟨v', k1, k2⟩ := O2.fz i d q
            rw [rv] at k1
            cases k1
            exact p c1.bare rfl e2.symm O3 x3 v k2
          | ow cl =>
            obtain ⟨a, k1, k2⟩ := O2.ow i cl q
            rw [rv] at k1
            cases k1
            have own : Own c1 i a := ⟨⟨cl, q⟩, rv⟩
            refine p c1.bare rfl e2.symm O3 x3 _ ⟨a, rfl, k2, O2.free a (.inr ⟨i, own⟩), fun m => O2.out i a own (mu_bare.mp m), ?_⟩
            rcases (back _ x).mu a (.inr ⟨i, own⟩) with z | z
            · have z' := (mu_noe e1).mp z
              exact absurd (x.pre.subset z') (O2.out i a own)
            · exact z
/-- a def as callers take it -/
def Def (P : Program) (w : World) (K : PySem.W.Frag) (mg : Str → Option Value) (base : Heap) (x qual : Str) (st : Stmt) (k : Nat) (ps : List Str) (F : List D → M W) : Prop :=
  ∃ f fd, mg x = some (.ref f) ∧ Fun K x qual st f fd ∧ Binds K fd ps [] ∧ FnG P w K mg base k f fd ps (spF ⟨K, mg⟩ ps.length F)
end
/-- the call of a function of ours -/
def callF (n : Nat) (F : List D → M W) (fs : M (List W)) : M W := bnd fs fun ws => bnd (toDs ws) fun ds => fun s => if ds.length = n then match F ds ⟨[], s.h⟩ with
  | .ok w s1 => .ok w ⟨s.e, s1.h⟩
  | .exc C ns vs s1 => .exc C ns vs ⟨s.e, s1.h⟩
  | .stuck => .stuck else .stuck
section
variable {X : Cx} {Wx : WX} {e : Expr} {es : List Expr} {pos p : Pos} {fs : M (List W)} {x qual : Str} {st : Stmt} {k : Nat} {ps : List Str} {F : List D → M W} {f : Addr} {fd : FuncData}
/-- only answers that don't name a name of the callee's -/
theorem call_ofF {σ : St} {H : Hp} {Q : VK} (h : tSE X Wx (callF ps.length F fs) σ H Q) : tCallSD (spF (tx X) ps.length F) [] (fun σ cls d H => Wx cls d σ H) (tSA X Wx fs) σ H Q := by
  obtain ⟨c, e1, e2, O, p⟩ := h
  subst e1 e2
  refine ⟨c, rfl, rfl, O, (Post.bnd2 p (Ext.refl c) rfl).imp fun c1 ws hσ1 O1 x1 ⟨_, _, p1⟩ us r => ?_⟩
  obtain ⟨c2, ds, h1, h2, O2, x2, r2, p2⟩ := p1.toDs O1 r
  rw [List.append_nil, ← h2]
  have x12 := x1.trans x2
  have hσ2 := h1.trans hσ1
  by_cases hl : ds.length = ps.length
  · rw [if_pos hl] at p2
    refine ⟨by rw [r2.len]; exact hl, c2.bare, ds, rfl, rfl, rfl, O2.bare, r2, ?_⟩
    show Post _ _ (F ds ⟨[], c2.s.h⟩) _ _
    cases q : F ds ⟨[], c2.s.h⟩ with
    | stuck => rw [q] at p2; exact p2
    | exc C ns vs s1 =>
      rw [q] at p2
      intro c3 A d us' k1 k2 O3 x3 k3 k4 k5 k6 k7
      have hb : c3.s.e = [] := by
        have := O3.elen
        rw [k2] at this
        exact List.eq_nil_of_length_eq_zero this
      obtain ⟨O4, x4⟩ := call_back O2 O3 x3 hb
      have z := p2 (c3.with c2.s.e c2.σ) A d us' (by show (⟨c2.s.e, c3.s.h⟩ : S) = _; rw [k1]) hσ2 O4 (x12.trans x4) k3 k4 k5 k6 (fun m => ?_)
      · show Wx (.ref A) (some d) c.σ c3.H
        rw [← hσ2]
        exact z
      · rcases m with m | ⟨i, m⟩
        · exact k7 (.inl m)
        · obtain ⟨o, e1, e2⟩ := O4.there (.inr ⟨i, m⟩)
          have ne := O2.there (.inr ⟨i, with_own.mp m⟩)
          obtain ⟨o', e3, e4⟩ := ne
          have nm : ¬ Mu c2.bare d := fun m' => O2.out i d (with_own.mp m) (mu_bare.mp m')
          have e5 := x3.keep d o' e3 nm
          rw [k5] at e5
          cases e5
          obtain ⟨cl, hcl⟩ := m.1
          obtain ⟨a, ea, hc⟩ := O2.ow i cl hcl
          have : c2.σ[i]? = some (some (.ref d)) := m.2
          rw [this] at ea
          cases ea
          cases cl with
          | lst xs => obtain ⟨_, z, _⟩ := hc; rw [e3] at z; cases z
          | dK ks vs => obtain ⟨_, _, z, _⟩ := hc; rw [e3] at z; cases z
          | dT ks vs => obtain ⟨_, _, z, _⟩ := hc; rw [e3] at z; cases z
          | ins C ns vs => obtain ⟨_, _, _, _, _, z, _⟩ := hc; rw [e3] at z; cases z
    | ok w s1 =>
      rw [q] at p2
      intro c3 k1 k2 O3 x3 v rv
      have hb : c3.s.e = [] := by
        have := O3.elen
        rw [k2] at this
        exact List.eq_nil_of_length_eq_zero this
      obtain ⟨O4, x4⟩ := call_back O2 O3 x3 hb
      refine p2 (c3.with c2.s.e c2.σ) (by show (⟨c2.s.e, c3.s.h⟩ : S) = _; rw [k1]) hσ2 O4 (x12.trans x4) v ?_
      have rv : RepW (tx X) c2.H c3 w v := rv
      cases w with
      | val d => exact rv
      | slot i =>
        have rv : c3.σ[i]? = some (some v) := rv
        rw [k2] at rv
        cases i <;> cases rv
      | new cl =>
        obtain ⟨a, ea, hc, hf, hn, hz⟩ := rv
        refine ⟨a, ea, hc, hf, fun m => ?_, Classical.byContradiction fun q => x12.live a q hz⟩
        rcases m with m | ⟨i, m⟩
        · exact hn (.inl m)
        · obtain ⟨o, e1, _⟩ := O2.there (.inr ⟨i, with_own.mp m⟩)
          rw [hz] at e1
          cases e1
  · rw [if_neg hl] at p2
    exact p2.elim
theorem se_call {n : Nat} (h : Def X.prog X.w X.K X.mg X.base x qual st k ps F) (hr : RoomG k X.A) (tk : Takes X Wx) (hg : Gl X x) (ha : SA X Wx (e :: es) fs) (hn : ps.length = n := by rfl) (hdb : (x == ("__debug__" : Str)) = false := by decide)
    (he : starEach (e :: es) X.env = (false, eval e X.env) :: starEach es X.env := by rfl) (hpl : (backTo pos (starEach es X.env)).any (·.1) = false := by rfl) : SE X Wx (.Call (.Name x p) (e :: es) [] pos) (callF n F fs) := by
  subst hn
  obtain ⟨f, fd, hm, hF, hb, hf⟩ := h
  refine ⟨⟨fun pins s σ H Q I q => ?_⟩⟩
  refine wpAny_Call_Name_kw (ld_glob I hg hm ?_ hdb)
  refine PySem.W.callWith_K (h₀ := X.base) I.ok.mod.kin hF.kp (thn (ha.pa.run pos pins s σ H _ I (call_ofF q)) fun us s1 ⟨vs, H1, I1, r, q1⟩ => ⟨I1.kIn, ?_⟩) he hpl
  exact run_fnG (E := fun σ cls d H => Wx cls d σ H) hf hr hb .nil (passAt tk σ) I1 r q1
theorem se_call0 (h : Def X.prog X.w X.K X.mg X.base x qual st k [] F) (hr : RoomG k X.A) (tk : Takes X Wx) (hg : Gl X x) (hdb : (x == ("__debug__" : Str)) = false := by decide) : SE X Wx (.Call (.Name x p) [] [] pos) (callF 0 F nilA) := by
  obtain ⟨f, fd, hm, hF, hb, hf⟩ := h
  refine ⟨⟨fun pins s σ H Q I q => ?_⟩⟩
  have q := call_ofF (ps := []) q
  refine wpAny_Call_Name_kw (ld_glob I hg hm ?_ hdb)
  exact PySem.W.callWith_K0 I.kIn hF.kp (run_fnG (us := []) (E := fun σ cls d H => Wx cls d σ H) hf hr hb .nil (passAt tk σ) I .nil (tSA_nil q))
end
end Z

namespace Z
open PySem L2

/-! ## What is walked -/
/-- from c0 on the iterator yields just the items -/
def Walk (T : Tx) (c0 : Cf) (J : It) (items : List D) : Prop := ∀ c, Ok T c → Ext c0 c → ∀ i,
  (∀ d, items[i]? = some d → J.go i c.H ∧ ∀ x H', J.yld i c.H x H' → ∃ c', c'.H = H' ∧ c'.σ = c.σ ∧ c'.s = c.s ∧ Ok T c' ∧ Ext c c' ∧ Rep T c'.F c'.φ d x) ∧ (items.length ≤ i → J.stop i c.H)
def tSI (X : Cx) (Wx : WX) (f : M (List D)) : TI := fun σ H R => ∃ c : Cf, c.σ = σ ∧ c.H = H ∧ Ok (tx X) c ∧ Post (tx X) c (f c.s) (fun c1 items => ∀ J, Walk (tx X) c1 J items → R J c1.H) Wx
structure SI (X : Cx) (Wx : WX) (tg iter : Expr) (f : M (List D)) : Prop where
  pi : PI X tg iter (tSI X Wx f)
theorem PI.imp {X : Cx} {tg iter : Expr} {t t' : TI} (h : PI X tg iter t) (k : ∀ σ H R, t' σ H R → t σ H R) : PI X tg iter t' := ⟨fun pins s σ H R I q => h.run pins s σ H R I (k _ _ _ q)⟩
section
variable {T : Tx} {c0 : Cf}
theorem SqL.inj {F : Hp} {K : PySem.W.Frag} {a : Addr} {xs ys : List V} (h : F a = some (.lst xs)) (g : SqL K F a ys) (hk : K.lookup a = none) : ys = xs := by
  rcases g with (g | ⟨o, g⟩) | ⟨o, its, n, g, _⟩
  · rw [h] at g; cases g; rfl
  · rw [h] at g; cases g
  · rw [hk] at g; cases g
theorem Walk.list {a : Addr} {us : List V} {ds : List D} (h : SqL T.K c0.F a us) (r : Reps T c0.F c0.φ ds us) : Walk T c0 (Itl T.K a) ds := fun c O x i => by
  have h1 : SqL T.K c.H a us := SqL.le O.le (SqL.le x.le h)
  refine ⟨fun d hd => ?_, fun hi => ⟨us, h1, by rw [r.len]; exact hi⟩⟩
  obtain ⟨u, hu, hr⟩ := r.get hd
  refine ⟨⟨us, u, h1, hu⟩, fun y H' ⟨e, hy⟩ => ⟨c, e.symm, rfl, rfl, O, Ext.refl c, ?_⟩⟩
  have := hy us h1
  rw [hu] at this
  cases this
  exact hr.mono x.le x.pre
theorem SqT.le {K : PySem.W.Frag} {F F1 : Hp} {a : Addr} {xs : List V} (l : Le F F1) (h : SqT K F a xs) : SqT K F1 a xs := by
  rcases h with (h | ⟨o, h⟩) | h
  · exact .inl (.inl (l _ _ h))
  · exact .inl (.inr ⟨o, l _ _ h⟩)
  · exact .inr h
theorem Walk.tup {a : Addr} {us : List V} {ds : List D} (h : SqT T.K c0.F a us) (r : Reps T c0.F c0.φ ds us) : Walk T c0 (Itt T.K a) ds := fun c O x i => by
  have h1 : SqT T.K c.H a us := SqT.le O.le (SqT.le x.le h)
  refine ⟨fun d hd => ?_, fun hi => ⟨us, h1, by rw [r.len]; exact hi⟩⟩
  obtain ⟨u, hu, hr⟩ := r.get hd
  refine ⟨⟨us, u, h1, hu⟩, fun y H' ⟨e, hy⟩ => ⟨c, e.symm, rfl, rfl, O, Ext.refl c, ?_⟩⟩
  have := hy us h1
  rw [hu] at this
  cases this
  exact hr.mono x.le x.pre
def rangeL (lo : Int) (n : Nat) : List D := (List.range n).map fun (k : Nat) => .int (lo + (k : Int))
theorem Walk.range {lo : Int} {n : Nat} : Walk T c0 (Itr lo n) (rangeL lo n) := fun c O x i => by
  unfold rangeL
  refine ⟨fun d hd => ?_, fun hi => by show n ≤ i; simpa using hi⟩
  rw [List.getElem?_map] at hd
  cases q : (List.range n)[i]? with
  | none => rw [q] at hd; cases hd
  | some k =>
    rw [q] at hd
    cases hd
    obtain ⟨h1, h2⟩ := List.getElem?_eq_some_iff.mp q
    have hin : i < n := by simpa using h1
    have e : k = i := by rw [← h2, List.getElem_range]
    subst e
    exact ⟨hin, fun y H' ⟨e1, e2⟩ => ⟨c, e1.symm, rfl, rfl, O, Ext.refl c, e2⟩⟩
def rangeC (lo st : Int) (n : Nat) : List D := (List.range n).map fun (k : Nat) => .int (lo + (k : Int) * st)
theorem Walk.rangeC {lo st : Int} {n : Nat} : Walk T c0 (Itc lo st n) (rangeC lo st n) := fun c O x i => by
  unfold Z.rangeC
  refine ⟨fun d hd => ?_, fun hi => by show n ≤ i; simpa using hi⟩
  rw [List.getElem?_map] at hd
  cases q : (List.range n)[i]? with
  | none => rw [q] at hd; cases hd
  | some k =>
    rw [q] at hd
    cases hd
    obtain ⟨h1, h2⟩ := List.getElem?_eq_some_iff.mp q
    have hin : i < n := by simpa using h1
    have e : k = i := by rw [← h2, List.getElem_range]
    subst e
    exact ⟨hin, fun y H' ⟨e1, e2⟩ => ⟨c, e1.symm, rfl, rfl, O, Ext.refl c, e2⟩⟩
/-- a new tuple laid as data -/
theorem lay_tup {c : Cf} {p : Addr} {ds : List D} {us : List V} (O : Ok T c) (r : Reps T c.F c.φ ds us) (hp : c.H p = none) :
    ∃ c', c'.H = upd c.H p (.tup us) ∧ c'.σ = c.σ ∧ c'.s = c.s ∧ Ok T c' ∧ Ext c c' ∧ Rep T c'.F c'.φ (.tup ds) (.ref p) := by
  obtain ⟨O1, x1⟩ := O.alloc (o := .tup us) hp
  have O2 := O1.freeze (a := p) (show ¬ Mu { c with H := upd c.H p (.tup us) } p from (Mu.none O hp : ¬ Mu c p))
  have x2 := Ext.freeze (a := p) O1 x1 (.inl hp)
  have e : frF { c with H := upd c.H p (.tup us) } p p = some (.tup us) := (if_pos (.inl rfl)).trans upd_same
  exact ⟨_, (by rfl), (by rfl), (by rfl), O2, x2, ⟨p, us, rfl, e, r.mono (frF_le O1) (List.prefix_refl _)⟩⟩
def enumL (k : Nat) : List D → List D
  | [] => []
  | d :: ds => .tup [.int (k : Nat), d] :: enumL (k + 1) ds
theorem enumL_get : ∀ {ds : List D} {k i : Nat} {d : D}, (enumL k ds)[i]? = some d → ∃ x, ds[i]? = some x ∧ d = .tup [.int ((k + i : Nat) : Int), x]
  | [], _, _, _, h => by simp [enumL] at h
  | e :: ds, k, 0, d, h => by simp [enumL] at h; exact ⟨e, rfl, h.symm⟩
  | e :: ds, k, i + 1, d, h => by
    obtain ⟨x, h1, h2⟩ := enumL_get (ds := ds) (k := k + 1) (i := i) (d := d) (by simpa [enumL] using h)
    refine ⟨x, by simpa using h1, ?_⟩
    rw [h2]
    congr 3
    omega
theorem enumL_len : ∀ (ds : List D) (k : Nat), (enumL k ds).length = ds.length
  | [], _ => rfl
  | d :: ds, k => by simp [enumL, enumL_len ds (k + 1)]
theorem Walk.enum {a : Addr} {us : List V} {ds : List D} (h : SqL T.K c0.F a us) (r : Reps T c0.F c0.φ ds us) : Walk T c0 (Ite T.K a) (enumL 0 ds) := fun c O x i => by
  have h1 : SqL T.K c.H a us := SqL.le O.le (SqL.le x.le h)
  refine ⟨fun d hd => ?_, fun hi => ⟨us, h1, by rw [r.len, ← enumL_len ds 0]; exact hi⟩⟩
  obtain ⟨z, hz, rfl⟩ := enumL_get hd
  obtain ⟨u, hu, hr⟩ := r.get hz
  refine ⟨⟨us, u, h1, hu⟩, fun y H' ⟨p, w, e1, hp, e2, hy⟩ => ?_⟩
  subst e1 e2
  have := hy us h1
  rw [hu] at this
  cases this
  rw [Nat.zero_add]
  exact lay_tup O ⟨_, _, rfl, rfl, _, _, rfl, hr.mono x.le x.pre, rfl⟩ hp
def zipL : List D → List D → List D
  | d :: ds, e :: es => .tup [d, e] :: zipL ds es
  | _, _ => []
theorem zipL_get : ∀ {ds es : List D} {i : Nat} {d : D}, (zipL ds es)[i]? = some d → ∃ x y, ds[i]? = some x ∧ es[i]? = some y ∧ d = .tup [x, y]
  | [], _, _, _, h => by simp [zipL] at h
  | _ :: _, [], _, _, h => by simp [zipL] at h
  | x :: ds, y :: es, 0, d, h => by simp [zipL] at h; exact ⟨x, y, rfl, rfl, h.symm⟩
  | x :: ds, y :: es, i + 1, d, h => by
    obtain ⟨x', y', h1, h2, h3⟩ := zipL_get (ds := ds) (es := es) (i := i) (d := d) (by simpa [zipL] using h)
    exact ⟨x', y', by simpa using h1, by simpa using h2, h3⟩
theorem zipL_len : ∀ (ds es : List D), (zipL ds es).length = min ds.length es.length
  | [], es => by simp [zipL]
  | _ :: _, [] => by simp [zipL]
  | d :: ds, e :: es => by simp [zipL, zipL_len ds es]
theorem Walk.zip {a b : Addr} {us ws : List V} {ds es : List D} (h : SqL T.K c0.F a us) (g : SqL T.K c0.F b ws) (r : Reps T c0.F c0.φ ds us) (q : Reps T c0.F c0.φ es ws) : Walk T c0 (Itz T.K a b) (zipL ds es) := fun c O x i => by
  have h1 : SqL T.K c.H a us := SqL.le O.le (SqL.le x.le h)
  have g1 : SqL T.K c.H b ws := SqL.le O.le (SqL.le x.le g)
  refine ⟨fun d hd => ?_, fun hi => ⟨us, ws, h1, g1, by rw [zipL_len] at hi; rw [r.len, q.len]; omega⟩⟩
  obtain ⟨y, z, hy, hz, rfl⟩ := zipL_get hd
  obtain ⟨u, hu, hr⟩ := r.get hy
  obtain ⟨w, hw, hq⟩ := q.get hz
  refine ⟨⟨us, ws, u, w, h1, g1, hu, hw⟩, fun v H' ⟨p, m, n, e1, hp, e2, k1, k2⟩ => ?_⟩
  subst e1 e2
  have z1 := k1 us h1
  have z2 := k2 ws g1
  rw [hu] at z1
  rw [hw] at z2
  cases z1
  cases z2
  exact lay_tup O ⟨_, _, rfl, hr.mono x.le x.pre, _, _, rfl, hq.mono x.le x.pre, rfl⟩ hp
theorem Walk.zipT {a b : Addr} {us ws : List V} {ds es : List D} (h : SqT T.K c0.F a us) (g : SqT T.K c0.F b ws) (r : Reps T c0.F c0.φ ds us) (q : Reps T c0.F c0.φ es ws) : Walk T c0 (RZ.ItzT T.K a b) (zipL ds es) := fun c O x i => by
  have h1 : SqT T.K c.H a us := SqT.le O.le (SqT.le x.le h)
  have g1 : SqT T.K c.H b ws := SqT.le O.le (SqT.le x.le g)
  refine ⟨fun d hd => ?_, fun hi => ⟨us, ws, h1, g1, by rw [zipL_len] at hi; rw [r.len, q.len]; omega⟩⟩
  obtain ⟨y, z, hy, hz, rfl⟩ := zipL_get hd
  obtain ⟨u, hu, hr⟩ := r.get hy
  obtain ⟨w, hw, hq⟩ := q.get hz
  refine ⟨⟨us, ws, u, w, h1, g1, hu, hw⟩, fun v H' ⟨p, m, n, e1, hp, e2, k1, k2⟩ => ?_⟩
  subst e1 e2
  have z1 := k1 us h1
  have z2 := k2 ws g1
  rw [hu] at z1
  rw [hw] at z2
  cases z1
  cases z2
  exact lay_tup O ⟨_, _, rfl, hr.mono x.le x.pre, _, _, rfl, hq.mono x.le x.pre, rfl⟩ hp
end
section
variable {X : Cx} {Wx : WX} {e a b d : Expr} {es : List Expr} {pos p : Pos} {tg : Expr} {fa fb : M W} {fs : M (List W)}
/-- lists and tuples -/
def iAny (K : PySem.W.Frag) (tl : TE) : TI := fun σ H R => tl σ H fun x H1 => ∃ a, x = .ref a ∧ (((∃ xs, SqL K H1 a xs) ∧ R (Itl K a) H1) ∨ ((∃ xs, SqT K H1 a xs) ∧ R (Itt K a) H1))
theorem pi_any {l : Expr} {tl : TE} (hl : PE X l tl) : PI X tg l (iAny X.K tl) := by
  refine ⟨fun pins s σ H R I h => ?_⟩
  refine thn (hl.run pins s σ H _ I h) fun v s1 ⟨x, H1, I1, r1, q1⟩ => ?_
  obtain ⟨a, e, q⟩ := q1
  subst e
  cases r1
  rcases q with ⟨⟨xs, hq⟩, q⟩ | ⟨⟨xs, hq⟩, q⟩
  · obtain ⟨its, rv, p, hz⟩ := I1.list hq
    refine wpAny_pyIter_list p.isList ?_
    refine ⟨s1.heap.objs.size, [s1.heap.objs.size], _, _, H1, rfl, I1.kept (t' := s1.toks) fun b o e => Heap.get?_push_of_some _ e, turn_list a _, ⟨_, Heap.get?_push_size _ rfl, rfl, rfl⟩, fun b hb => ?_, q⟩
    have e : b = s1.heap.objs.size := by simpa using hb
    subst e
    exact I1.fpOk (Nat.le_refl _) (I1.hok.fresh (Nat.le_refl _))
  · obtain ⟨its, rv, p, hz⟩ := I1.tuple hq
    refine wpAny_pyIter_tuple (show s1.heap.IsTuple a its.toArray from p) ?_
    refine ⟨s1.heap.objs.size, [s1.heap.objs.size], _, _, H1, rfl, I1.kept (t' := s1.toks) fun b o e => Heap.get?_push_of_some _ e, turn_tuple a _, ⟨_, Heap.get?_push_size _ rfl, rfl, rfl⟩, fun b hb => ?_, q⟩
    have e : b = s1.heap.objs.size := by simpa using hb
    subst e
    exact I1.fpOk (Nat.le_refl _) (I1.hok.fresh (Nat.le_refl _))
def seqI (fa : M W) : M (List D) := bnd fa fun x => bnd (toD x) fun d => opt (seqOf d)
theorem seqOf_F {T : Tx} {F : Hp} {φ : List Addr} {d : D} {v : V} {ds : List D} (r : Rep T F φ d v) (h : seqOf d = some ds) : ∃ a us, v = .ref a ∧ (SqL T.K F a us ∨ SqT T.K F a us) ∧ Reps T F φ ds us := by
  cases d <;> simp only [seqOf, Option.some.injEq, reduceCtorEq] at h <;> subst h
  · obtain ⟨a, us, e, q, r⟩ := r
    exact ⟨a, us, e, .inr (.of q), r⟩
  · obtain ⟨a, us, e, q, r⟩ := r
    exact ⟨a, us, e, .inr q.sq, r⟩
  · obtain ⟨a, us, e, q, r⟩ := r
    exact ⟨a, us, e, .inl (.of q), r⟩
  · obtain ⟨a, us, e, q, r⟩ := r
    exact ⟨a, us, e, .inl q, r⟩
theorem si_seq (h : SE X Wx e fa) : SI X Wx tg e (seqI fa) := ⟨PI.imp (pi_any h.pe) fun σ H R ⟨c, e1, e2, O, p⟩ => by
  subst e1 e2
  refine ⟨c, rfl, rfl, O, (Post.bnd2 p (Ext.refl c) rfl).imp fun c1 w hσ1 O1 x1 ⟨_, _, p1⟩ v r => ?_⟩
  obtain ⟨c2, d, h1, h2, O2, x2, r2, p2⟩ := p1.toD O1 x1 hσ1 r
  obtain ⟨ds, e, p3⟩ := p2.opt1
  have z := p3.ok rfl (h1.trans hσ1) O2 x2
  obtain ⟨a, us, ev, q, rr⟩ := seqOf_F r2 e
  rw [← h2]
  refine ⟨a, ev, ?_⟩
  rcases q with q | q
  · exact .inl ⟨⟨us, SqL.le O2.le q⟩, z _ (Walk.list q rr)⟩
  · exact .inr ⟨⟨us, SqT.le O2.le q⟩, z _ (Walk.tup q rr)⟩⟩
theorem tSA.mono {σ : St} {H : Hp} {Q Q' : List V → Hp → Prop} (h : tSA X Wx fs σ H Q) (k : ∀ vs H1, Q vs H1 → Q' vs H1) : tSA X Wx fs σ H Q' := by
  obtain ⟨c, e1, e2, O, p⟩ := h
  exact ⟨c, e1, e2, O, p.imp fun c1 ws _ _ _ q vs r => k _ _ (q vs r)⟩
/-- arguments, looked at -/
theorem tSA_views {α : Type} {c : Cf} {k : List D → M α} {R : Cf → α → Prop} (O : Ok (tx X) c) (q : Post (tx X) c (bnd fs (fun ws => bnd (views ws) k) c.s) R Wx) : tSA X Wx fs c.σ c.H fun vs H1 => ∃ c1 ds, c1.H = H1 ∧ c1.σ = c.σ ∧ Ok (tx X) c1 ∧ Ext c c1 ∧ RepVs (tx X) c1 ds vs ∧ Post (tx X) c (k ds c1.s) R Wx :=
  ⟨c, rfl, rfl, O, (Post.bnd2 q (Ext.refl c) rfl).imp fun c1 ws hσ1 O1 x1 ⟨_, _, p1⟩ us r => by
    obtain ⟨ds, q, p2⟩ := Post.views O1 x1 hσ1 p1 r
    exact ⟨c1, ds, rfl, hσ1, O1, x1, q, p2⟩⟩
/-- arguments, as data -/
theorem tSA_toDs {α : Type} {c : Cf} {k : List D → M α} {R : Cf → α → Prop} (O : Ok (tx X) c) (q : Post (tx X) c (bnd fs (fun ws => bnd (toDs ws) k) c.s) R Wx) : tSA X Wx fs c.σ c.H fun vs H1 => ∃ c1 ds, c1.H = H1 ∧ c1.σ = c.σ ∧ Ok (tx X) c1 ∧ Ext c c1 ∧ Reps (tx X) c1.F c1.φ ds vs ∧ Post (tx X) c (k ds c1.s) R Wx :=
  ⟨c, rfl, rfl, O, (Post.bnd2 q (Ext.refl c) rfl).imp fun c1 ws hσ1 O1 x1 ⟨_, _, p1⟩ us r => by
    obtain ⟨c2, ds, h1, h2, O2, x2, r2, p2⟩ := p1.toDs O1 r
    exact ⟨c2, ds, h2, h1.trans hσ1, O2, x1.trans x2, r2, p2⟩⟩
/-- range(..) -/
def range1I (fs : M (List W)) : M (List D) := bnd fs fun ws => bnd (views ws) fun ds => opt (match ds with
  | [.int j] => if -(2 ^ 62) ≤ j ∧ j < 2 ^ 62 then some (rangeL 0 j.toNat) else none
  | _ => none)
def range2I (fs : M (List W)) : M (List D) := bnd fs fun ws => bnd (views ws) fun ds => opt (match ds with
  | [.int i, .int j] => if -(2 ^ 62) ≤ i ∧ i < 2 ^ 62 ∧ -(2 ^ 62) ≤ j ∧ j < 2 ^ 62 then some (rangeL i (j - i).toNat) else none
  | _ => none)
def rgN (i j c : Int) : Nat := if 0 < c then (if i < j then ((j - i + c - 1) / c).toNat else 0) else (if j < i then ((i - j + (-c) - 1) / (-c)).toNat else 0)
theorem si_range1 (hg : Gl X "range") (hm : X.mg "range" = none) (ha : SA X Wx [a] fs) (hs : starEach [a] X.env = [(false, eval a X.env)] := by rfl) : SI X Wx tg (.Call (.Name "range" p) [a] [] pos) (range1I fs) := ⟨PI.imp (pi_range1 hg hm ha.pa hs) fun σ H R ⟨c, e1, e2, O, q⟩ => by
  subst e1 e2
  refine (tSA_views O q).mono fun vs H1 ⟨c1, ds, h1, h2, O1, x1, rs, p1⟩ => ?_
  subst h1
  obtain ⟨items, e, p2⟩ := p1.opt1
  split at e
  · split at e
    · rename_i j z
      cases e
      obtain ⟨v, rfl, r⟩ := rs.one
      cases r.int
      exact ⟨j, rfl, z.1, z.2, p2.ok rfl h2 O1 x1 _ Walk.range⟩
    · cases e
  · cases e⟩
theorem si_range2 (hg : Gl X "range") (hm : X.mg "range" = none) (ha : SA X Wx [a, b] fs) (hs : starEach [a, b] X.env = [(false, eval a X.env), (false, eval b X.env)] := by rfl) (hs2 : starEach [b] X.env = [(false, eval b X.env)] := by rfl) :
    SI X Wx tg (.Call (.Name "range" p) [a, b] [] pos) (range2I fs) := ⟨PI.imp (pi_range2 hg hm ha.pa hs hs2) fun σ H R ⟨c, e1, e2, O, q⟩ => by
  subst e1 e2
  refine (tSA_views O q).mono fun vs H1 ⟨c1, ds, h1, h2, O1, x1, rs, p1⟩ => ?_
  subst h1
  obtain ⟨items, e, p2⟩ := p1.opt1
  split at e
  · split at e
    · rename_i i j z
      cases e
      obtain ⟨v, u, rfl, r1, r2⟩ := rs.two
      cases r1.int
      cases r2.int
      exact ⟨i, j, rfl, z, p2.ok rfl h2 O1 x1 _ Walk.range⟩
    · cases e
  · cases e⟩
/-- enumerate(a list), zip(..) -/
def enumI (fs : M (List W)) : M (List D) := bnd fs fun ws => bnd (toDs ws) fun ds => opt (match ds with
  | [d] => match lstOf d with
    | some xs => some (enumL 0 xs)
    | none => none
  | _ => none)
theorem lstOf_F {T : Tx} {F : Hp} {φ : List Addr} {d : D} {v : V} {ds : List D} (r : Rep T F φ d v) (h : lstOf d = some ds) : ∃ a us, v = .ref a ∧ SqL T.K F a us ∧ Reps T F φ ds us := by
  cases d <;> simp only [lstOf, Option.some.injEq, reduceCtorEq] at h <;> subst h
  · obtain ⟨a, us, e, q, r⟩ := r
    exact ⟨a, us, e, .of q, r⟩
  · obtain ⟨a, us, e, q, r⟩ := r
    exact ⟨a, us, e, q, r⟩
variable {elts : List Expr} {kk : Nat} {tpos : Pos}
theorem si_enum (hg : Gl X "enumerate") (hm : X.mg "enumerate" = none) (ha : SA X Wx [a] fs) (hs : starEach [a] X.env = [(false, eval a X.env)] := by rfl) : SI X Wx (.Tuple elts kk tpos) (.Call (.Name "enumerate" p) [a] [] pos) (enumI fs) := ⟨PI.imp (pi_enum hg hm ha.pa hs) fun σ H R ⟨c, e1, e2, O, q⟩ => by
  subst e1 e2
  refine (tSA_toDs O q).mono fun vs H1 ⟨c1, ds, h1, h2, O1, x1, rs, p1⟩ => ?_
  subst h1
  obtain ⟨items, e, p2⟩ := p1.opt1
  split at e
  · split at e
    · rename_i xs e1
      cases e
      obtain ⟨v, w, rfl, r, z⟩ := rs
      cases (show w = [] from z)
      obtain ⟨a, us, rfl, h, r⟩ := lstOf_F r e1
      exact ⟨a, us, rfl, SqL.le O1.le h, p2.ok rfl h2 O1 x1 _ (Walk.enum h r)⟩
    · cases e
  · cases e⟩
def tupOf : D → Option (List D)
  | .tup ds => some ds
  | .ktp ds => some ds
  | _ => none
theorem tupOf_F {T : Tx} {F : Hp} {φ : List Addr} {d : D} {v : V} {ds : List D} (r : Rep T F φ d v) (h : tupOf d = some ds) : ∃ a us, v = .ref a ∧ SqT T.K F a us ∧ Reps T F φ ds us := by
  cases d <;> simp only [tupOf, Option.some.injEq, reduceCtorEq] at h <;> subst h
  · obtain ⟨a, us, e, q, r⟩ := r
    exact ⟨a, us, e, .of q, r⟩
  · obtain ⟨a, us, e, q, r⟩ := r
    exact ⟨a, us, e, q.sq, r⟩
def zipI (fs : M (List W)) : M (List D) := bnd fs fun ws => bnd (toDs ws) fun ds => opt (match ds with
  | [d, e] => match lstOf d, lstOf e with
    | some xs, some ys => some (zipL xs ys)
    | _, _ => match tupOf d, tupOf e with
      | some xs, some ys => some (zipL xs ys)
      | _, _ => none
  | _ => none)
theorem si_zip (hg : Gl X "zip") (hm : X.mg "zip" = none) (ha : SA X Wx [a, b] fs) (hs : starEach [a, b] X.env = (false, eval a X.env) :: starEach [b] X.env := by rfl) (hpl : (backTo pos (starEach [b] X.env)).any (·.1) = false := by rfl) :
    SI X Wx (.Tuple elts kk tpos) (.Call (.Name "zip" p) [a, b] [] pos) (zipI fs) := ⟨PI.imp (RZ.pi_zipA hg hm ha.pa hs hpl) fun σ H R ⟨c, e1, e2, O, q⟩ => by
  subst e1 e2
  refine (tSA_toDs O q).mono fun vs H1 ⟨c1, ds, h1, h2, O1, x1, rs, p1⟩ => ?_
  subst h1
  obtain ⟨items, e, p2⟩ := p1.opt1
  split at e
  · obtain ⟨v, w, rfl, r, u, w2, rfl, r2, z⟩ := rs
    cases (show w2 = [] from z)
    split at e
    · rename_i xs ys e1 e2
      cases e
      obtain ⟨a, us, rfl, h, r⟩ := lstOf_F r e1
      obtain ⟨b, ws, rfl, g, r2⟩ := lstOf_F r2 e2
      exact ⟨a, b, us, ws, rfl, .inl ⟨SqL.le O1.le h, SqL.le O1.le g, p2.ok rfl h2 O1 x1 _ (Walk.zip h g r r2)⟩⟩
    · split at e
      · rename_i xs ys e1 e2
        cases e
        obtain ⟨a, us, rfl, h, r⟩ := tupOf_F r e1
        obtain ⟨b, ws, rfl, g, r2⟩ := tupOf_F r2 e2
        exact ⟨a, b, us, ws, rfl, .inr ⟨SqT.le O1.le h, SqT.le O1.le g, p2.ok rfl h2 O1 x1 _ (Walk.zipT h g r r2)⟩⟩
      · cases e
  · cases e⟩
end
end Z

namespace Z
open PySem L2

/-! ## Targets -/
def noE : WX := fun _ _ _ _ => False
abbrev Tgf := D → S → Option S
/-- what a target stores; only the names at `is` change -/
def tSG (X : Cx) (is : List Nat) (f : Tgf) : TG := fun v σ H Q => ∃ (c : Cf) (d : D) (s1 : S), c.σ = σ ∧ c.H = H ∧ Ok (tx X) c ∧ Rep (tx X) c.F c.φ d v ∧ f d c.s = some s1 ∧
  ∀ c1, c1.s = s1 → Ok (tx X) c1 → Ext c c1 → (∀ vs : List Nat, (∀ i ∈ is, i ∈ vs) → wipe c1.σ vs = wipe σ vs) → Q c1.σ c1.H
structure SG (X : Cx) (tg : Expr) (is : List Nat) (f : Tgf) : Prop where
  pg : PG X tg (tSG X is f)
theorem PG.imp {X : Cx} {tg : Expr} {t t' : TG} (h : PG X tg t) (k : ∀ v σ H Q, t' v σ H Q → t v σ H Q) : PG X tg t' := ⟨fun pins s σ H v u Q I r q => h.run pins s σ H v u Q I r (k _ _ _ _ q)⟩
theorem wipe_set {σ : St} {i : Nat} {x : Option V} : ∀ {vs : List Nat}, i ∈ vs → wipe (σ.set i x) vs = wipe σ vs
  | [], h => by cases h
  | v :: vs, h => by
    show (wipe (σ.set i x) vs).set v none = (wipe σ vs).set v none
    by_cases q : i ∈ vs
    · rw [wipe_set q]
    · have e : i = v := (List.mem_cons.mp h).resolve_right q
      subst e
      have k : ∀ (ws : List Nat), i ∉ ws → wipe (σ.set i x) ws = (wipe σ ws).set i x := by
        intro ws
        induction ws with
        | nil => intro _; rfl
        | cons w ws ih =>
          intro hn
          have ne : i ≠ w := fun z => hn (by rw [z]; exact List.mem_cons_self)
          show (wipe (σ.set i x) ws).set w none = ((wipe σ ws).set w none).set i x
          rw [ih (fun z => hn (List.mem_cons_of_mem _ z)), List.set_comm _ _ ne]
      rw [k vs q, List.set_set]
section
variable {X : Cx} {Wx : WX} {e a b : Expr} {tg : Expr} {pos : Pos} {fa fb : M W} {fi : M (List D)} {f g : M Fl} {fg : Tgf}
def tg1 (i : Nat) : Tgf := fun d s => if i < s.e.length then some { s with e := s.e.set i (.fz d) } else none
theorem sg_name (i : Nat) {x : Str} (hN : X.N.Nodup) (hi : X.N[i]? = some x := by rfl) (hx : Loc X.env.scope x := by first | exact Or.inl rfl | exact Or.inr rfl) (hf : X.fn x = true ∨ X.env.scope.names.lookup x = some .local := by first | exact .inl rfl | exact .inr rfl | assumption) :
    SG X (.Name x pos) [i] (tg1 i) := ⟨PG.imp (pg_name hN hi hx hf) fun v σ H Q ⟨c, d, s1, e1, e2, O, r, h, p⟩ => by
  subst e1 e2
  unfold tg1 at h
  split at h
  · rename_i hi
    cases h
    obtain ⟨O1, x1⟩ := set_fz O hi r
    exact p { c with s := { c.s with e := c.s.e.set i (.fz d) }, σ := c.σ.set i (some v) } rfl O1 x1 fun vs h => wipe_set (h i (by simp))
  · cases h⟩
/-- several names, one behind the other -/
def tgs : List Tgf → List D → S → Option S
  | [], [], s => some s
  | f :: fs, d :: ds, s => match f d s with
    | some s1 => tgs fs ds s1
    | none => none
  | _, _, _ => none
def tSGs (X : Cx) (is : List Nat) (fs : List Tgf) : TGs := fun vs σ H Q => ∃ (c : Cf) (ds : List D) (s1 : S), c.σ = σ ∧ c.H = H ∧ Ok (tx X) c ∧ Reps (tx X) c.F c.φ ds vs ∧ tgs fs ds c.s = some s1 ∧
  ∀ c1, c1.s = s1 → Ok (tx X) c1 → Ext c c1 → (∀ vs : List Nat, (∀ i ∈ is, i ∈ vs) → wipe c1.σ vs = wipe σ vs) → Q c1.σ c1.H
structure SGs (X : Cx) (ts : List Expr) (is : List Nat) (fs : List Tgf) : Prop where
  pg : PGs X ts (tSGs X is fs)
theorem PGs.imp {X : Cx} {ts : List Expr} {t t' : TGs} (h : PGs X ts t) (k : ∀ v σ H Q, t' v σ H Q → t v σ H Q) : PGs X ts t' := ⟨fun pins s σ H v u Q I r q => h.run pins s σ H v u Q I r (k _ _ _ _ q)⟩
theorem sgs_nil : SGs X [] [] [] := ⟨PGs.imp pgs_nil fun vs σ H Q ⟨c, ds, s1, e1, e2, O, r, h, p⟩ => by
  subst e1 e2
  cases ds with
  | nil =>
    cases h
    exact ⟨r, p c rfl O (Ext.refl c) fun _ _ => rfl⟩
  | cons d ds => cases h⟩
theorem sgs_cons {ts : List Expr} {fs : List Tgf} {is js : List Nat} (h : SG X a is fg) (r : SGs X ts js fs) (hs : (assignEach (a :: ts) X.env).map (·.2) = assign a X.env :: (assignEach ts X.env).map (·.2) := by rfl) : SGs X (a :: ts) (is ++ js) (fg :: fs) := ⟨PGs.imp (pgs_cons h.pg r.pg hs) fun vs σ H Q ⟨c, ds, s1, e1, e2, O, rr, h, p⟩ => by
  subst e1 e2
  cases ds with
  | nil => cases h
  | cons d ds =>
    obtain ⟨v, us, rfl, r1, r2⟩ := rr
    unfold tgs at h
    split at h
    · rename_i s2 q
      refine ⟨v, us, rfl, c, d, s2, rfl, rfl, O, r1, q, fun c1 k1 O1 x k5 => ?_⟩
      subst k1
      refine ⟨c1, ds, s1, rfl, rfl, O1, r2.mono x.le x.pre, h, fun c2 j1 O2 x2 j5 => ?_⟩
      exact p c2 j1 O2 (x.trans x2) fun ws hw => (j5 ws fun i hi => hw i (List.mem_append_right _ hi)).trans (k5 ws fun i hi => hw i (List.mem_append_left _ hi))
    · cases h⟩
theorem PG.or {t t' : TG} (h : PG X tg t) (h' : PG X tg t') : PG X tg (fun v σ H Q => t v σ H Q ∨ t' v σ H Q) := ⟨fun pins s σ H v u Q I r q => q.elim (h.run pins s σ H v u Q I r) (h'.run pins s σ H v u Q I r)⟩
/-- (a, b, ..) = a tuple or a list -/
def tgN (fs : List Tgf) : Tgf := fun d s => match seqOf d with
  | some ds => if ds.length = fs.length then tgs fs ds s else none
  | none => none
theorem sg_tup {es : List Expr} {k : Nat} {fs : List Tgf} {is : List Nat} (h : SGs X es is fs) (hc : X.calm = true := by rfl) (hn : (assignEach es X.env).length = fs.length := by rfl) (hst : (assignEach es X.env).findIdx? (·.1) = none := by rfl) :
    SG X (.Tuple es k pos) is (tgN fs) := ⟨PG.imp (PG.or (pg_tup hc h.pg hn hst) (pg_lst hc h.pg hn hst)) fun v σ H Q ⟨c, d, s1, e1, e2, O, r, h, p⟩ => by
  subst e1 e2
  unfold tgN at h
  split at h
  · rename_i ds q
    split at h
    · rename_i hl
      obtain ⟨a, us, rfl, hq, rr⟩ := seqOf_F r q
      rcases hq with hq | hq
      · exact .inr ⟨a, us, rfl, SqL.le O.le hq, by rw [rr.len]; exact hl, c, ds, s1, rfl, rfl, O, rr, h, p⟩
      · exact .inl ⟨a, us, rfl, SqT.le O.le hq, by rw [rr.len]; exact hl, c, ds, s1, rfl, rfl, O, rr, h, p⟩
    · cases h
  · cases h⟩
/-- a, b = e -/
def stM (o : S → Option S) : M Fl := fun s => match o s with
  | some s1 => .ok .next s1
  | none => .stuck
theorem PostS.stM {T : Tx} {c0 c : Cf} {o : S → Option S} {D : Ends} {E : WX} (h : PostS T c0 (Z.stM o c.s) D E) : ∃ s1, o c.s = some s1 ∧ PostS T c0 (.ok .next s1) D E := by
  unfold Z.stM at h
  split at h
  · exact ⟨_, by assumption, h⟩
  · exact h.elim
def unpM (f : M W) (fg : Tgf) : M Fl := bnd f fun w => bnd (toD w) fun d => stM (fg d)
theorem PostS.toD {T : Tx} {c0 c : Cf} {w : W} {v : V} {k : D → M Fl} {D0 : Ends} {E : WX} (h : PostS T c0 (Z.bnd (Z.toD w) k c.s) D0 E) (O : Ok T c) (x : Ext c0 c) (r : RepW T c0.H c w v) :
    ∃ c1 d, c1.σ = c.σ ∧ c1.H = c.H ∧ Ok T c1 ∧ Ext c0 c1 ∧ Rep T c1.F c1.φ d v ∧ PostS T c0 (k d c1.s) D0 E := by
  cases w with
  | val d => exact ⟨c, d, rfl, rfl, O, x, r, h⟩
  | slot i =>
    have r : c.σ[i]? = some (some v) := r
    unfold Z.bnd Z.toD at h
    cases e : c.s.e[i]? with
    | none => simp only [e] at h; exact h.elim
    | some sl =>
      simp only [e] at h
      cases sl with
      | un => exact h.elim
      | fz d =>
        obtain ⟨v', e1, r'⟩ := O.fz i d e
        rw [r] at e1
        cases e1
        exact ⟨c, d, rfl, rfl, O, x, r', h⟩
      | ow cl =>
        obtain ⟨a, e1, r'⟩ := O.ow i cl e
        rw [r] at e1
        cases e1
        obtain ⟨O1, x1⟩ := O.drop e r
        exact ⟨_, _, (by rfl), (by rfl), O1, x.trans x1, frF_rep O r', h⟩
  | new cl =>
    obtain ⟨a, rfl, hc, f, n, z⟩ := r
    exact ⟨_, _, (by rfl), (by rfl), O.freeze n, Ext.freeze O x (.inl z), frF_rep O hc, h⟩
theorem ss_unp {is : List Nat} (he : SE X Wx e fa) (hg : SG X tg is fg) (hs : swapsWithSole [tg] e pos.line X.env = pure false := by rfl) (hw : swappedStores [tg] e X.env = pure none := by rfl)
    (h1 : (assignEach [tg] X.env).map (·.2) = [assign tg X.env] := by rfl) : SS X Wx (.Assign [tg] e pos) (unpM fa fg) := ⟨PS.imp (ps_asg he.pe hg.pg hs hw h1) fun D σ H ⟨c, e1, e2, O, p⟩ => by
  subst e1 e2
  refine ⟨c, rfl, rfl, O, (PostS.bnd p).imp fun c1 w hσ O1 x p1 v r => ?_⟩
  obtain ⟨c2, d, h1, h2, O2, x2, r2, p2⟩ := p1.toD O1 x r
  obtain ⟨s1, e, p3⟩ := p2.stM
  refine ⟨c2, d, s1, h1.trans hσ, h2, O2, r2, e, fun c3 k1 O3 x3 _ => ?_⟩
  exact p3.next k1 O3 (x2.trans x3)⟩
/-- a, b = x, y: stored from the right -/
def parM (i j : Nat) (fs : M (List W)) : M Fl := bnd fs fun ws => match ws with
  | [x, y] => bnd (toD y) fun dy => bnd (toD x) fun dx => stM fun s => if i < s.e.length ∧ j < s.e.length then some { s with e := (s.e.set i (.fz dx)).set j (.fz dy) } else none
  | _ => fun _ => .stuck
/-! ## Loops -/
def forM (tg : Tgf) (bd : M Fl) : List D → M Fl
  | [] => nextM
  | d :: ds => fun s => match tg d s with
    | some s1 => match bd s1 with
      | .ok .next s2 => forM tg bd ds s2
      | .ok .cont s2 => forM tg bd ds s2
      | .ok .brk s2 => .ok .next s2
      | o => o
    | none => .stuck
theorem ss_for {is : List Nat} {body : List Stmt} (hi : SI X Wx tg e fi) (hg : SG X tg is fg) (hb : SSs X Wx body f) (hp : PassesOwn (model X.prog X.w) X.A X.env X.xe) (hc : X.calm = true := by rfl)
    (hs : ∀ x, foldedSetIterable e X.env x = pure x := by intro _; rfl) : SS X Wx (.For tg e body [] pos) (bnd fi (forM fg f)) := ⟨PS.imp (ps_for hp hc hi.pi hg.pg hb.ps hs) fun D σ H ⟨c, e1, e2, O, p⟩ => by
  subst e1 e2
  refine ⟨c, rfl, rfl, O, (PostS.bnd p).imp fun c1 items hσ O1 x1 p1 J wk => ?_⟩
  refine ⟨fun i m σ H => ∃ c2, c2.σ = σ ∧ c2.H = H ∧ Ok (tx X) c2 ∧ Ext c1 c2 ∧ i ≤ items.length ∧ m = items.length - i ∧ PostS (tx X) c (forM fg f (items.drop i) c2.s) D Wx, ⟨items.length, c1, hσ, rfl, O1, Ext.refl c1, Nat.zero_le _, rfl, p1⟩, ?_⟩
  rintro i m σ' H' ⟨c2, h1, h2, O2, x2, hi, hm, p2⟩
  subst h1 h2
  obtain ⟨w1, w2⟩ := wk c2 O2 x2 i
  by_cases hlt : i < items.length
  · rw [List.drop_eq_getElem_cons hlt] at p2
    obtain ⟨go, yl⟩ := w1 items[i] (List.getElem?_eq_getElem hlt)
    refine .inr ⟨go, fun σ3 H3 => ∃ c3, c3.σ = σ3 ∧ c3.H = H3 ∧ Ok (tx X) c3 ∧ Ext c1 c3 ∧ PostS (tx X) c (forM fg f (items.drop (i + 1)) c3.s) D Wx, ?_, ?_⟩
    · rintro σ3 H3 ⟨c3, k1, k2, O3, x3, p3⟩
      exact ⟨items.length - (i + 1), by omega, c3, k1, k2, O3, x3, hlt, rfl, p3⟩
    · intro y H3 hy
      obtain ⟨c3, k1, k2, k3, O3, x3, r3⟩ := yl y H3 hy
      unfold forM at p2
      cases q : fg items[i] c2.s with
      | none => simp only [q] at p2; exact p2.elim
      | some s1 =>
        simp only [q] at p2
        refine ⟨c3, items[i], s1, k2, k1, O3, r3, by rw [k3]; exact q, fun c4 j1 O4 x4 _ => ?_⟩
        subst j1
        have x14 := x2.trans (x3.trans x4)
        refine ⟨c4, rfl, rfl, O4, ?_⟩
        cases q2 : f c4.s with
        | stuck => rw [q2] at p2; exact p2
        | exc C ns es s2 => rw [q2] at p2; exact PostS.from p2 (x1.trans x14)
        | ok fl s2 =>
          rw [q2] at p2
          cases fl with
          | next =>
            intro c5 j2 O5 x5
            subst j2
            exact ⟨c5, rfl, rfl, O5, x14.trans x5, p2⟩
          | cont =>
            intro c5 j2 O5 x5
            subst j2
            exact ⟨c5, rfl, rfl, O5, x14.trans x5, p2⟩
          | brk => exact fun c5 j2 O5 x5 => p2 c5 j2 O5 ((x1.trans x14).trans x5)
          | ret w => exact PostS.from p2 (x1.trans x14)
  · have e : i = items.length := by omega
    subst e
    rw [List.drop_length] at p2
    exact .inl ⟨w2 (Nat.le_refl _), p2.next rfl O2 (x1.trans x2)⟩⟩
/-- while, at most so many turns -/
def whileM (t : M Bool) (bd : M Fl) : Nat → M Fl
  | 0 => fun _ => .stuck
  | n + 1 => bnd t fun b => if b = true then fun s => match bd s with
      | .ok .next s2 => whileM t bd n s2
      | .ok .cont s2 => whileM t bd n s2
      | .ok .brk s2 => .ok .next s2
      | o => o
    else nextM
theorem ss_while (n : Nat) {body : List Stmt} {t : Expr} {ft : M Bool} (ht : ST X Wx t ft) (hb : SSs X Wx body f) (hp : PassesOwn (model X.prog X.w) X.A X.env X.xe) : SS X Wx (.While t body [] pos) (whileM ft f n) := ⟨PS.imp (ps_while hp ht.pt hb.ps) fun D σ H ⟨c, e1, e2, O, p⟩ => by
  subst e1 e2
  refine ⟨fun m σ H => ∃ cb c2, c2.σ = σ ∧ c2.H = H ∧ Ok (tx X) c2 ∧ Ext cb c2 ∧ PostS (tx X) cb (whileM ft f m c2.s) D Wx, ⟨n, c, c, rfl, rfl, O, Ext.refl c, p⟩, ?_⟩
  rintro m σ' H' ⟨cb, c2, h1, h2, O2, x2, p2⟩
  subst h1 h2
  cases m with
  | zero => exact p2.elim
  | succ m =>
    have p2 := PostS.from p2 x2
    unfold whileM at p2
    refine ⟨c2, rfl, rfl, O2, (PostS.bnd p2).imp fun c3 b hσ O3 x3 p3 => ?_⟩
    cases b with
    | false =>
      rw [if_neg Bool.false_ne_true] at p3 ⊢
      rw [← hσ]
      exact p3.next rfl O3 x3
    | true =>
      rw [if_pos rfl] at p3 ⊢
      refine ⟨fun σ4 H4 => ∃ cb c4, c4.σ = σ4 ∧ c4.H = H4 ∧ Ok (tx X) c4 ∧ Ext cb c4 ∧ PostS (tx X) cb (whileM ft f m c4.s) D Wx, ?_, ?_⟩
      · rintro σ4 H4 ⟨cb, c4, k1, k2, O4, x4, p4⟩
        exact ⟨m, Nat.lt_succ_self m, cb, c4, k1, k2, O4, x4, p4⟩
      · rw [← hσ]
        refine ⟨c3, rfl, rfl, O3, ?_⟩
        cases q2 : f c3.s with
        | stuck => simp only [q2] at p3; exact p3
        | exc C ns es s2 => simp only [q2] at p3; exact PostS.from p3 x3
        | ok fl s2 =>
          simp only [q2] at p3
          cases fl with
          | next =>
            intro c5 j2 O5 x5
            subst j2
            exact ⟨c2, c5, rfl, rfl, O5, x3.trans x5, p3⟩
          | cont =>
            intro c5 j2 O5 x5
            subst j2
            exact ⟨c2, c5, rfl, rfl, O5, x3.trans x5, p3⟩
          | brk => exact fun c5 j2 O5 x5 => p3 c5 j2 O5 (x3.trans x5)
          | ret w => exact PostS.from p3 x3⟩
end
end Z

namespace Z
open PySem L2

/-! ## Comprehensions -/
/-- the block's own names are not set -/
def wipeE (e : Env) : List Nat → Env
  | [] => e
  | i :: r => (wipeE e r).set i .un
def backE (e0 e : Env) : List Nat → Env
  | [] => e
  | i :: r => (backE e0 e r).set i (e0.getD i .un)
def calmE (e : Env) : List Nat → Bool
  | [] => true
  | i :: r => (match e[i]? with
    | some (.ow _) => false
    | some _ => true
    | none => false) && calmE e r
theorem wipeE_len (e : Env) : ∀ vs, (wipeE e vs).length = e.length
  | [] => rfl
  | i :: r => by show ((wipeE e r).set i .un).length = _; rw [List.length_set, wipeE_len e r]
theorem backE_len (e0 e : Env) : ∀ vs, (backE e0 e vs).length = e.length
  | [] => rfl
  | i :: r => by show ((backE e0 e r).set i _).length = _; rw [List.length_set, backE_len e0 e r]
theorem wipeE_in (e : Env) {j : Nat} : ∀ {vs}, j ∈ vs → (wipeE e vs)[j]? = none ∨ (wipeE e vs)[j]? = some .un
  | i :: r, h => by
    show ((wipeE e r).set i .un)[j]? = none ∨ ((wipeE e r).set i .un)[j]? = some .un
    by_cases q : j = i
    · subst q
      by_cases l : j < (wipeE e r).length
      · exact .inr (List.getElem?_set_self l)
      · exact .inl (by rw [List.getElem?_eq_none_iff, List.length_set]; omega)
    · rw [List.getElem?_set_ne (Ne.symm q)]
      exact wipeE_in e ((List.mem_cons.mp h).resolve_left q)
theorem wipeE_out (e : Env) {j : Nat} : ∀ {vs}, j ∉ vs → (wipeE e vs)[j]? = e[j]?
  | [], _ => rfl
  | i :: r, h => by
    have q : j ≠ i := fun z => h (by rw [z]; exact List.mem_cons_self)
    show ((wipeE e r).set i .un)[j]? = _
    rw [List.getElem?_set_ne (Ne.symm q)]
    exact wipeE_out e fun z => h (List.mem_cons_of_mem _ z)
theorem wipe_out (σ : St) {j : Nat} : ∀ {vs}, j ∉ vs → (wipe σ vs)[j]? = σ[j]?
  | [], _ => rfl
  | i :: r, h => by
    have q : j ≠ i := fun z => h (by rw [z]; exact List.mem_cons_self)
    show ((wipe σ r).set i none)[j]? = _
    rw [List.getElem?_set_ne (Ne.symm q)]
    exact wipe_out σ fun z => h (List.mem_cons_of_mem _ z)
theorem backE_out (e0 e : Env) {j : Nat} : ∀ {vs}, j ∉ vs → (backE e0 e vs)[j]? = e[j]?
  | [], _ => rfl
  | i :: r, h => by
    have q : j ≠ i := fun z => h (by rw [z]; exact List.mem_cons_self)
    show ((backE e0 e r).set i _)[j]? = _
    rw [List.getElem?_set_ne (Ne.symm q)]
    exact backE_out e0 e fun z => h (List.mem_cons_of_mem _ z)
theorem backE_in (e0 e : Env) {j : Nat} (l : j < e.length) : ∀ {vs}, j ∈ vs → (backE e0 e vs)[j]? = some (e0.getD j .un)
  | i :: r, h => by
    show ((backE e0 e r).set i _)[j]? = _
    by_cases q : j = i
    · subst q
      exact List.getElem?_set_self (by rw [backE_len]; exact l)
    · rw [List.getElem?_set_ne (Ne.symm q)]
      exact backE_in e0 e l ((List.mem_cons.mp h).resolve_left q)
theorem calmE_at {e : Env} {j : Nat} : ∀ {vs}, calmE e vs = true → j ∈ vs → ∃ sl, e[j]? = some sl ∧ ∀ c, sl ≠ .ow c
  | i :: r, h, m => by
    unfold calmE at h
    rw [Bool.and_eq_true] at h
    by_cases q : j = i
    · subst q
      have h1 := h.1
      cases e : e[j]? with
      | none => rw [e] at h1; cases h1
      | some sl =>
        refine ⟨sl, rfl, fun c z => ?_⟩
        rw [e, z] at h1
        cases h1
    · exact calmE_at h.2 ((List.mem_cons.mp m).resolve_left q)
theorem wipe_wipe (σ : St) (vs : List Nat) : wipe (wipe σ vs) vs = wipe σ vs := by
  apply List.ext_getElem?
  intro j
  by_cases q : j ∈ vs
  · have k : ∀ (τ : St), ∀ {vs : List Nat}, j ∈ vs → (wipe τ vs)[j]? = if j < τ.length then some none else none := by
      intro τ vs
      induction vs with
      | nil => intro h; cases h
      | cons i r ih =>
        intro h
        show ((wipe τ r).set i none)[j]? = _
        by_cases q : j = i
        · subst q
          by_cases l : j < τ.length
          · rw [if_pos l]; exact List.getElem?_set_self (by rw [wipe_length]; exact l)
          · rw [if_neg l, List.getElem?_eq_none_iff, List.length_set, wipe_length]; omega
        · rw [List.getElem?_set_ne (Ne.symm q)]
          exact ih ((List.mem_cons.mp h).resolve_left q)
    rw [k _ q, k _ q, wipe_length]
  · rw [wipe_out _ q]
section
variable {T : Tx} {c c0 c1 : Cf}
/-- the names of a block are not set -/
theorem Ok.wipe {vs : List Nat} (O : Ok T c) : Ok T { c with s := { c.s with e := wipeE c.s.e vs }, σ := L2.wipe c.σ vs } ∧ Ext c { c with s := { c.s with e := wipeE c.s.e vs }, σ := L2.wipe c.σ vs } ∧ ∀ b, Mu { c with s := { c.s with e := wipeE c.s.e vs }, σ := L2.wipe c.σ vs } b → Mu c b := by
  have at_ : ∀ {j : Nat} {sl : Slot}, (wipeE c.s.e vs)[j]? = some sl → sl ≠ .un → j ∉ vs ∧ c.s.e[j]? = some sl := fun {j sl} e n => by
    by_cases q : j ∈ vs
    · rcases wipeE_in c.s.e q with z | z
      · rw [z] at e; cases e
      · rw [z] at e; cases e; exact absurd rfl n
    · rw [wipeE_out _ q] at e
      exact ⟨q, e⟩
  have own : ∀ j b, Own { c with s := { c.s with e := wipeE c.s.e vs }, σ := L2.wipe c.σ vs } j b → Own c j b := fun j b ⟨⟨cl, e⟩, e2⟩ => by
    obtain ⟨q, e⟩ := at_ (show (wipeE c.s.e vs)[j]? = some (.ow cl) from e) (fun z => nomatch z)
    have e2 : (L2.wipe c.σ vs)[j]? = _ := e2
    rw [wipe_out _ q] at e2
    exact ⟨⟨cl, e⟩, e2⟩
  have mu : ∀ b, Mu { c with s := { c.s with e := wipeE c.s.e vs }, σ := L2.wipe c.σ vs } b → Mu c b := fun b m => m.elim .inl fun ⟨j, m⟩ => .inr ⟨j, own j b m⟩
  refine ⟨⟨O.le, O.len, O.cell, O.nd, fun j d e => ?_, fun j cl e => ?_, fun j k b x y => O.apart j k b (own j b x) (own k b y), fun j b x => O.out j b (own j b x), fun b m => O.free b (mu b m), ?_⟩,
    ⟨fun _ _ h => h, List.prefix_refl _, fun _ _ h _ => h, fun _ h => h, fun b m => .inl (mu b m), fun _ h => .inl h⟩, mu⟩
  · obtain ⟨q, e⟩ := at_ (show (wipeE c.s.e vs)[j]? = some (.fz d) from e) (fun z => nomatch z)
    show ∃ v, (L2.wipe c.σ vs)[j]? = _ ∧ _
    rw [wipe_out _ q]
    exact O.fz j d e
  · obtain ⟨q, e⟩ := at_ (show (wipeE c.s.e vs)[j]? = some (.ow cl) from e) (fun z => nomatch z)
    show ∃ v, (L2.wipe c.σ vs)[j]? = some (some (.ref v)) ∧ _
    rw [wipe_out _ q]
    exact O.ow j cl e
  · show (wipeE c.s.e vs).length = (L2.wipe c.σ vs).length
    rw [wipeE_len, wipe_length]
    exact O.elen
/-- .. and what they were, behind the block -/
theorem Ok.back {vs : List Nat} (O0 : Ok T c0) (hc : calmE c0.s.e vs = true) (O : Ok T c) (x : Ext c0 c) (hσ : L2.wipe c.σ vs = L2.wipe c0.σ vs) :
    Ok T { c with s := { c.s with e := backE c0.s.e c.s.e vs }, σ := c0.σ } ∧ Ext c0 { c with s := { c.s with e := backE c0.s.e c.s.e vs }, σ := c0.σ } ∧ ∀ b, Mu { c with s := { c.s with e := backE c0.s.e c.s.e vs }, σ := c0.σ } b → Mu c b := by
  have ln : c.s.e.length = c0.s.e.length := by
    rw [O.elen, O0.elen, ← wipe_length c.σ vs, hσ, wipe_length]
  have out : ∀ {j : Nat}, j ∉ vs → c.σ[j]? = c0.σ[j]? := fun {j} q => by rw [← wipe_out c.σ q, hσ, wipe_out _ q]
  have in_ : ∀ {j : Nat} {sl : Slot}, j ∈ vs → (backE c0.s.e c.s.e vs)[j]? = some sl → c0.s.e[j]? = some sl ∧ ∀ cl, sl ≠ .ow cl := fun {j sl} q e => by
    obtain ⟨s2, e1, n⟩ := calmE_at hc q
    rw [backE_in _ _ (by rw [ln]; exact (List.getElem?_eq_some_iff.mp e1).1) q, List.getD_eq_getElem?_getD, e1] at e
    cases e
    exact ⟨e1, n⟩
  have own : ∀ j b, Own { c with s := { c.s with e := backE c0.s.e c.s.e vs }, σ := c0.σ } j b → Own c j b := fun j b ⟨⟨cl, e⟩, e2⟩ => by
    have e : (backE c0.s.e c.s.e vs)[j]? = some (.ow cl) := e
    by_cases q : j ∈ vs
    · exact absurd rfl ((in_ q e).2 cl)
    · rw [backE_out _ _ q] at e
      exact ⟨⟨cl, e⟩, (out q).trans e2⟩
  have mu : ∀ b, Mu { c with s := { c.s with e := backE c0.s.e c.s.e vs }, σ := c0.σ } b → Mu c b := fun b m => m.elim .inl fun ⟨j, m⟩ => .inr ⟨j, own j b m⟩
  refine ⟨⟨O.le, O.len, O.cell, O.nd, fun j d e => ?_, fun j cl e => ?_, fun j k b x y => O.apart j k b (own j b x) (own k b y), fun j b x => O.out j b (own j b x), fun b m => O.free b (mu b m), ?_⟩,
    ⟨x.le, x.pre, x.keep, x.live, fun b m => x.mu b (mu b m), x.fz⟩, mu⟩
  · have e : (backE c0.s.e c.s.e vs)[j]? = some (.fz d) := e
    by_cases q : j ∈ vs
    · obtain ⟨v, e1, r⟩ := O0.fz j d (in_ q e).1
      exact ⟨v, e1, r.mono x.le x.pre⟩
    · rw [backE_out _ _ q] at e
      obtain ⟨v, e1, r⟩ := O.fz j d e
      exact ⟨v, (out q).symm.trans e1, r⟩
  · have e : (backE c0.s.e c.s.e vs)[j]? = some (.ow cl) := e
    by_cases q : j ∈ vs
    · exact absurd rfl ((in_ q e).2 cl)
    · rw [backE_out _ _ q] at e
      obtain ⟨v, e1, r⟩ := O.ow j cl e
      exact ⟨v, (out q).symm.trans e1, r⟩
  · show (backE c0.s.e c.s.e vs).length = c0.σ.length
    rw [backE_len, ln]
    exact O0.elen
end
/-- tests of a generator -/
structure STs (X : Cx) (ifs : List Expr) (f : M Bool) : Prop where
  pt : PTs X ifs (tST X noE f)
theorem PTs.imp {X : Cx} {ifs : List Expr} {t t' : TT} (h : PTs X ifs t) (k : ∀ σ H Q, t' σ H Q → t σ H Q) : PTs X ifs t' := ⟨fun pins s σ H Q I q => h.run pins s σ H Q I (k _ _ _ q)⟩
def yesM : M Bool := ret true
theorem sts_nil {X : Cx} : STs X [] yesM := ⟨PTs.imp pts_nil fun σ H Q ⟨c, e1, e2, O, p⟩ => by
  subst e1 e2
  exact p.here O⟩
theorem sts_one {X : Cx} {t : Expr} {f : M Bool} (h : ST X noE t f) : STs X [t] f := ⟨pts_one h.pt⟩
/-- one turn -/
def lcTurn (vs : List Nat) (tg : Tgf) (tt : M Bool) (fe : M W) (d : D) (acc : List D) (s : S) : Option (List D × S) := match tg d s with
  | some s1 => match tt s1 with
    | .ok true s2 => match datM fe s2 with
      | .ok y s3 => some (acc ++ [y], { s3 with e := wipeE s3.e vs })
      | _ => none
    | .ok false s2 => some (acc, { s2 with e := wipeE s2.e vs })
    | _ => none
  | none => none
def lcLoop (vs : List Nat) (tg : Tgf) (tt : M Bool) (fe : M W) : List D → List D → S → Option (List D × S)
  | [], acc, s => some (acc, s)
  | d :: ds, acc, s => match lcTurn vs tg tt fe d acc s with
    | some (acc1, s1) => lcLoop vs tg tt fe ds acc1 s1
    | none => none
def lcM (vs : List Nat) (fi : M (List D)) (tg : Tgf) (tt : M Bool) (fe : M W) : M W := bnd fi fun items s =>
  if calmE s.e vs = true ∧ items.length ≤ sizeLine then match lcLoop vs tg tt fe items [] { s with e := wipeE s.e vs } with
    | some (acc, s1) => .ok (.new (.lst acc)) { s1 with e := backE s.e s1.e vs }
    | none => .stuck
  else .stuck
theorem Post.some_ok {T : Tx} {c : Cf} {α : Type} {o : Out α} {a : α} {s : S} {R : Cf → α → Prop} {E : WX} (h : o = .ok a s) (k : ∀ c1, c1.s = s → c1.σ = c.σ → Ok T c1 → Ext c c1 → R c1 a) : Post T c o R E := by
  rw [h]; exact k
/-- the list that grows -/
theorem grow {T : Tx} {c0 c : Cf} {a : Addr} {o o' : HO} (O : Ok T c) (x : Ext c0 c) (z : c0.H a = none) (h : c.H a = some o) (hn : ∀ b, o ≠ .own b) (f : c.F a = none) (m : ¬ Mu c a) :
    Ok T { c with H := upd c.H a o' } ∧ Ext c0 { c with H := upd c.H a o' } := by
  have ne : ∀ b, b ≠ a → upd c.H a o' b = c.H b := fun b n => upd_ne n
  have kp : ∀ b, Mu c b → CellKeep c.H (upd c.H a o') b := fun b mb => ⟨ne b fun e => m (e ▸ mb), fun dx e => (ne dx fun q => by rw [q, h] at e; cases e; exact hn _ rfl).trans e⟩
  refine ⟨⟨fun b u e => (ne b fun q => by rw [q, f] at e; cases e).trans (O.le b u e), O.len, fun n b cl h1 h2 => (O.cell n b cl h1 h2).keep (kp b (.inl (List.mem_of_getElem? h1))), O.nd, O.fz, fun i cl e => ?_, O.apart, O.out, O.free, O.elen⟩,
    ⟨x.le, x.pre, fun b u e n => ?_, fun b n => ?_, x.mu, x.fz⟩⟩
  · obtain ⟨b, e1, q⟩ := O.ow i cl e
    exact ⟨b, e1, q.keep (kp b (.inr ⟨i, ⟨cl, e⟩, e1⟩))⟩
  · exact (ne b fun q => by rw [q, z] at e; cases e).trans (x.keep b u e n)
  · exact (show upd c.H a o' b ≠ none from by rw [ne b fun q => n (q ▸ z)]; exact x.live b n)
/-- it is nobody's while it grows -/
structure Loose (c : Cf) (a : Addr) (o : HO) : Prop where
  h : c.H a = some o
  f : c.F a = none
  m : ¬ Mu c a
theorem Loose.ext {T : Tx} {c c1 : Cf} {a : Addr} {o : HO} (L : Loose c a o) (hn : ∀ b, o ≠ .own b) (x : Ext c c1) : Loose c1 a o := by
  refine ⟨x.keep a o L.h L.m, ?_, fun m => ?_⟩
  · apply Classical.byContradiction
    intro q
    rcases x.fz a q with y | y | y | ⟨z, y⟩
    · exact y L.f
    · exact L.m y
    · rw [L.h] at y; cases y
    · rw [L.h] at y; cases y
      exact hn _ rfl
  · rcases x.mu a m with y | y
    · exact L.m y
    · rw [L.h] at y; cases y
section
variable {X : Cx} {Wx : WX} {elt tg iter : Expr} {ifs : List Expr} {scope : Scope} {own : List (Str × Nat)} {pos : Pos} {fi : M (List D)} {fg : Tgf} {ft : M Bool} {fe : M W} {is : List Nat}
theorem lc_of (h1 : ∀ i ∈ is, i ∈ own.map (·.2)) {σ : St} {H : Hp} {Q : VK} (h : tSE X Wx (lcM (own.map (·.2)) fi fg ft fe) σ H Q) : tLc (tSI X Wx fi) (tSG X is fg) (tST X noE ft) (tSE X noE fe) (own.map (·.2)) σ H Q := by
  generalize own.map (·.2) = vs at h1 h ⊢
  obtain ⟨c, e1, e2, O, p⟩ := h
  subst e1 e2
  refine ⟨c, rfl, rfl, O, (Post.bnd p).imp fun c1 items hσ O1 x1 p1 J wk D hD => ?_⟩
  by_cases hk : calmE c1.s.e vs = true ∧ items.length ≤ sizeLine
  rotate_left
  · rw [if_neg hk] at p1; exact p1.elim
  rw [if_pos hk] at p1
  obtain ⟨hcalm, hsz⟩ := hk
  cases hl : lcLoop vs fg ft fe items [] { c1.s with e := wipeE c1.s.e vs } with
  | none => rw [hl] at p1; exact p1.elim
  | some r =>
    obtain ⟨res, sf⟩ := r
    rw [hl] at p1
    dsimp only at p1
    obtain ⟨Ow, xw, mw⟩ := O1.wipe (vs := vs)
    obtain ⟨Oa, xa⟩ := Ow.alloc (o := .lst []) hD
    refine ⟨fun i m H => ∃ c2 acc us, c2.H = H ∧ c2.σ = wipe c.σ vs ∧ Ok (tx X) c2 ∧ Ext c1 c2 ∧ Loose c2 D (.lst us) ∧ Reps (tx X) c2.F c2.φ acc us ∧ acc.length ≤ i ∧ i ≤ items.length ∧ m = items.length - i ∧ lcLoop vs fg ft fe (items.drop i) acc c2.s = some (res, sf), ⟨items.length, { c1 with s := { c1.s with e := wipeE c1.s.e vs }, σ := wipe c1.σ vs, H := upd c1.H D (.lst []) }, [], [], rfl, by rw [hσ], Oa, xw.trans xa, ⟨upd_same, F_none (c := c1) O1 hD, fun m => Mu.none (c := c1) O1 hD (mw D m)⟩, rfl, Nat.le_refl _, Nat.zero_le _, rfl, hl⟩, ?_⟩
    rintro i m H ⟨c2, acc, us, rfl, hσ2, O2, x2, L2', rr, hai, hi, rfl, loop⟩
    obtain ⟨w1, w2⟩ := wk c2 O2 x2 i
    by_cases hlt : i < items.length
    · rw [List.drop_eq_getElem_cons hlt] at loop
      obtain ⟨go, yl⟩ := w1 items[i] (List.getElem?_eq_getElem hlt)
      unfold lcLoop at loop
      cases ht : lcTurn vs fg ft fe items[i] acc c2.s with
      | none => rw [ht] at loop; cases loop
      | some r2 =>
        obtain ⟨acc1, s1⟩ := r2
        rw [ht] at loop
        dsimp only at loop
        refine .inr ⟨go, fun H' => ∃ c3 us3, c3.H = H' ∧ c3.σ = wipe c.σ vs ∧ Ok (tx X) c3 ∧ Ext c1 c3 ∧ Loose c3 D (.lst us3) ∧ Reps (tx X) c3.F c3.φ acc1 us3 ∧ acc1.length ≤ i + 1 ∧ c3.s = s1, ?_, ?_⟩
        · rintro H' ⟨c3, us3, h1, h2, O3, x3, L3, r3, k1, k2⟩
          exact ⟨items.length - (i + 1), by omega, c3, acc1, us3, h1, h2, O3, x3, L3, r3, k1, hlt, rfl, by rw [k2]; exact loop⟩
        · intro y H' hy
          obtain ⟨c3, k1, k2, k3, O3, x3, r3⟩ := yl y H' hy
          unfold lcTurn at ht
          cases q : fg items[i] c2.s with
          | none => rw [q] at ht; cases ht
          | some sg =>
          rw [q] at ht
          dsimp only at ht
          refine ⟨c3, items[i], sg, k2.trans hσ2, k1, O3, r3, by rw [k3]; exact q, fun c4 j1 O4 x4 jw => ?_⟩
          have hw4 : wipe c4.σ vs = wipe c.σ vs := (jw vs h1).trans (wipe_wipe _ _)
          refine ⟨hw4, c4, rfl, rfl, O4, ?_⟩
          subst j1
          cases qt : ft c4.s with
          | stuck => rw [qt] at ht; cases ht
          | exc C ns es s2 => rw [qt] at ht; cases ht
          | ok b s2 =>
          rw [qt] at ht
          intro c5 j3 hσ5 O5 x5
          have hw5 : wipe c5.σ vs = wipe c.σ vs := by rw [hσ5]; exact hw4
          have x25 := x3.trans (x4.trans x5)
          have L5 := L2'.ext (T := tx X) (fun b z => nomatch z) x25
          cases b with
          | false =>
            show ite _ _ _
            rw [if_neg Bool.false_ne_true]
            simp only [Option.some.injEq, Prod.mk.injEq] at ht
            obtain ⟨e1, e2⟩ := ht
            obtain ⟨O6, x6, m6⟩ := O5.wipe (vs := vs)
            refine ⟨_, us, (by rfl), hw5, O6, x2.trans (x25.trans x6), ⟨L5.h, L5.f, fun m => L5.m (m6 _ m)⟩, ?_, by rw [← e1]; omega, by rw [← e2, ← j3]⟩
            rw [← e1]
            exact rr.mono x25.le x25.pre
          | true =>
            show ite _ _ _
            rw [if_pos rfl]
            dsimp only at ht
            refine ⟨c5, hσ5, rfl, O5, ?_⟩
            rw [← j3] at ht
            unfold datM Z.bnd at ht
            cases qe : fe c5.s with
            | stuck => rw [qe] at ht; cases ht
            | exc C ns es s2 => rw [qe] at ht; cases ht
            | ok w s3 =>
            rw [qe] at ht
            dsimp only at ht
            intro c6 j4 hσ6 O6 x6 v rv
            rw [← j4] at ht
            cases qd : toD w c6.s with
            | stuck => rw [qd] at ht; cases ht
            | exc C ns es s2 => rw [qd] at ht; cases ht
            | ok y s4 =>
            rw [qd] at ht
            simp only [Option.some.injEq, Prod.mk.injEq] at ht
            obtain ⟨e1, e2⟩ := ht
            obtain ⟨c7, d, z1, z2, O7, x7, r7, z3, z4⟩ := post_toD (R := fun c d => d = y ∧ c.s = s4) (E := noE) O6 x6 hσ6 rv (by rw [qd]; exact fun c1 z1 _ _ _ => ⟨rfl, z1⟩)
            subst z3
            have x27 := x25.trans x7
            have L7 := L2'.ext (T := tx X) (fun b z => nomatch z) x27
            have hDc : c1.H D = none := hD
            obtain ⟨O8, x8⟩ := grow (o' := .lst (us ++ [v])) O7 (x2.trans x27) hDc L7.h (fun b z => nomatch z) L7.f L7.m
            obtain ⟨O9, x9, m9⟩ := O8.wipe (vs := vs)
            have hl : us.length = acc.length := rr.len
            rw [← z2]
            refine ⟨us, L7.h, by rw [hl]; omega, _, us ++ [v], (by rfl), ?_, O9, x8.trans x9, ⟨upd_same, L7.f, fun m => L7.m (show Mu c7 D from m9 D m)⟩, ?_, ?_, ?_⟩
            · show wipe c7.σ vs = _
              rw [z1, hσ6]; exact hw5
            · rw [← e1]
              exact (rr.mono x27.le x27.pre).append ⟨v, [], rfl, r7, rfl⟩
            · rw [← e1, List.length_append]
              simp only [List.length_cons, List.length_nil]
              omega
            · rw [← e2, ← z4]
    · have e : i = items.length := by omega
      subst e
      rw [List.drop_length] at loop
      unfold lcLoop at loop
      simp only [Option.some.injEq, Prod.mk.injEq] at loop
      obtain ⟨e1, e2⟩ := loop
      obtain ⟨O3, x3, m3⟩ := Ok.back O1 hcalm O2 x2 (by rw [hσ2, wipe_wipe, hσ])
      refine .inl ⟨w2 (Nat.le_refl _), ?_⟩
      have z : c.H D = none := Classical.byContradiction fun q => x1.live D q hD
      exact p1 { c2 with s := { c2.s with e := backE c1.s.e c2.s.e vs }, σ := c1.σ } (by rw [← e2]) hσ O3 (x1.trans x3) _ ⟨D, rfl, ⟨us, L2'.h, by rw [← e1]; exact rr⟩, L2'.f, fun m => L2'.m (m3 D m), z⟩
/-- a judgement within a block -/
abbrev Blk (X : Cx) (scope : Scope) (P : Cx → Prop) : Prop := ∀ (s : Shared) (H : Hp) (C : Addr) (cl : List (Str × Addr)) (fp : List Addr), P (X.blk s H scope (compEnvC scope cl C X.env) fp)
theorem se_lc {sc : Scope} (own : List (Str × Nat)) (hi : SI X Wx tg iter fi) (hg : Blk X sc fun Y => SG Y tg is fg) (ht : Blk X sc fun Y => STs Y ifs ft) (he : Blk X sc fun Y => SE Y noE elt fe) (hN : X.N.Nodup)
    (ok : blkC X.N X.env.scope sc own = true := by kernel_rfl) (h1 : ∀ i ∈ is, i ∈ own.map (·.2) := by decide) (hc : X.calm = true := by rfl) (hs : ∀ x, foldedSetIterable iter X.env x = pure x := by intro _; rfl) :
    SE X Wx (.ListComp elt [⟨tg, iter, ifs, 0⟩] sc pos) (lcM (own.map (·.2)) fi fg ft fe) := ⟨PE.imp (pe_lc hc hN hi.pi (blkOk_by ok) (fun s H C cl fp => (hg s H C cl fp).pg) (fun s H C cl fp => (ht s H C cl fp).pt) (fun s H C cl fp => (he s H C cl fp).pe) hs) fun σ H Q h => lc_of h1 h⟩
theorem ss_setLc (i : Nat) {y : Str} {py spos : Pos} {sc : Scope} (own : List (Str × Nat)) (hi : SI X Wx tg iter fi) (hg : Blk X sc fun Y => SG Y tg is fg) (ht : Blk X sc fun Y => STs Y ifs ft) (he : Blk X sc fun Y => SE Y noE elt fe) (hN : X.N.Nodup)
    (hsw : swapsWith (.ListComp elt [⟨tg, iter, ifs, 0⟩] sc pos) (some (.Name y py)) spos.line X.env = pure true)
    (hy : X.N[i]? = some y := by rfl) (hyl : X.env.scope.names.lookup y = some .local := by rfl)
    (ok : blkC X.N X.env.scope sc own = true := by kernel_rfl) (h1 : ∀ i ∈ is, i ∈ own.map (·.2) := by decide) (hc : X.calm = true := by rfl) (hs : ∀ x, foldedSetIterable iter X.env x = pure x := by intro _; rfl) :
    SS X Wx (.Assign [.Name y py] (.ListComp elt [⟨tg, iter, ifs, 0⟩] sc pos) spos) (asgM i (lcM (own.map (·.2)) fi fg ft fe)) := ⟨PS.imp (ps_setLc hc hN hy hyl hsw hi.pi (blkOk_by ok) (fun s H C cl fp => (hg s H C cl fp).pg) (fun s H C cl fp => (ht s H C cl fp).pt) (fun s H C cl fp => (he s H C cl fp).pe) hs) fun D σ H ⟨c, e1, e2, O, p⟩ => by
  subst e1 e2
  exact lc_of h1 ⟨c, rfl, rfl, O, (PostS.bnd p).imp fun c1 w hσ O1 x p1 v r => by
    show D.nx (c.σ.set i (some v)) c1.H
    rw [← hσ]
    exact post_set O1 x r p1⟩⟩
end
end Z

namespace Z
open PySem L2

/-! ## A module's constants -/
def kD (d : D) : M W := ret (.val d)
section
variable {X : Cx} {Wx : WX} {e a b : Expr} {es : List Expr} {pos p : Pos} {fa fb fe fo fi : M W}
theorem se_glob (d : D) {x : Str} {v : V} {u : Value} (hg : Gl X x) (hm : X.mg x = some u) (r : RelV v u) (hd : ∀ F φ, Rep (tx X) F φ d v) (hdb : (x == ("__debug__" : Str)) = false := by decide) : SE X Wx (.Name x pos) (kD d) :=
  ⟨PE.imp (pe_glob hg hm r hdb) fun σ H Q ⟨c, e1, e2, O, q⟩ => by
    subst e1 e2
    exact q.here O v (hd _ _)⟩
theorem se_globI {x : Str} {i : Int} (hg : Gl X x) (hm : ∃ t, X.mg x = some (.int i t)) (hdb : (x == ("__debug__" : Str)) = false := by decide) : SE X Wx (.Name x pos) (kI i) := by
  obtain ⟨t, hm⟩ := hm
  exact se_glob (.int i) (v := .int i) hg hm ⟨t, rfl⟩ (fun _ _ => rfl) hdb
theorem se_globS {x y : Str} (hg : Gl X x) (hm : ∃ t, X.mg x = some (.str y t)) (hdb : (x == ("__debug__" : Str)) = false := by decide) : SE X Wx (.Name x pos) (kS y) := by
  obtain ⟨t, hm⟩ := hm
  exact se_glob (.str y) (v := .str y) hg hm ⟨t, rfl⟩ (fun _ _ => rfl) hdb
theorem se_globC {C x : Str} (hg : Gl X x) (hm : ∃ A, X.mg x = some (.ref A)) (hc : C = x) (hdb : (x == ("__debug__" : Str)) = false := by decide) : SE X Wx (.Name x pos) (kD (.cls C)) := by
  obtain ⟨A, hm⟩ := hm
  exact se_glob (.cls C) (v := .ref A) hg hm rfl (fun _ _ => ⟨A, by rw [hc]; exact hm, rfl⟩) hdb
theorem se_bltTy {n : String} {x : Str} (hg : Gl X x) (hm : X.mg x = none) (hv : bootBuiltins x = some (.type n)) (hn : x ≠ "__name__" := by decide) (hdb : (x == ("__debug__" : Str)) = false := by decide) : SE X Wx (.Name x pos) (kD (.ty n)) :=
  ⟨PE.imp (pe_bltn hg hm hv (v := .ty n) rfl hn hdb) fun σ H Q ⟨c, e1, e2, O, q⟩ => by
    subst e1 e2
    exact q.here O _ rfl⟩
/-- never reached -/
theorem se_no {e : Expr} : SE X Wx e (fun _ => .stuck) := ⟨⟨fun pins s σ H Q I ⟨c, e1, e2, O, q⟩ => q.elim⟩⟩
theorem ss_no {st : Stmt} : SS X Wx st (fun _ => .stuck) := ⟨⟨fun pins s σ H D I ⟨c, e1, e2, O, q⟩ => q.elim⟩⟩
/-! ## name op= e -/
def augM (i : Nat) (g : D → D → Option W) (fe : M W) : M Fl := fun s => match s.e[i]? with
  | some (.fz d) => bnd fe (fun y => bnd (view y) fun dy => bnd (opt (g d dy)) (setM i)) s
  | _ => .stuck
theorem PostS.view {T : Tx} {c0 c : Cf} {H0 : Hp} {w : W} {v : V} {k : D → M Fl} {D0 : Ends} {E : WX} (h : PostS T c0 (Z.bnd (Z.view w) k c.s) D0 E) (O : Ok T c) (x : Ext c0 c) (r : RepW T H0 c w v) : ∃ d, RepV T c d v ∧ PostS T c (k d c.s) D0 E :=
  post_view O (Ext.refl c) rfl r (PostS.bnd (h.from x))
theorem PostS.opt {α : Type} {T : Tx} {c0 : Cf} {o : Option α} {k : α → M Fl} {s : S} {D0 : Ends} {E : WX} (h : PostS T c0 (Z.bnd (Z.opt o) k s) D0 E) : ∃ a, o = some a ∧ PostS T c0 (k a s) D0 E := by
  cases o with
  | none => exact h.elim
  | some a => exact ⟨a, rfl, h⟩
theorem PostS.updW {α : Type} {T : Tx} {c c0 : Cf} {H0 : Hp} {w : W} {v : V} {k : Cell → Option (Cell × α)} {m : α → M Fl} {D0 : Ends} {E : WX} (O : Ok T c) (x : Ext c0 c) (r : RepW T H0 c w v) (h : PostS T c0 (Z.bnd (Z.updW w k) m c.s) D0 E) :
    ∃ a cl cl' y, v = .ref a ∧ CellAt T c.F c.φ c.H cl a ∧ k cl = some (cl', y) ∧ ∀ o, (∀ z, o ≠ .own z) → CellAt T c.F c.φ (upd c.H a o) cl' a → ∃ c1, c1.H = upd c.H a o ∧ c1.F = c.F ∧ c1.φ = c.φ ∧ c1.σ = c.σ ∧ Ok T c1 ∧ Ext c c1 ∧ PostS T c (m y c1.s) D0 E := by
  cases w with
  | new cl => exact h.elim
  | val d => exact post_updW O (Ext.refl c) rfl (show RepA T c (.val d) v from r) (PostS.bnd (h.from x))
  | slot i => exact post_updW O (Ext.refl c) rfl (show RepA T c (.slot i) v from r) (PostS.bnd (h.from x))
theorem ss_aug (i : Nat) {op : Operator} {g : D → D → Option W} {x : Str} {pos' : Pos} (ho : OpOk X (inplaceOp op) g) (he : SE X Wx e fe) (hN : X.N.Nodup) (hi : X.N[i]? = some x := by rfl) (hx : Loc X.env.scope x := by first | exact Or.inl rfl | exact Or.inr rfl)
    (hf : X.fn x = true ∨ X.env.scope.names.lookup x = some .local := by first | exact .inl rfl | exact .inr rfl | assumption) : SS X Wx (.AugAssign (.Name x pos') op e pos) (augM i g fe) := by
  obtain ⟨r, h1, h2⟩ := ho
  exact ⟨PS.imp (ps_aug hN hi hx he.pe (ti := r) (fun pins s σ H x y v u Q I rx ry q => augR h1 I rx ry q) hf) fun D σ H ⟨c, e1, e2, O, p⟩ => by
    subst e1 e2
    unfold augM at p
    cases q : c.s.e[i]? with
    | none => simp only [q] at p; exact p.elim
    | some sl =>
    simp only [q] at p
    cases sl with
    | un => exact p.elim
    | ow cl => exact p.elim
    | fz d =>
    obtain ⟨v, ev, rv⟩ := O.fz i d q
    refine ⟨v, ev, c, rfl, rfl, O, (PostS.bnd p).imp fun c1 w hσ O1 x1 p1 u ru => ?_⟩
    obtain ⟨dy, ry, p2⟩ := p1.view O1 x1 ru
    obtain ⟨w2, eg, p3⟩ := p2.opt
    refine h2 c1 d dy v u w2 _ O1 (.dat (rv.mono x1.le x1.pre)) ry eg fun c2 z k1 k2 O2 x2 r2 => ?_
    rw [← k1] at p3
    rw [← hσ, ← k2]
    exact post_set O2 x2 r2 p3⟩
/-! ## o[i] = e -/
/-- what is stored where, in a cell -/
def PsOk (X : Cx) (g : D → D → Cell → Option Cell) : Prop :=
  ∃ t, PSet X t ∧ ∀ c a cl k kv d v cl' Q, Ok (tx X) c → CellAt (tx X) c.F c.φ c.H cl a → RepV (tx X) c k kv → Rep (tx X) c.F c.φ d v → g k d cl = some cl' → (∀ o, (∀ z, o ≠ .own z) → CellAt (tx X) c.F c.φ (upd c.H a o) cl' a → Q (upd c.H a o)) → t (.ref a) kv v c.H Q
def subM (g : D → D → Cell → Option Cell) (fo fi fe : M W) : M Fl := bnd fe fun w => bnd (toD w) fun d => bnd fo fun x => bnd fi fun y => bnd (view y) fun k => bnd (updW x fun cl => (g k d cl).map fun cl' => (cl', ())) fun _ => ret .next
theorem ss_sub {g : D → D → Cell → Option Cell} {o i : Expr} {spos : Pos} (hp : PsOk X g) (he : SE X Wx e fe) (ho : SE X Wx o fo) (hi : SE X Wx i fi) (ha : ∀ v, assign (.Subscript o i spos) X.env v = (do
      let ov ← holding [v] (eval o X.env)
      let iv ← holding [v, ov] (eval i X.env)
      standAt spos
      holding [v, ov, iv] (setItem ov iv v)
      release [v, ov, iv] []) := by intro _; rfl) (hs : swapsWithSole [.Subscript o i spos] e pos.line X.env = pure false := by rfl) (hw : swappedStores [.Subscript o i spos] e X.env = pure none := by rfl)
    (h1 : (assignEach [.Subscript o i spos] X.env).map (·.2) = [assign (.Subscript o i spos) X.env] := by rfl) : SS X Wx (.Assign [.Subscript o i spos] e pos) (subM g fo fi fe) := by
  obtain ⟨t, k1, k2⟩ := hp
  exact ⟨PS.imp (ps_asg he.pe (pg_sub ho.pe hi.pe k1 ha) hs hw h1) fun D σ H ⟨c, e1, e2, O, p⟩ => by
    subst e1 e2
    refine ⟨c, rfl, rfl, O, (PostS.bnd p).imp fun c1 w hσ O1 x1 p1 v rv => ?_⟩
    obtain ⟨c2, d, z1, z2, O2, x2, r2, p2⟩ := p1.toD O1 x1 rv
    refine ⟨c2, z1.trans hσ, z2, O2, (PostS.bnd (p2.from x2)).imp fun c3 wx hσ3 O3 x3 p3 ov rx => ?_⟩
    refine ⟨c3, hσ3.trans (z1.trans hσ), rfl, O3, (PostS.bnd (p3.from x3)).imp fun c4 wy hσ4 O4 x4 p4 iv ry => ?_⟩
    obtain ⟨kd, rk, p5⟩ := p4.view O4 x4 ry
    have rx4 : RepW (tx X) c1.H c4 wx ov := rx.ext O3 x4 hσ4
    obtain ⟨a, cl, cl', y, rfl, hc, hk, fin⟩ := p5.updW O4 (Ext.refl c4) rx4
    cases hg : g kd d cl with
    | none => rw [hg] at hk; cases hk
    | some cl2 =>
    rw [hg] at hk
    cases hk
    have x34 := x3.trans x4
    refine k2 c4 a cl kd iv d v cl' _ O4 hc rk (r2.mono x34.le x34.pre) hg fun o ho hc' => ?_
    obtain ⟨c5, j1, j2, j3, j4, O5, x5, p6⟩ := fin o ho hc'
    rw [← j1]
    have hs5 : c5.σ = c.σ := j4.trans (hσ4.trans (hσ3.trans (z1.trans hσ)))
    rw [← hs5]
    exact p6.next rfl O5 x5⟩
def setG (k d : D) (cl : Cell) : Option Cell := match k, cl with
  | .int i, .lst xs => match ixN xs.length i with
    | some j => some (.lst (xs.set j d))
    | none => none
  | _, _ => none
theorem po_set : PsOk X setG := by
  refine ⟨_, set_list, fun c a cl k kv d v cl' Q O hc rk rd e fin => ?_⟩
  unfold setG at e
  split at e
  · rename_i i xs
    split at e
    · rename_i j hj
      cases e
      obtain ⟨us, hu, r⟩ := hc
      refine ⟨a, us, i, j, rfl, rk.int, hu, by rw [r.len]; exact hj, fin (.lst (us.set j v)) (fun z q => nomatch q) ⟨_, upd_same, r.set j rd⟩⟩
    · cases e
  · cases e
end
end Z

namespace Z
open PySem L2

/-! ## in place -/
def iaddG : D → D → Option W
  | .int i, .int j => some (.val (.int (i + j)))
  | .str x, .str y => if x.length + y.length ≤ sizeLine then some (.val (.str (x ++ y))) else none
  | _, _ => none
def imulG : D → D → Option W
  | .int i, .int j => if (-(2 ^ 64) < i ∧ i < 2 ^ 64) ∨ (-(2 ^ 64) < j ∧ j < 2 ^ 64) then some (.val (.int (i * j))) else none
  | _, _ => none
section
variable {X : Cx}
theorem oo_iadd : OpOk X (inplaceOp .Add) iaddG := by
  refine ⟨_, iop_add.or iop_add_str, fun c d1 d2 v1 v2 w Q O r1 r2 q f => ?_⟩
  cases d1 <;> cases d2 <;> simp only [iaddG, reduceCtorEq, Option.some.injEq, Option.ite_none_right_eq_some] at q
  · subst q
    exact .inl ⟨_, _, r1.int, r2.int, f.sc O rfl⟩
  · obtain ⟨z, rfl⟩ := q
    exact .inr ⟨_, _, r1.str, r2.str, z, f.sc O rfl⟩
theorem oo_isub : OpOk X (inplaceOp .Sub) subG := .ints0 iop_sub fun d1 d2 w q => by
  cases d1 <;> cases d2 <;> simp only [subG, reduceCtorEq, Option.some.injEq] at q
  exact ⟨_, _, rfl, rfl, q.symm⟩
theorem oo_imul : OpOk X (inplaceOp .Mult) imulG := .ints iop_mul fun d1 d2 w q => by
  cases d1 <;> cases d2 <;> simp only [imulG, reduceCtorEq, Option.some.injEq, Option.ite_none_right_eq_some] at q
  exact ⟨_, _, rfl, rfl, q.1, q.2.symm⟩
end
/-! ## a, b = x, y -/
/-- a name's object is given up, a new one stays new -/
def keepW (w : W) : M W := match w with
  | .slot i => fun s => match s.e[i]? with
    | some (.fz d) => .ok (.val d) s
    | some (.ow c) => .ok (.val c.toD) { s with e := s.e.set i (.fz c.toD) }
    | _ => .stuck
  | w => ret w
def put (i : Nat) (w : W) (s : S) : Option S := if i < s.e.length then match w with
  | .val d => some { s with e := s.e.set i (.fz d) }
  | .new c => some { s with e := s.e.set i (.ow c) }
  | .slot _ => none
  else none
def par2M (i j : Nat) (fa fb : M W) : M Fl := bnd fa fun x => bnd (keepW x) fun x => bnd fb fun y => bnd (keepW y) fun y => stM fun s => match put i x s with
  | some s1 => put j y s1
  | none => none
section
variable {T : Tx} {c c0 : Cf} {H0 : Hp} {w : W} {v : V} {D0 : Ends} {E : WX}
theorem PostS.bnd2 {α : Type} {f : M α} {k : α → M Fl} (h : PostS T c0 (Z.bnd f k c.s) D0 E) (x : Ext c0 c) (hσ : c.σ = c0.σ) : Post T c (f c.s) (fun c1 a => Ext c0 c1 ∧ PostS T c0 (k a c1.s) D0 E) E := by
  unfold Z.bnd at h
  cases e : f c.s with
  | ok a s1 =>
    rw [e] at h
    exact fun c1 e1 e2 O y => by
      subst e1
      exact ⟨x.trans y, h⟩
  | exc C ns ds s1 =>
    rw [e] at h
    exact fun c2 A d us e1 e2 O x2 => h c2 A d us e1 O (x.trans x2)
  | stuck => rw [e] at h; exact h
theorem PostS.keepW {k : W → M Fl} (h : PostS T c0 (Z.bnd (Z.keepW w) k c.s) D0 E) (O : Ok T c) (x : Ext c0 c) (r : RepW T H0 c w v) :
    ∃ c1 w1, c1.σ = c.σ ∧ c1.H = c.H ∧ Ok T c1 ∧ Ext c0 c1 ∧ Ext c c1 ∧ RepW T H0 c1 w1 v ∧ (∀ i, w1 ≠ .slot i) ∧ PostS T c0 (k w1 c1.s) D0 E := by
  cases w with
  | val d => exact ⟨c, .val d, rfl, rfl, O, x, Ext.refl c, r, (fun i z => nomatch z), h⟩
  | new cl => exact ⟨c, .new cl, rfl, rfl, O, x, Ext.refl c, r, (fun i z => nomatch z), h⟩
  | slot i =>
    have r : c.σ[i]? = some (some v) := r
    unfold Z.bnd Z.keepW at h
    cases e : c.s.e[i]? with
    | none => simp only [e] at h; exact h.elim
    | some sl =>
      simp only [e] at h
      cases sl with
      | un => exact h.elim
      | fz d =>
        obtain ⟨v', e1, r'⟩ := O.fz i d e
        rw [r] at e1
        cases e1
        exact ⟨c, .val d, rfl, rfl, O, x, Ext.refl c, r', (fun i z => nomatch z), h⟩
      | ow cl =>
        obtain ⟨a, e1, r'⟩ := O.ow i cl e
        rw [r] at e1
        cases e1
        obtain ⟨O1, x1⟩ := O.drop e r
        exact ⟨_, .val cl.toD, (by rfl), (by rfl), O1, x.trans x1, x1, frF_rep O r', (fun i z => nomatch z), h⟩
/-- one of them is stored -/
theorem put_ok {s1 : S} {i : Nat} (O : Ok T c) (r : RepW T H0 c w v) (h : put i w c.s = some s1) :
    Ok T { c with s := s1, σ := c.σ.set i (some v) } ∧ (∀ c0 : Cf, Ext c0 c → (∀ a, H0 a = none → c0.H a = none) → Ext c0 { c with s := s1, σ := c.σ.set i (some v) }) ∧ ∀ b, Mu { c with s := s1, σ := c.σ.set i (some v) } b → Mu c b ∨ ∃ cl, w = .new cl ∧ v = .ref b := by
  unfold put at h
  by_cases hi : i < c.s.e.length
  · rw [if_pos hi] at h
    have hi' : i < c.σ.length := by rw [← O.elen]; exact hi
    cases w with
    | slot j => cases h
    | val d =>
      cases h
      obtain ⟨O1, x1⟩ := set_fz O hi r
      refine ⟨O1, fun c0 x _ => x.trans x1, fun b m => .inl ?_⟩
      rcases m with m | ⟨j, ⟨cl, m1⟩, m2⟩
      · exact .inl m
      · have m1 : (c.s.e.set i (.fz d))[j]? = some (.ow cl) := m1
        have m2 : (c.σ.set i (some v))[j]? = some (some (.ref b)) := m2
        by_cases q : j = i
        · subst q
          rw [List.getElem?_set_self hi] at m1
          cases m1
        · rw [List.getElem?_set_ne (Ne.symm q)] at m1 m2
          exact .inr ⟨j, ⟨cl, m1⟩, m2⟩
    | new cl =>
      cases h
      obtain ⟨a, rfl, hc, f, n, z⟩ := r
      obtain ⟨O1, x1⟩ := set_ow O hi hc f n
      refine ⟨O1, fun c0 x hz => x1 c0 x (hz a z), fun b m => ?_⟩
      rcases m with m | ⟨j, ⟨cl', m1⟩, m2⟩
      · exact .inl (.inl m)
      · have m1 : (c.s.e.set i (.ow cl))[j]? = some (.ow cl') := m1
        have m2 : (c.σ.set i (some (.ref a)))[j]? = some (some (.ref b)) := m2
        by_cases q : j = i
        · subst q
          rw [List.getElem?_set_self hi'] at m2
          cases m2
          exact .inr ⟨cl, rfl, rfl⟩
        · rw [List.getElem?_set_ne (Ne.symm q)] at m1 m2
          exact .inl (.inr ⟨j, ⟨cl', m1⟩, m2⟩)
  · rw [if_neg hi] at h
    cases h
/-- a value that stays, while another is stored -/
theorem put_stay {s1 : S} {i : Nat} {H1 : Hp} {w2 : W} {u : V} (O : Ok T c) (r : RepW T H0 c w v) (h : put i w c.s = some s1) (r2 : RepW T H1 c w2 u) (hs : ∀ i, w2 ≠ .slot i) (hd : ∀ cl a, w = .new cl → v = .ref a → H1 a ≠ none) : RepW T H1 { c with s := s1, σ := c.σ.set i (some v) } w2 u := by
  cases w2 with
  | val d => exact r2
  | slot j => exact absurd rfl (hs j)
  | new cl =>
    obtain ⟨a, rfl, hc, f, n, z⟩ := r2
    refine ⟨a, rfl, hc, f, fun m => ?_, z⟩
    rcases (put_ok O r h).2.2 a m with m | ⟨cl2, e1, e2⟩
    · exact n m
    · exact hd cl2 a e1 e2 z
end
section
variable {X : Cx} {Wx : WX} {a b : Expr} {pos : Pos} {fa fb : M W}
theorem par_core {i j : Nat} {c : Cf} {D : Ends} {Q : List V → Hp → Prop} (O : Ok (tx X) c) (p : PostS (tx X) c (par2M i j fa fb c.s) D Wx)
    (fin : ∀ v w c6, c6.σ = (c.σ.set i (some v)).set j (some w) → Ok (tx X) c6 → Ext c c6 → PostS (tx X) c (.ok .next c6.s) D Wx → Q [v, w] c6.H) : tCons (tSE X Wx fa) (tCons (tSE X Wx fb) tNil) c.σ c.H Q := by
  refine ⟨c, rfl, rfl, O, (PostS.bnd2 p (Ext.refl c) rfl).imp fun c1 w hσ O1 x1 ⟨_, p1⟩ v rv => ?_⟩
  obtain ⟨c2, w1, z1, z2, O2, x2, x12, r2, n2, p2⟩ := p1.keepW O1 x1 rv
  rw [← z2]
  refine ⟨c2, z1.trans hσ, rfl, O2, (PostS.bnd2 p2 x2 (z1.trans hσ)).imp fun c3 w3 hσ3 O3 x3 ⟨x03, p3⟩ u ru => ?_⟩
  obtain ⟨c4, w4, z3, z4, O4, x04, x34, r4, n4, p4⟩ := p3.keepW O3 x03 ru
  obtain ⟨s1, e, p5⟩ := p4.stM
  have r14 : RepW (tx X) c.H c4 w1 v := r2.ext O2 (x3.trans x34) (z3.trans hσ3)
  cases e1 : put i w1 c4.s with
  | none => rw [e1] at e; cases e
  | some s2 =>
  rw [e1] at e
  obtain ⟨O5, x5, _⟩ := put_ok O4 r14 e1
  have r5 := put_stay O4 r14 e1 r4 n4 fun cl A k1 k2 => by
    subst k1
    obtain ⟨A', k3, k4, _⟩ := r2
    rw [k2] at k3
    cases k3
    obtain ⟨o, k5, _⟩ := k4.there
    rw [k5]
    exact fun z => nomatch z
  obtain ⟨O6, x6, _⟩ := put_ok O5 r5 e
  have es : c4.σ = c.σ := z3.trans (hσ3.trans (z1.trans hσ))
  show Q [v, u] c3.H
  rw [← z4]
  exact fin v u { c4 with s := s1, σ := (c4.σ.set i (some v)).set j (some u) } (by show (c4.σ.set i (some v)).set j (some u) = _; rw [es]) O6 (x6 c (x5 c x04 fun _ h => h) fun A h => Classical.byContradiction fun q => x2.live A q h) p5
theorem ss_par2 (i j : Nat) {x y : Str} {px py pt : Pos} {kt k2 pt2} (ha : SE X Wx a fa) (hb : SE X Wx b fb) (hN : X.N.Nodup) (hc : X.calm = true := by rfl) (hi : X.N[i]? = some x := by rfl) (hj : X.N[j]? = some y := by rfl) (hij : i ≠ j := by decide)
    (hx : X.env.scope.names.lookup x = some .local := by rfl) (hy : X.env.scope.names.lookup y = some .local := by rfl)
    (hw : swappedStores [.Tuple [.Name x px, .Name y py] kt pt] (.Tuple [a, b] k2 pt2) X.env = pure (some [x, y]) := by rfl)
    (hs : swapsWithSole [.Tuple [.Name x px, .Name y py] kt pt] (.Tuple [a, b] k2 pt2) pos.line X.env = pure false := by rfl)
    (hs1 : starEach [a, b] X.env = (false, eval a X.env) :: starEach [b] X.env := by rfl) (hs2 : starEach [b] X.env = (false, eval b X.env) :: starEach [] X.env := by rfl) :
    SS X Wx (.Assign [.Tuple [.Name x px, .Name y py] kt pt] (.Tuple [a, b] k2 pt2) pos) (par2M i j fa fb) := ⟨PS.imp (ps_par hc hN hi hj hij hx hy (pa_cons ha.pe (pa_cons hb.pe pa_nil hs2) hs1) hw hs) fun D σ H ⟨c, e1, e2, O, p⟩ => by
  subst e1 e2
  refine par_core O p fun v w c6 k1 O6 x6 p6 => ⟨v, w, rfl, ?_⟩
  rw [← k1]
  exact p6.next rfl O6 x6⟩
/-- .. names that a block holds -/
theorem ss_parC (i j : Nat) {x y : Str} {px py pt : Pos} {kt k2 pt2} (ha : SE X Wx a fa) (hb : SE X Wx b fb) (hN : X.N.Nodup) (hc : X.calm = true := by rfl) (hi : X.N[i]? = some x := by rfl) (hj : X.N[j]? = some y := by rfl)
    (hx : Loc X.env.scope x := by first | exact Or.inl rfl | exact Or.inr rfl) (hy : Loc X.env.scope y := by first | exact Or.inl rfl | exact Or.inr rfl)
    (hfx : X.fn x = true ∨ X.env.scope.names.lookup x = some .local := by first | exact .inl rfl | exact .inr rfl) (hfy : X.fn y = true ∨ X.env.scope.names.lookup y = some .local := by first | exact .inl rfl | exact .inr rfl)
    (hw : swappedStores [.Tuple [.Name x px, .Name y py] kt pt] (.Tuple [a, b] k2 pt2) X.env = pure none := by rfl)
    (hs : swapsWithSole [.Tuple [.Name x px, .Name y py] kt pt] (.Tuple [a, b] k2 pt2) pos.line X.env = pure false := by rfl)
    (h1 : (assignEach [.Tuple [.Name x px, .Name y py] kt pt] X.env).map (·.2) = [assign (.Tuple [.Name x px, .Name y py] kt pt) X.env] := by rfl)
    (hs1 : starEach [a, b] X.env = (false, eval a X.env) :: starEach [b] X.env := by rfl) (hs2 : starEach [b] X.env = (false, eval b X.env) :: starEach [] X.env := by rfl)
    (hl : (assignEach [.Name x px, .Name y py] X.env).length = 2 := by rfl) (hst : (assignEach [.Name x px, .Name y py] X.env).findIdx? (·.1) = none := by rfl)
    (hg1 : (assignEach [.Name x px, .Name y py] X.env).map (·.2) = assign (.Name x px) X.env :: (assignEach [.Name y py] X.env).map (·.2) := by rfl) (hg2 : (assignEach [.Name y py] X.env).map (·.2) = assign (.Name y py) X.env :: (assignEach [] X.env).map (·.2) := by rfl) :
    SS X Wx (.Assign [.Tuple [.Name x px, .Name y py] kt pt] (.Tuple [a, b] k2 pt2) pos) (par2M i j fa fb) := ⟨PS.imp (ps_asg (pe_tup (pa_cons ha.pe (pa_cons hb.pe pa_nil hs2) hs1)) (pg_tup hc (pgs_cons (pg_name hN hi hx hfx) (pgs_cons (pg_name hN hj hy hfy) pgs_nil hg2) hg1) hl hst) hs hw h1) fun D σ H ⟨c, e1, e2, O, p⟩ => by
  subst e1 e2
  refine par_core (Q := fun xs H1 => xs.length ≤ sizeLine ∧ ∀ q, H1 q = none → gTup X.K 2 (gCons (gName i) (gCons (gName j) gNil)) (.ref q) c.σ (upd H1 q (.tup xs)) D.nx) O p fun v w c6 k1 O6 x6 p6 => ⟨by show 2 ≤ sizeLine; decide, fun q hq => ⟨q, [v, w], rfl, .of upd_same, rfl, v, [w], rfl, w, [], rfl, rfl, ?_⟩⟩
  obtain ⟨O7, x7⟩ := O6.alloc (o := .tup [v, w]) hq
  rw [← k1]
  exact p6.next (c1 := { c6 with H := upd c6.H q (.tup [v, w]) }) rfl O7 (x6.trans x7)⟩
end
end Z

namespace Z
open PySem L2

/-! ## An object that many hold: its content stands in the heap of ours -/
def cellM (f : M W) : M W := bnd f fun w s => match w with
  | .new cl => .ok (.val (.ref s.h.length)) { s with h := s.h ++ [cl] }
  | .slot i => match s.e[i]? with
    | some (.ow cl) => .ok (.val (.ref s.h.length)) { s with e := s.e.set i (.fz (.ref s.h.length)), h := s.h ++ [cl] }
    | some (.fz (.ref n)) => .ok (.val (.ref n)) s
    | _ => .stuck
  | .val (.ref n) => .ok (.val (.ref n)) s
  | _ => .stuck
section
variable {T : Tx} {c c0 : Cf} {a : Addr} {cl : Cell}
theorem newCell {e' : Env} (O : Ok T c) (hc : CellAt T c.F c.φ c.H cl a) (f : c.F a = none) (na : a ∉ c.φ) (le : e'.length = c.s.e.length)
    (hfz : ∀ (i : Nat) (d : D), e'[i]? = some (.fz d) → c.s.e[i]? = some (.fz d) ∨ (d = .ref c.s.h.length ∧ c.σ[i]? = some (some (.ref a))))
    (how : ∀ (i : Nat) (cl : Cell), e'[i]? = some (.ow cl) → c.s.e[i]? = some (.ow cl) ∧ c.σ[i]? ≠ some (some (.ref a))) :
    Ok T { c with φ := c.φ ++ [a], s := ⟨e', c.s.h ++ [cl]⟩ } ∧ (∀ b, Mu { c with φ := c.φ ++ [a], s := ⟨e', c.s.h ++ [cl]⟩ } b → Mu c b ∨ b = a) := by
  have p : c.φ <+: c.φ ++ [a] := List.prefix_append _ _
  have own : ∀ i b, Own { c with φ := c.φ ++ [a], s := ⟨e', c.s.h ++ [cl]⟩ } i b → Own c i b ∧ b ≠ a := fun i b ⟨⟨cl', e⟩, e2⟩ => by
    have e : e'[i]? = some (.ow cl') := e
    obtain ⟨k1, k2⟩ := how i cl' e
    have e2 : c.σ[i]? = some (some (.ref b)) := e2
    exact ⟨⟨⟨cl', k1⟩, e2⟩, fun z => k2 (z ▸ e2)⟩
  have len : (c.φ ++ [a])[c.s.h.length]? = some a := by rw [← O.len]; simp
  have mu : ∀ b, Mu { c with φ := c.φ ++ [a], s := ⟨e', c.s.h ++ [cl]⟩ } b → Mu c b ∨ b = a := fun b m => by
    rcases m with m | ⟨i, m⟩
    · have m : b ∈ c.φ ++ [a] := m
      rcases List.mem_append.mp m with m | m
      · exact .inl (.inl m)
      · exact .inr (by simpa using m)
    · exact .inl (.inr ⟨i, (own i b m).1⟩)
  refine ⟨⟨O.le, ?_, fun n b cl2 h1 h2 => ?_, ?_, fun i d h => ?_, fun i cl2 h => ?_, fun i j b x y => O.apart i j b (own i b x).1 (own j b y).1, fun i b x m => ?_, fun b m => ?_, le.trans O.elen⟩, mu⟩
  · show (c.φ ++ [a]).length = (c.s.h ++ [cl]).length
    rw [List.length_append, List.length_append, O.len]; rfl
  · have h1 : (c.φ ++ [a])[n]? = some b := h1
    have h2 : (c.s.h ++ [cl])[n]? = some cl2 := h2
    by_cases hn : n < c.φ.length
    · rw [List.getElem?_append_left hn] at h1
      rw [List.getElem?_append_left (by rw [← O.len]; exact hn)] at h2
      exact (O.cell n b cl2 h1 h2).mono (fun _ _ z => z) p
    · rw [List.getElem?_append_right (by omega)] at h1
      rw [List.getElem?_append_right (by rw [← O.len]; omega)] at h2
      have z : n - c.φ.length = 0 := by
        cases q : n - c.φ.length with
        | zero => rfl
        | succ k => rw [q] at h1; cases h1
      rw [z] at h1
      rw [← O.len, z] at h2
      cases h1
      cases h2
      exact hc.mono (fun _ _ z => z) p
  · refine List.nodup_append.mpr ⟨O.nd, by simp, fun x hx y hy z => ?_⟩
    have q : y = a := by simpa using hy
    exact na (by rw [← q, ← z]; exact hx)
  · have h : e'[i]? = some (.fz d) := h
    rcases hfz i d h with h | ⟨rfl, h2⟩
    · obtain ⟨v, e, r⟩ := O.fz i d h
      exact ⟨v, e, r.mono (fun _ _ z => z) p⟩
    · exact ⟨_, h2, a, len, rfl⟩
  · have h : e'[i]? = some (.ow cl2) := h
    obtain ⟨b, e, r⟩ := O.ow i cl2 (how i cl2 h).1
    exact ⟨b, e, r.mono (fun _ _ z => z) p⟩
  · obtain ⟨o1, ne⟩ := own i b x
    have m : b ∈ c.φ ++ [a] := m
    rcases List.mem_append.mp m with m | m
    · exact O.out i b o1 m
    · exact ne (by simpa using m)
  · rcases mu b m with m | m
    · exact O.free b m
    · rw [m]; exact f
theorem newExt {s1 : S} (x : Ext c0 c) (hz : c0.H a = none ∨ Mu c0 a) (mu : ∀ b, Mu { c with φ := c.φ ++ [a], s := s1 } b → Mu c b ∨ b = a) : Ext c0 { c with φ := c.φ ++ [a], s := s1 } :=
  ⟨x.le, x.pre.trans (List.prefix_append _ _), x.keep, x.live, fun b m => by
    rcases mu b m with m | m
    · exact x.mu b m
    · rw [m]; exact hz.symm, x.fz⟩
end
section
variable {X : Cx} {Wx : WX} {e : Expr} {f : M W}
theorem se_cell (h : SE X Wx e f) : SE X Wx e (cellM f) := ⟨PE.imp h.pe fun σ H Q ⟨c, e1, e2, O, p⟩ => by
  subst e1 e2
  refine ⟨c, rfl, rfl, O, (Post.bnd2 p (Ext.refl c) rfl).imp fun c1 w hσ O1 x1 ⟨_, _, p1⟩ v r => ?_⟩
  cases w with
  | val d =>
    cases d with
    | ref n => exact p1.ok rfl hσ O1 x1 v r
    | _ => exact p1.elim
  | new cl =>
    obtain ⟨a, rfl, hc, hf, n, z⟩ := r
    obtain ⟨O2, mu⟩ := newCell (e' := c1.s.e) O1 hc hf (fun m => n (.inl m)) rfl (fun i d h => .inl h) (fun i cl' h => ⟨h, fun q => n (.inr ⟨i, ⟨cl', h⟩, q⟩)⟩)
    have x2 := newExt x1 (.inl z) mu
    exact p1.ok (c1 := { c1 with φ := c1.φ ++ [a], s := ⟨c1.s.e, c1.s.h ++ [cl]⟩ }) rfl hσ O2 x2 _ ⟨a, by rw [← O1.len]; simp, rfl⟩
  | slot i =>
    have r : c1.σ[i]? = some (some v) := r
    dsimp only at p1
    cases q : c1.s.e[i]? with
    | none => simp only [q] at p1; exact p1.elim
    | some sl =>
    simp only [q] at p1
    cases sl with
    | un => exact p1.elim
    | fz d =>
      obtain ⟨v', k1, k2⟩ := O1.fz i d q
      rw [r] at k1
      cases k1
      cases d with
      | ref n => exact p1.ok rfl hσ O1 x1 v k2
      | _ => exact p1.elim
    | ow cl =>
      obtain ⟨a, k1, hc⟩ := O1.ow i cl q
      rw [r] at k1
      cases k1
      have own : Own c1 i a := ⟨⟨cl, q⟩, r⟩
      have hi : i < c1.s.e.length := (List.getElem?_eq_some_iff.mp q).1
      obtain ⟨O2, mu⟩ := newCell (e' := c1.s.e.set i (.fz (.ref c1.s.h.length))) O1 hc (O1.free a (.inr ⟨i, own⟩)) (O1.out i a own) (by rw [List.length_set]) (fun j d h => by
        by_cases hj : j = i
        · subst hj
          rw [List.getElem?_set_self hi] at h
          cases h
          exact .inr ⟨rfl, r⟩
        · rw [List.getElem?_set_ne (Ne.symm hj)] at h
          exact .inl h) (fun j cl' h => by
        by_cases hj : j = i
        · subst hj
          rw [List.getElem?_set_self hi] at h
          cases h
        · rw [List.getElem?_set_ne (Ne.symm hj)] at h
          exact ⟨h, fun z => hj (O1.apart j i a ⟨⟨cl', h⟩, z⟩ own)⟩)
      have x2 := newExt x1 (x1.mu a (.inr ⟨i, own⟩)).symm mu
      exact p1.ok (c1 := { c1 with φ := c1.φ ++ [a], s := ⟨c1.s.e.set i (.fz (.ref c1.s.h.length)), c1.s.h ++ [cl]⟩ }) rfl hσ O2 x2 _ ⟨a, by rw [← O1.len]; simp, rfl⟩⟩
end
end Z

namespace Z
open PySem L2

/-! ## Errors whose base's __init__ is called, then one field is set -/
abbrev eTail : List Value := [.type "Exception", .type "BaseException", .type "object"]
/-- what the written part says of the class at C, over the class at S -/
structure ErrC (K : PySem.W.Frag) (C S : Addr) : Prop where
  cls : ∃ nm q N bs sn sub ab col dd k0 k1 k2 k3 k5, K.lookup C = some (excClassObj nm q C N bs (.ref S :: eTail) true sn sub ab col dd k0 k1 k2 k3 k5 "Exception.__new__")
  sa : PySem.W.findIn K (.ref C) "__setattr__" = some (some (.builtin "object.__setattr__"))
  exC : PySem.W.subIn K (.ref C) (.type "BaseException") = some true
  tyC : PySem.W.typeIn K (.ref C) = some (.type "type")
  kC : PySem.W.keepIn K (.ref C) = true
  no : PySem.W.findIn K (.ref C) "given" = some none
theorem tail_type (S : Addr) (T : String) : (Value.ref S :: eTail).contains (.type T) = eTail.contains (.type T) := by
  rw [List.contains_cons]
  rfl
section
variable {P : Program} {w : World} {A : Around} {hp : Heap} {g : Array GenState} {d : Drawn} {t : Nat} {os : OsState} {R : Result → Shared → Prop}
open Builtin Builtin.ObjectAttr PyProof.Rows PySem.Calls in
theorem err_store {K : PySem.W.Frag} {name : Str} {tk : Tok} {v : Value} {x C S : Addr} {fv : Array Value} {cd : ClassData} (X : K.In hp) (hx : hp.get? x = some { cls := .ref C, data := .fields fv }) (hcd : PySem.W.clsIn K C = some cd) (hm : cd.mro = .ref C :: .ref S :: eTail)
    (hh : cd.hasDict = true) (ha : PySem.W.findIn K (.ref C) name = some none)
    (fin : ∀ h' tk' dx, (∀ b o, b ≠ x → hp.get? b = some o → h'.get? b = some o) → hp.objs.size ≤ dx → dx ≠ x → h'.get? x = some { cls := .ref C, dict := some dx, data := .fields fv } → h'.Ns1 dx (fun y => if y = name then some v else none) → R (.ok (.ret .none)) ⟨h', g, d, tk', os⟩) :
    codeAny (model P w) A (.call (.builtin "object.__setattr__") ⟨[.ref x, .str name tk, v], []⟩) R ⟨hp, g, d, t, os⟩ := by
  have inst : PySem.W.InstAt hp x { cls := .ref C, data := .fields fv } C none := ⟨hx, rfl, rfl, trivial⟩
  have ob : PySem.W.mroIn K C (.type "object") = some true := by
    unfold PySem.W.mroIn
    rw [hcd, Option.bind_some, hm]
    rfl
  have sf := PySem.F.store_object
  have isob : PySem.W.Looks (model P w) hp (isInstance (.ref x) (.type "object")) true := inst.type.andThen (PySem.W.looks_mroIn X ob)
  have mr : PySem.W.Looks (model P w) hp (mroOf (.ref C)) cd.mro := (PySem.W.looks_clsIn X hcd).andThen .now
  have tker : PySem.W.Looks (model P w) hp (storeTaker? none) none := .now
  have pass : refuseLoop (.ref x) "__setattr__" cd.mro = pure () := by
    rw [hm, refuseLoop_ref, refuseLoop_ref]
    exact PySem.F.store_Exception.passes _
  have lc : PySem.W.Looks (model P w) hp (classData C) cd := PySem.W.looks_clsIn X hcd
  refine codeAny_call_builtin sf.slot.plain sf.entry ?_
  refine @PySem.W.check_slot (model P w) _ _ ⟨hp, g, d, t, os⟩ "object.__setattr__" "object" "__setattr__" (.ref x) [.str name tk, v] [] _ sf.kind sf.split isob (sf.args (.ref x) (.str name tk) v) ?_
  rw [PySem.W.osa_eq, refuse_eq]
  refine wpAny_bind (wpAny_bind (inst.type.at (wpAny_bind (mr.at ?_))))
  rw [pass]
  refine wpAny_pure (wpAny_bind (inst.type.at (wpAny_bind ((PySem.W.looks_findIn X ha).at (wpAny_bind (tker.at ?_))))))
  show wpAny _ _ (storeInOwnDict (.ref x) (.ref C) (.str name tk) name v false) _ _ _
  have far : x ≠ hp.objs.size := Nat.ne_of_lt (Heap.lt_size hx)
  obtain ⟨nm, bs, mro, ns, qn, hd, sn, sb, ab, col, del⟩ := cd
  dsimp only at hh
  subst hh
  unfold storeInOwnDict ownDictForStores
  repeat (first | with_reducible refine PySem.HandSPX.store_in_new ?_ ?_ | with_reducible refine wpAny_loadPart_at hx ?_ | with_reducible refine lc.at ?_ | wp_step)
  · exact ⟨_, #[], _, (Heap.get?_update_ne _ _ _ _ far.symm).trans (Heap.get?_push_at rfl rfl), rfl, fun e he => absurd he (by simp), fun _ => rfl⟩
  · intro h' tk' hn' hs
    have hx' : (hp.push { cls := .type "dict", data := .dict #[] }).get? x = some { cls := .ref C, data := .fields fv } := Heap.get?_push_of_some _ hx
    refine fin h' tk' hp.objs.size (fun b o hb ho => ?_) (Nat.le_refl _) far.symm ?_ hn'
    · rw [hs.2 b (Nat.ne_of_lt (Heap.lt_size ho)), Heap.get?_update_ne _ _ _ _ hb]
      exact Heap.get?_push_of_some _ ho
    · rw [hs.2 x far]
      exact Heap.get?_update_self _ hx' rfl
end
section
open PySem.Spec PyProof.Rows
variable {X : Cx} {pins : List (Addr × Obj)} {σ : L2.St} {H : Hp} {s : Shared} {a C S : Addr} {y : V} {u : Value} {E : Value → Shared → Prop} {A : Around}
/-- self.given = y -/
theorem err_given {Q : Unit → Shared → Prop} (T : ErrC X.K C S) (I : Inv X pins σ H s) (e : H a = some (exo a C none)) (ry : RelV y u)
    (fin : ∀ dx s', H dx = none → dx ≠ a → Inv X pins σ (upd (upd H dx (exd dx [(("given" : Str), y)])) a (exo a C (some dx))) s' → Q () s') : wpAny (model X.prog X.w) A (setAttr (.ref a) "given" u) Q E s := by
  obtain ⟨nm, q, N, bs, sn, sub, ab, col, dd, k0, k1, k2, k3, k5, hC⟩ := T.cls
  have hcl : PySem.W.clsIn X.K C = some { name := nm, bases := bs, mro := .ref C :: .ref S :: eTail, ns := N, qualname := q, hasDict := true, slotNames := sn, subclasses := sub, abstract := ab, collection := col, hasDel := false } := by
    unfold PySem.W.clsIn
    rw [hC] <;> rfl
  obtain ⟨t1, ho⟩ := exo_at I.hok e
  obtain ⟨hp, g, d, t, os⟩ := s
  refine PySem.W.set_plain I.kIn (ox := { cls := .ref C, dict := none, data := .fields #[.ref t1, .none, .none, .none, .bool false, .none] }) (od := none) ⟨ho, rfl, rfl, trivial⟩ T.sa ?_
  refine err_store I.kIn ho hcl rfl rfl T.no fun h' tk' dx kp dn dne hx hn => ?_
  have hnd : H dx = none := I.hok.fresh dn
  have low : ∀ {b : Addr} {o : Obj}, hp.get? b = some o → b ≠ dx := fun q => Nat.ne_of_lt (Nat.lt_of_lt_of_le (Heap.lt_size q) dn)
  have nota : ∀ {b : Addr}, H b = none → b ≠ a := fun n z => by rw [z, e] at n; cases n
  have same : ∀ {b : Addr} {o : HO}, H b = some o → o ≠ exo a C none → upd (upd H dx (exd dx [(("given" : Str), y)])) a (exo a C (some dx)) b = some o := fun {b o} q n => by
    rw [upd_ne (fun z => n (by rw [z, e] at q; exact (Option.some.inj q).symm)), upd_ne (ne_of_none q hnd)]
    exact q
  have un : Un X.fs [] H (upd (upd H dx (exd dx [(("given" : Str), y)])) a (exo a C (some dx))) hp h' :=
    ⟨fun b o q n _ _ => kp b o (nota n) q, fun b o q n _ _ => ⟨o.slots, kp b o (nota n) q⟩, fun b o q n _ => by
        rw [upd_ne (nota n), upd_ne (low q)]
        exact n, fun b o q _ => by
        by_cases hb : b = a
        · exact ⟨_, by rw [hb]; exact hx⟩
        · exact ⟨o, kp b o hb q⟩, fun b xs q => same q (Ne.symm exo_tup), fun b o v q => same q (Ne.symm exo_frz), fun b ps q => ⟨#[], by rw [same q (Ne.symm exo_tbl)]; simp⟩⟩
  refine fin dx _ hnd dne (I.un (t' := tk') un fun b o q => ?_)
  by_cases hb : b = a
  · subst hb
    rw [upd_same] at q
    cases q
    exact exo_ok hx
  · rw [upd_ne hb] at q
    by_cases hd : b = dx
    · subst hd
      rw [upd_same] at q
      cases q
      exact exd_ok hn (relO_put (fs := []) ry fun g => True.intro)
    · rw [upd_ne hd] at q
      refine (I.hok b o q).stay (fun c v hc z => kp c v ?_ z) (fun c hc => same hc (Ne.symm exo_own)) (fun c xs hc => same hc (Ne.symm exo_tup))
      rcases hc with hc | hc
      · rw [hc]; exact hb
      · exact at_ne e hc exo_own
/-- the base's __init__ -/
theorem err_base {us : List Value} {Q : Value → Shared → Prop} (T : ErrC X.K C S) (I : Inv X pins σ H s) (e : H a = some (exo a C none)) (hl : us.length ≤ sizeLine) (fin : ∀ s', Inv X pins σ H s' → Q .none s') :
    wpAny (model X.prog X.w) A (call (.builtin "Exception.__init__") (.ref a :: us)) Q E s := by
  obtain ⟨nm, q, N, bs, sn, sub, ab, col, dd, k0, k1, k2, k3, k5, hC⟩ := T.cls
  obtain ⟨t1, ho⟩ := exo_at I.hok e
  obtain ⟨hp, g, d, t, os⟩ := s
  refine wpAny_call (PySem.HandSPX.init_base PySem.F.excBase_Exception (tail_type S) (I.kIn _ _ hC) ho hl fun h' t2 kp hx => ?_)
  have J := I.write (t' := t) (x := a) (e := a) (o := exo a C none) (by rw [e]; exact True.intro) (.inl rfl) kp ⟨_, hx⟩ (exo_ok hx)
  have eu : upd H a (exo a C none) = H := funext fun b => by
    by_cases hb : b = a
    · rw [hb, upd_same, e]
    · exact upd_ne hb
  rw [eu] at J
  exact fin _ J
end
/-- what the written part says of the base at S, whose global name is x -/
structure BaseC (K : PySem.W.Frag) (mg : Str → Option Value) (x : Str) (S : Addr) : Prop where
  gS : mg x = some (.ref S)
  sg : PySem.W.specialIn K (.ref S) "__getattribute__" = some (some (.builtin "type.__getattribute__"))
  sr : PySem.W.readsIn K S (.type "type") = true
  sf : PySem.W.findCls K (.ref S) (.type "type") "__init__" = some (.val (.builtin "Exception.__init__"))
section
open PySem.Spec PyProof.Rows
variable {X : Cx} {o e : Expr} {es : List Expr} {to te : TE} {ta : TA} {p p' p1 p2 pos : Pos} {C S : Addr}
/-- Base.__init__(self, ..) -/
def tBaseI (K : PySem.W.Frag) (S : Addr) (ta : TA) : TE := fun σ H Q => ta σ H fun vs H1 => ∃ (a C : Addr) (ws : List V), vs = .ref a :: ws ∧ ws.length ≤ 1000 ∧ ErrC K C S ∧ H1 a = some (exo a C none) ∧ Q .non H1
theorem pe_baseI {pl : Sem Bool} {x : Str} (hg : Gl X x) (B : BaseC X.K X.mg x S) (ha : PA X (e :: es) ta)
    (hc : eval (.Call (.Attribute (.Name x p1) "__init__" p2) (e :: es) [] pos) X.env = (do
      let ov ← eval (.Name x p1) X.env
      standAt p2.atName
      let (f, first) ← holding [ov] (getMethod ov "__init__" pl)
      callWith pos f first (backTo pos (starEach (e :: es) X.env)) (backToKw pos (keywordEach [] X.env))) := by rfl)
    (he : starEach (e :: es) X.env = (false, eval e X.env) :: starEach es X.env := by rfl) (hpl : (backTo pos (starEach es X.env)).any (·.1) = false := by rfl) (hdb : (x == ("__debug__" : Str)) = false := by decide) :
    PE X (.Call (.Attribute (.Name x p1) "__init__" p2) (e :: es) [] pos) (tBaseI X.K S ta) := by
  refine ⟨fun pins s σ H Q I h => ?_⟩
  refine PySem.W.methodCall_KW (ld_glob I hg B.gS ?_ hdb) hc
  refine PySem.W.method_cls I.kIn B.sg (PySem.W.cls_value I.kIn B.sr B.sf (by decide +kernel) ?_)
  refine callWith_method1 (thn (ha.run pos pins _ σ H _ (I.tok _) h) fun us s1 ⟨vs, H1, I1, r1, a, C, ws, ev, hl, T, ea, q⟩ => ?_) he hpl
  subst ev
  cases r1 with
  | @cons _ u0 _ ur ra rw' =>
    obtain rfl : u0 = Value.ref a := ra
    refine err_base T I1 ea (by rw [← Paired.length rw', sizeLine_eq]; omega) fun s' J => ⟨.non, H1, J, rfl, q⟩
/-- self.given = e -/
def tErrF (K : PySem.W.Frag) (S : Addr) (to te : TE) : TS := fun D σ H => te σ H fun y H1 => to σ H1 fun x H2 => ∃ a C : Addr, x = .ref a ∧ ErrC K C S ∧ H2 a = some (exo a C none) ∧ ∀ dx, H2 dx = none → dx ≠ a → D.nx σ (upd (upd H2 dx (exd dx [(("given" : Str), y)])) a (exo a C (some dx)))
theorem ps_errF (ho : PE X o to) (he : PE X e te) (hs : swapsWith e (some (.Attribute o "given" p')) pos.line X.env = pure false := by rfl) : PS X (.Assign [.Attribute o "given" p'] e pos) (tErrF X.K S to te) := by
  refine ⟨fun pins s σ H D I h => ?_⟩
  refine plainObj_wpAny_Assign_Attribute (thn (he.run pins s σ H _ I h) fun v s1 ⟨y, H1, I1, r1, q1⟩ => thn (ho.run pins s1 σ H1 _ I1 q1) fun u s2 ⟨x, H2, I2, r2, a, C, ex, T, ea, q⟩ => ?_) hs
  subst ex
  obtain rfl : u = Value.ref a := r2
  exact err_given T I2 ea r1 fun dx s' n ne J => ⟨σ, _, J, q dx n ne⟩
end
end Z

namespace Z
open PySem L2

/-! ## Raising such an error -/
/-- what __init__ does -/
def spErr (K : PySem.W.Frag) (S : Addr) : Sp := fun vs H Q _ => ∃ (a C : Addr) (v : V), vs = [.ref a, v] ∧ ErrC K C S ∧ H a = some (exo a C none) ∧ ∀ d, H d = none → d ≠ a → Q .non (upd (upd H d (exd d [(("given" : Str), v)])) a (exo a C (some d)))
def tIni (K : PySem.W.Frag) (S : Addr) (m : Str) : TS := tSeq (fun D σ H => tBaseI K S (tCons (tVar 0) (tCons (tC (.str m)) tNil)) σ H fun _ H1 => D.nx σ H1) (tErrF K S (tVar 0) (tVar 1))
section
variable {P : Program} {w : World} {K : PySem.W.Frag} {mg : Str → Option Value} {base : Heap}
theorem ok_ini {qual : Str} {st : Stmt} {f S : Addr} {fd : FuncData} (m : Str) (F : Fun K "__init__" qual st f fd) (sc : FnScope ["self", "given"] ["self", "given"] (defScope st))
    (hp : ∀ (cdv : Value) (A : Around) (outer : List PySem.Env) (s : Shared) (H : Hp) (E : XK), PSs (cxOf (L2.CX P w) P w K mg base ["self", "given"] qual (defScope st) f cdv A outer s H E) (defBody st) (tIni K S m)) : FnOk P w K mg base (L2.CX P w) 1 f fd ["self", "given"] (spErr K S) := by
  refine F.okX sc (fun vs H Q E h => ?_) fun cdv A outer s H vs Q E hr h => ?_
  · obtain ⟨a, C, v, rfl, _⟩ := h
    rfl
  · obtain ⟨a, C, v, rfl, T, ea, fin⟩ := h
    refine ⟨_, hp cdv A outer s H E, ?_⟩
    refine ⟨_, rfl, a, C, [.str m], rfl, (by show 1 ≤ 1000; decide), T, ea, ?_⟩
    exact ⟨_, rfl, _, rfl, a, C, rfl, T, ea, fun d hd ne => fin d hd ne⟩
end
/-- the class of the global name x, over ShareError -/
def ErrF (P : Program) (w : World) (K : PySem.W.Frag) (mg : Str → Option Value) (base : Heap) (x : Str) : Prop :=
  ∃ C S fI fd, mg x = some (.ref C) ∧ ErrC K C S ∧ PySem.W.findIn K (.ref C) "__init__" = some (some (.ref fI)) ∧ PySem.W.typeIn K (.ref fI) = some (.type "function") ∧ Binds K fd ["self", "given"] [] ∧ FnOk P w K mg base (L2.CX P w) 1 fI fd ["self", "given"] (spErr K S)
def tMkE (C : Addr) (ta : TA) : St → Hp → XK → Prop := fun σ H Q => ta σ H fun vs H1 => ∃ v, vs = [v] ∧ ∀ d, H1 d = none → Q (.ref C) (some d) (upd H1 d (.xd [(("given" : Str), v)]))
section
open PySem.Spec PyProof.Rows
variable {X : Cx} {a : Expr} {ta : TA} {x : Str} {p pos : Pos} {C S fI : Addr} {fd : FuncData}
theorem pmk_err (T : ErrC X.K C S) (iC : PySem.W.findIn X.K (.ref C) "__init__" = some (some (.ref fI))) (tI : PySem.W.typeIn X.K (.ref fI) = some (.type "function")) (F1 : FnOk X.prog X.w X.K X.mg X.base (L2.CX X.prog X.w) 1 fI fd ["self", "given"] (spErr X.K S)) (hr : Room 2 X.A)
    (hb : Binds X.K fd ["self", "given"] []) (hg : Gl X x) (hm : X.mg x = some (.ref C)) (ha : PA X [a] ta) (hdb : (x == ("__debug__" : Str)) = false := by decide) (he : starEach [a] X.env = (false, eval a X.env) :: starEach [] X.env := by rfl) (hpl : (backTo pos (starEach [] X.env)).any (·.1) = false := by rfl) :
    PMk X (.Call (.Name x p) [a] [] pos) (tMkE C ta) := by
  intro pins s σ H Q I h
  obtain ⟨nm, q, N, bs, sn, sub, ab, col, dd, k0, k1, k2, k3, k5, hC⟩ := T.cls
  refine wpAny_Call_Name_kw (ld_glob I hg hm ?_ hdb)
  refine PySem.W.callWith_K (h₀ := X.base) I.ok.mod.kin T.kC (thn (ha.run pos pins s σ H _ I h) fun us s1 ⟨vs, H1, I1, r1, v, ev, q1⟩ => ⟨I1.kIn, ?_⟩) he hpl
  subst ev
  show wpAny _ _ (call (.ref C) us) _ _ _
  obtain ⟨hp, g, dr, tk, os⟩ := s1
  have big : hp.objs.size ≤ hp.objs.size + 1 := Nat.le_succ _
  have hn : H1 (hp.objs.size + 1) = none := I1.hok.fresh big
  have old : ∀ b o, hp.get? b = some o → ((hp.push (PySem.W.kdv_tup us)).push (PySem.HandSPX.excO C hp.objs.size)).get? b = some o := fun b o e => Heap.get?_push_of_some _ (Heap.get?_push_of_some _ e)
  have new : ((hp.push (PySem.W.kdv_tup us)).push (PySem.HandSPX.excO C hp.objs.size)).get? (hp.objs.size + 1) = some (PySem.HandSPX.excO C hp.objs.size) := by heap_get
  have I2 : Inv X pins σ (upd H1 (hp.objs.size + 1) (exo (hp.objs.size + 1) C none)) ⟨(hp.push (PySem.W.kdv_tup us)).push (PySem.HandSPX.excO C hp.objs.size), g, dr, tk, os⟩ := I1.laid (t' := tk) old big (exo_ok new)
  have r2 : Vals [V.ref (hp.objs.size + 1), v] (Value.ref (hp.objs.size + 1) :: us) := .cons rfl r1
  have hus : us.length = 1 := (Paired.length r1).symm
  have hl : (Value.ref (hp.objs.size + 1) :: us ++ []).length = (["self", "given"] : List Str).length := by
    rw [List.append_nil, List.length_cons, hus]
    rfl
  have pre : spErr X.K S [V.ref (hp.objs.size + 1), v] (upd H1 (hp.objs.size + 1) (exo (hp.objs.size + 1) C none)) (fun r H2 => r = .non ∧ ∃ d, H1 d = none ∧ d ≠ hp.objs.size + 1 ∧ H2 = upd (upd (upd H1 (hp.objs.size + 1) (exo (hp.objs.size + 1) C none)) d (exd d [(("given" : Str), v)])) (hp.objs.size + 1) (exo (hp.objs.size + 1) C (some d))) (fun _ _ _ => False) :=
    ⟨_, C, v, rfl, T, upd_same, fun d hd ne => ⟨rfl, d, by rw [upd_ne ne] at hd; exact hd, ne, rfl⟩⟩
  have goal := F1.run _ X.stack _ _ ⟨Value.ref (hp.objs.size + 1) :: us, []⟩ (Value.ref (hp.objs.size + 1) :: us) _ _ (fun _ _ _ => False) (hr.make C us []) (I2.env0.make C us []) (by
    have z := hb _ (Value.ref (hp.objs.size + 1) :: us) I2.kIn hl
    rw [List.append_nil] at z
    exact z) r2 pre
  refine wpAny_call (PySem.HandSPX.call_own PySem.F.excBase_Exception (tail_type S) (I1.kIn _ _ hC) (PySem.W.looks_findIn I1.kIn iC) (fun self => PySem.W.bind_fn I1.kIn self tI) (by rw [hus]; decide) (codeAny_mono goal fun r s' hq' => ?_))
  cases r with
  | error er => exact passL pins σ _ _ er s' I2 hq'
  | ok fl =>
    cases fl with
    | next => exact hq'.elim
    | brk => exact hq'.elim
    | cont => exact hq'.elim
    | ret u =>
      obtain ⟨r, H2, os2, bare2, un2, hok2, rv, er, d, hd, ne, eH⟩ := hq'
      subst er
      obtain ⟨h2, g2, d2, t2, os'⟩ := s'
      have e1 : H2 (hp.objs.size + 1) = some (exo (hp.objs.size + 1) C (some d)) := by rw [eH]; exact upd_same
      have e2 : H2 d = some (exd d [(("given" : Str), v)]) := by rw [eH, upd_ne ne]; exact upd_same
      have e3 : upd (del H2 (hp.objs.size + 1)) d (.xd [(("given" : Str), v)]) = upd H1 d (.xd [(("given" : Str), v)]) := by
        funext b
        by_cases hb : b = d
        · rw [hb, upd_same, upd_same]
        · rw [upd_ne hb, upd_ne hb]
          by_cases hc : b = hp.objs.size + 1
          · rw [hc, del_same, hn]
          · rw [del_ne hc, eH, upd_ne hc, upd_ne hb, upd_ne hc]
      exact ⟨rv, mk_end (raises_own T.exC T.tyC) I1 big old un2 hok2 os2 bare2 e1 e2 hd (by rw [e3]; exact q1 d hd)⟩
end
def raiseM (x : Str) (f : M W) : M Fl := bnd f fun w => bnd (toD w) fun d s => .exc x ["given"] [d] s
section
variable {X : Cx} {Wx : WX} {a : Expr} {fa : M W} {x : Str} {p pos pos2 : Pos}
theorem ss_raise (h : ErrF X.prog X.w X.K X.mg X.base x) (hr : RoomG 2 X.A) (tk : Takes X Wx) (hg : Gl X x) (ha : SE X Wx a fa) (hc : X.calm = true := by rfl) (hdb : (x == ("__debug__" : Str)) = false := by decide)
    (he : starEach [a] X.env = (false, eval a X.env) :: starEach [] X.env := by rfl) (hpl : (backTo pos (starEach [] X.env)).any (·.1) = false := by rfl) : SS X Wx (.Raise (some (.Call (.Name x p) [a] [] pos)) none pos2) (raiseM x fa) := by
  obtain ⟨C, S, fI, fd, hm, T, iC, tI, hb, F1⟩ := h
  exact ⟨PS.imp (ps_raise hc tk (pmk_err T iC tI F1 hr.r hb hg hm (pa_cons ha.pe pa_nil he) hdb he hpl)) fun D σ H ⟨c, e1, e2, O, q⟩ => by
    subst e1 e2
    refine ⟨c, rfl, rfl, O, (PostS.bnd q).imp fun c1 w hσ O1 x1 p1 v rv => ⟨v, rfl, fun d hd => ?_⟩⟩
    obtain ⟨c2, dd, z1, z2, O2, x2, r2, p2⟩ := p1.toD O1 x1 rv
    rw [← z2] at hd
    obtain ⟨O3, x3⟩ := O2.alloc (o := .xd [(("given" : Str), v)]) hd
    have z := p2 { c2 with H := upd c2.H d (.xd [(("given" : Str), v)]) } C d [v] rfl O3 (x2.trans x3) hm rfl upd_same ⟨v, [], rfl, r2, rfl⟩ (fun m => Mu.none (c := c2) O2 hd m)
    have e : c2.σ = c.σ := z1.trans hσ
    rw [← z2, ← e]
    exact z⟩
end
end Z

namespace Z
open PySem L2

/-! ## try with several clauses, each with a name -/
/-- one clause: its class, its name's slot, its suite -/
structure Cl where
  c : Value
  i : Nat
  ts : Addr → Value → Option Addr → TS
def unI (i : Nat) (D : Ends) : Ends := { nx := fun σ H => D.nx (σ.set i none) H, rt := D.rt, bk := fun σ H => D.bk (σ.set i none) H, ct := fun σ H => D.ct (σ.set i none) H }
/-- what the clauses wish of an error of the body -/
def wAll (K : PySem.W.Frag) (Wout : WX) (D : Ends) : List Cl → WX
  | [] => Wout
  | k :: r => fun cls d σ H => ∃ b, PySem.W.exmOne K cls k.c = some b ∧ (b = true → ∀ a, H a = none → k.ts a cls d (unI k.i D) (σ.set k.i (some (.ref a))) H) ∧ (b = false → wAll K Wout D r cls d σ H)
inductive ClsOk (X : Cx) : List ExceptHandler → List Cl → Prop
  | nil : ClsOk X [] []
  | cons {x n : Str} {k : Cl} {b₀ : Stmt} {suite : List Stmt} {np pos' : Pos} {hds : List ExceptHandler} {l : List Cl} (hc : Names X x k.c) (hi : X.N[k.i]? = some n) (hln : X.env.kindOf n = some .local)
      (hsu : ∀ (a : Addr) (oe : Obj) (cls : Value) (d : Option Addr) (pn : List (Addr × Obj)), Zc cls d oe → (∃ vs, oe.data = .fields vs) → PSs (X.suite a ((a, oe) :: pn)) (b₀ :: suite) (k.ts a cls d)) (r : ClsOk X hds l) :
      ClsOk X (.ExceptHandler (some (.Name x np)) (some n) (b₀ :: suite) pos' :: hds) (k :: l)
section
open PySem.Spec PyProof.Rows
variable {X : Cx} {body : List Stmt} {h₀ : ExceptHandler} {hds : List ExceptHandler} {l : List Cl} {pos : Pos} {tb : WX → TS} {Wout : WX}
theorem ps_try_all (hs : X.stack = X.env :: X.outer) (hf : X.env.frame = some X.env.locals) (hN : X.N.Nodup) (tk : Takes X Wout)
    (hb : ∀ (W : WX) (pn : List (Addr × Obj)) (xe : Value → Shared → Prop), Takes (X.tr pn xe) W → PassesOwn (model X.prog X.w) X.A X.env xe → PSs (X.tr pn xe) body (tb W)) (hh : ClsOk X (h₀ :: hds) l) :
    PS X (.Try body (h₀ :: hds) [] [] pos) (fun D σ H => tb (wAll X.K Wout D l) D σ H) := by
  refine ⟨fun pins s σ H D I h => wpAny_Try_except ?_⟩
  have okX := I.ok
  have frX : X.A.frames = some (X.env :: X.outer) := okX.frames.trans (by rw [hs])
  let xe : Value → Shared → Prop := fun e s₁ => wpAny (model X.prog X.w) X.A (noteFrame e X.env) (fun _ s₂ => wpAny (model X.prog X.w) X.A (setFlight e none) (fun _ s₃ => wpAny (model X.prog X.w) X.A (handleBy e X.env (h₀ :: hds)) (SP X pins D) X.xe s₃) X.xe s₂) X.xe s₁
  have caught : Takes (X.tr (X.pn ++ pins) xe) (wAll X.K Wout D l) := by
    intro u s' xx
    obtain ⟨a, B, sI, pinB, σB, HB, cls, d, rfl, JB, noB, upB, skyB, noA, osB, agB, wish⟩ := xx
    have J : Inv X pins σB HB sI := JB.ofTry okX
    have sky : Sky B (X.env :: X.outer) a (Zc cls d) X.env.locals s'.heap := by
      rw [← hs]
      exact skyB
    show wpAny (model X.prog X.w) X.A (noteFrame (.ref a) X.env) _ _ _
    refine Sky.land Zc.steady frX hf sky fun hL flL upL => ?_
    have JL : Inv X pins σB HB { s' with heap := hL } := J.landed noB flL.1 (upB.trans upL) osB agB
    obtain ⟨oL, vL, getL, zL, dataL⟩ := flL.there
    have notIn : a ∉ frs (X.env :: X.outer) := fun hm => by
      obtain ⟨_, oF, getF, noF⟩ := flL.2.2.1.mem hm
      rw [getL] at getF
      cases getF
      exact noF _ dataL
    have farL : a ≠ X.env.locals := fun z => notIn (List.mem_filterMap.mpr ⟨X.env, List.mem_cons_self, hf.trans (by rw [z])⟩)
    have farF : a ∉ X.fs := fun hm => by
      obtain ⟨en, he, q⟩ := List.mem_filterMap.mp hm
      exact notIn (List.mem_filterMap.mpr ⟨en, List.mem_cons_of_mem _ he, q⟩)
    have SL := JL.suite getL dataL noA farL farF
    suffices go : ∀ {hs' : List ExceptHandler} {ls : List Cl}, ClsOk X hs' ls → wAll X.K Wout D ls cls d σB HB → wpAny (model X.prog X.w) X.A (handleBy (.ref a) X.env hs') (SP X pins D) X.xe { s' with heap := hL } from go hh wish
    intro hs' ls hk
    induction hk with
    | nil =>
      intro out
      refine wpAny_handleBy_nil ?_
      obtain ⟨_, _, _, oe, vs, T, oT, ts', getE, _, dataE, fld, _⟩ := id flL
      unfold PySem.passOn
      refine wpAny_bind (wpAny_field getE dataE fld ?_)
      rw [if_neg (by simp : ¬ ((Value.ref T == Value.none) = true))]
      have fin : wpAny (model X.prog X.w) X.A (setFlight (.ref a) X.env.frame) (fun _ s4 => wpAny (model X.prog X.w) X.A (throw (.ref a) : Sem Flow) (SP X pins D) X.xe s4) X.xe { s' with heap := hL } := by
        rw [hf]
        exact HandSPX.setFlight_upZ flL fun h4 hot up4 => wpAny_throw (tk _ _ ⟨a, B, sI, pins, σB, HB, cls, d, rfl, J, noB, (upB.trans upL).trans up4, .inr (.inr (by rw [hs]; exact hot)), noA, osB, agB, out⟩)
      first
        | exact wpAny_bind (wpAny_pure (wpAny_bind fin))
        | exact wpAny_bind fin
    | @cons x n k b₀ suite np pos' hds2 l2 hc hi hln hsu r ih =>
      rintro ⟨b, isit, yes, no⟩
      refine wpAny_handleBy_cons (codeAny_handlers_test ?_) (by intro q; cases q)
      have tyA : PySem.W.Looks (model X.prog X.w) hL (typeOf (.ref a)) cls := fun A Q E s k q => wpAny_typeOf_ref (k _ _ getL) (by rw [zL.1]; exact q)
      have ask := PySem.W.exm_one (M := model X.prog X.w) JL.kIn tyA isit
      have name : ∀ {Q : Value → Shared → Prop} {E : Value → Shared → Prop}, Q k.c { s' with heap := hL } → wpAny (model X.prog X.w) (X.A.mark (some (.ref a))) (eval (.Name x np) X.env) Q E { s' with heap := hL } := fun {Q E} q => by
        obtain ⟨hg, hdb, hm | ⟨hm, hv, hnn⟩⟩ := hc
        · exact ld_glob (X := X.suite a ((a, oL) :: (X.pn ++ pins))) SL hg hm q hdb
        · exact ld_blt (X := X.suite a ((a, oL) :: (X.pn ++ pins))) SL hg hm hv q hnn hdb
      refine name (ask.here ?_)
      cases b with
      | false =>
        show wpAny _ X.A (handleBy (.ref a) X.env hds2) _ _ _
        exact ih (no rfl)
      | true =>
        refine codeAny_handlers_suite_as (HandSPX.lands_againZ flL fun h4 fl4 up4 => ?_)
        have J4 : Inv X pins σB HB { s' with heap := h4 } := J.landed noB fl4.1 ((upB.trans upL).trans up4) osB agB
        obtain ⟨o4, v4, get4, z4, data4⟩ := fl4.there
        have S4 := J4.suite get4 data4 noA farL farF
        refine store_ok (X := X.suite a ((a, o4) :: (X.pn ++ pins))) (v := .ref a) S4 hN hi (.inl hln) rfl (fun s5 S5 => ?_) (.inr hln)
        have gone : ∀ {σ6 : L2.St} {H6 : Hp} {s6 : Shared} {Q : Shared → Prop}, Inv (X.suite a ((a, o4) :: (X.pn ++ pins))) [] σ6 H6 s6 → (∀ s7, Inv X pins (σ6.set k.i none) H6 s7 → Q s7) → wpAny (model X.prog X.w) X.A (do bindName X.env n .none; unbindBehindTheSuite X.env n pos') (fun _ s7 => Q s7) X.xe s6 :=
          fun S6 hq => gone_ok (S6.unsuite okX) hN hi hln hq
        refine wpAny_mono ((hsu a o4 cls d (X.pn ++ pins) z4 ⟨_, data4⟩).run [] s5 _ HB _ S5 (yes rfl a noA)) (fun f s6 hsp => ?_) (fun _ _ z => False.elim z)
        cases f with
        | ret u =>
          obtain ⟨v6, σ6, H6, S6, r6, q6⟩ := hsp
          exact gone S6 fun s7 J7 => ⟨_, _, _, J7, r6, q6⟩
        | next =>
          obtain ⟨σ6, H6, S6, q6⟩ := hsp
          exact gone S6 fun s7 J7 => ⟨_, _, J7, q6⟩
        | brk =>
          obtain ⟨σ6, H6, S6, q6⟩ := hsp
          exact gone S6 fun s7 J7 => ⟨_, _, J7, q6⟩
        | cont =>
          obtain ⟨σ6, H6, S6, q6⟩ := hsp
          exact gone S6 fun s7 J7 => ⟨_, _, J7, q6⟩
  refine wpAny_mono ((hb _ _ xe caught PassesOwn.looking).run [] s σ H D (I.toTry _) h) (fun f s1 hsp => ?_) (fun e s1 he => he)
  cases f with
  | ret u =>
    obtain ⟨v, σ1, H1, J1, r1, q1⟩ := hsp
    exact ⟨v, σ1, H1, J1.ofTry okX, r1, q1⟩
  | next =>
    obtain ⟨σ1, H1, J1, q1⟩ := hsp
    exact wpAny_execs_nil ⟨σ1, H1, J1.ofTry okX, q1⟩
  | brk =>
    obtain ⟨σ1, H1, J1, q1⟩ := hsp
    exact ⟨σ1, H1, J1.ofTry okX, q1⟩
  | cont =>
    obtain ⟨σ1, H1, J1, q1⟩ := hsp
    exact ⟨σ1, H1, J1.ofTry okX, q1⟩
end
end Z

namespace Z
open PySem L2

/-! ## isinstance(e, X), true -/
section
open PySem.W PySem.Calls PySem.Spec PyProof.Rows Lean Elab Tactic Meta
variable {K : PySem.W.Frag} {a D : Addr} {c : Value}
theorem ans_yes (ne : ((Value.ref D) == c) = false) (e : kitCls K (.ref D) c = some true) : Answers (fun s => K.In s.heap ∧ ∃ oe, s.heap.get? a = some oe ∧ oe.cls = .ref D) (.ref a) c true := by
  intro dep tk prog w A R s hs
  obtain ⟨h0, g, d, tt, os⟩ := s
  obtain ⟨⟨X, oe, get, ec⟩, hq⟩ := hs
  have ty : Looks (model prog w) h0 (typeOf (.ref a)) (.ref D) := fun A Q E s k q => wpAny_typeOf_ref (k _ _ get) (by rw [ec]; exact q)
  obtain ⟨k1, k2, k3⟩ := kit_cls (M := model prog w) X e
  unfold Builtin.«isinstance.nested»
  refine wpAny_bind (ty.at ?_)
  rw [ne, if_neg Bool.false_ne_true]
  have both : Looks (model prog w) h0 (isInstance (.ref a) c) true := ty.andThen k3
  refine wpAny_bind (k1.at ?_)
  rw [if_pos (by decide)]
  k_delta "plainIsInstance"
  refine wpAny_bind (wpAny_bind (k2.at ?_))
  simp only [Bool.not_true, Bool.false_eq_true, if_false]
  refine wpAny_bind (both.at ?_)
  first
    | exact wpAny_pure (wpAny_pure (hq tt))
    | (simp only [if_true]; first | exact wpAny_pure (wpAny_pure (hq tt)) | exact wpAny_pure (hq tt) | exact wpAny_bind (wpAny_pure (wpAny_pure (hq tt))))
end
/-! ## In an except suite -/
/-- slot i holds the error: of class C, with these fields -/
def ExF (T : Tx) (i : Nat) (a : Addr) (cls : Value) (d : Option Addr) (C : Str) (ns : List Str) (ds : List D) (c : Cf) : Prop :=
  ∃ A dd us, cls = .ref A ∧ d = some dd ∧ T.mg C = some (.ref A) ∧ us.length = ns.length ∧ c.H dd = some (.xd (ns.zip us)) ∧ ¬ Mu c dd ∧ Reps T c.F c.φ ds us ∧ c.σ[i]? = some (some (.ref a))
theorem ExF.ext {T : Tx} {i : Nat} {a : Addr} {cls : Value} {d : Option Addr} {C : Str} {ns : List Str} {ds : List D} {c c1 : Cf} (h : ExF T i a cls d C ns ds c) (x : Ext c c1) (hσ : c1.σ = c.σ) : ExF T i a cls d C ns ds c1 := by
  obtain ⟨A, dd, us, e1, e2, e3, e4, e5, e6, e7, e8⟩ := h
  refine ⟨A, dd, us, e1, e2, e3, e4, x.keep _ _ e5 e6, fun m => ?_, e7.mono x.le x.pre, by rw [hσ]; exact e8⟩
  rcases x.mu dd m with m | m
  · exact e6 m
  · rw [e5] at m; cases m
def tXE (X : Cx) (I : Cf → Prop) (f : M W) : TE := fun σ H Q => ∃ c : Cf, c.σ = σ ∧ c.H = H ∧ Ok (tx X) c ∧ I c ∧ Post (tx X) c (f c.s) (fun c1 w => ∀ v, RepW (tx X) H c1 w v → Q v c1.H) noE
structure XE (X : Cx) (I : Cf → Prop) (e : Expr) (f : M W) : Prop where
  pe : PE X e (tXE X I f)
def tXA (X : Cx) (I : Cf → Prop) (f : M (List W)) : TA := fun σ H Q => ∃ c : Cf, c.σ = σ ∧ c.H = H ∧ Ok (tx X) c ∧ I c ∧ Post (tx X) c (f c.s) (fun c1 ws => ∀ vs, RepAs (tx X) c1 ws vs → Q vs c1.H) noE
structure XA (X : Cx) (I : Cf → Prop) (es : List Expr) (f : M (List W)) : Prop where
  pa : PA X es (tXA X I f)
section
variable {X : Cx} {I : Cf → Prop} {e : Expr} {es : List Expr} {f : M W} {fs : M (List W)} {pos : Pos}
theorem xe_of (h : SE X noE e f) : XE X I e f := ⟨PE.imp h.pe fun σ H Q ⟨c, e1, e2, O, _, p⟩ => ⟨c, e1, e2, O, p⟩⟩
theorem xa_nil : XA X I [] nilA := ⟨PA.imp pa_nil fun σ H Q ⟨c, e1, e2, O, _, p⟩ => by
  subst e1 e2
  exact p.here O [] rfl⟩
theorem xa_cons (ha : XE X I e f) (hr : XA X I es fs) (kI : ∀ c c1, I c → Ext c c1 → c1.σ = c.σ → I c1) (hs : starEach (e :: es) X.env = (false, eval e X.env) :: starEach es X.env := by rfl) : XA X I (e :: es) (consA f fs) :=
  ⟨PA.imp (pa_cons ha.pe hr.pa hs) fun σ H Q ⟨c, e1, e2, O, i, p⟩ => by
    subst e1 e2
    refine ⟨c, rfl, rfl, O, i, (Post.bnd2 p (Ext.refl c) rfl).imp fun c1 w hσ1 O1 x1 ⟨_, _, p1⟩ v r1 => ?_⟩
    obtain ⟨c2, w2, h1, h2, O2, x2, r2, p2⟩ := p1.fix O1 x1 hσ1 r1
    rw [← h2]
    have hσ2 := h1.trans hσ1
    refine ⟨c2, hσ2, rfl, O2, kI c c2 i x2 hσ2, (Post.bnd2 p2 x2 hσ2).imp fun c3 ws hσ3 O3 x3 ⟨x4, hσ4, p3⟩ vs r3 => ?_⟩
    exact p3.ok rfl hσ4 O3 x4 (v :: vs) ⟨v, vs, rfl, r2.ext x3 hσ3, r3⟩⟩
theorem xdisp {ds : List D → W} {H : Hp} {Q : VK} {c : Cf} (O : Ok (tx X) c) (p : Post (tx X) c (Z.bnd fs (fun ws => Z.bnd (toDs ws) fun xs => if xs.length ≤ sizeLine then ret (ds xs) else stuck) c.s) (fun c1 w => ∀ v, RepW (tx X) c.H c1 w v → Q v c1.H) noE) :
    Post (tx X) c (fs c.s) (fun c1 ws => ∀ vs, RepAs (tx X) c1 ws vs → vs.length ≤ sizeLine ∧ ∃ c2 xs, c2.H = c1.H ∧ Ok (tx X) c2 ∧ Reps (tx X) c2.F c2.φ xs vs ∧ Fin2 (tx X) c2 (ds xs) Q) noE :=
  (Post.bnd2 p (Ext.refl c) rfl).imp fun c1 ws hσ1 O1 x1 ⟨_, _, p1⟩ vs r => by
    obtain ⟨c2, xs, h1, h2, O2, x2, r2, p2⟩ := p1.toDs O1 r
    by_cases z : xs.length ≤ sizeLine
    · rw [if_pos z] at p2
      exact ⟨by rw [r2.len]; exact z, c2, xs, h2, O2, r2, p2.fin O2 (x1.trans x2) (h1.trans hσ1)⟩
    · rw [if_neg z] at p2
      exact p2.elim
theorem xe_lst (h : XA X I es fs) : XE X I (.List es pos) (lstM fs) := ⟨PE.imp (pe_lst h.pa) fun σ H Q ⟨c, e1, e2, O, i, p⟩ => by
  subst e1 e2
  refine ⟨c, rfl, rfl, O, i, (xdisp (H := c.H) (ds := fun xs => .new (.lst xs)) O p).imp fun c1 ws _ _ _ q vs r => ?_⟩
  obtain ⟨z, c2, xs, h2, O2, r2, fin⟩ := q vs r
  rw [← h2]
  exact ⟨z, fun p hp => fin.lst O2 r2 hp⟩⟩
theorem xe_tup {k : Nat} (h : XA X I es fs) : XE X I (.Tuple es k pos) (tupM fs) := ⟨PE.imp (pe_tup h.pa) fun σ H Q ⟨c, e1, e2, O, i, p⟩ => by
  subst e1 e2
  refine ⟨c, rfl, rfl, O, i, (xdisp (H := c.H) (ds := fun xs => .val (.tup xs)) O p).imp fun c1 ws _ _ _ q vs r => ?_⟩
  obtain ⟨z, c2, xs, h2, O2, r2, fin⟩ := q vs r
  rw [← h2]
  exact ⟨z, fun p hp => fin.tup O2 r2 hp⟩⟩
end
/-- a field of the error -/
def lookF (ns : List Str) (ds : List D) (f : Str) : Option D := (ns.zip ds).lookup f
theorem Reps.lookF {T : Tx} {F : Hp} {φ : List Addr} {f : Str} : ∀ {ns : List Str} {ds : List D} {us : List V} {d : D}, Reps T F φ ds us → Z.lookF ns ds f = some d → ∃ v, (ns.zip us).lookup f = some v ∧ Rep T F φ d v
  | [], _, _, _, _, h => by simp [Z.lookF] at h
  | n :: ns, [], _, _, _, h => by simp [Z.lookF] at h
  | n :: ns, d0 :: ds, _, d, ⟨u, r, rfl, h1, h2⟩, h => by
    unfold Z.lookF at h
    rw [List.zip_cons_cons, List.lookup_cons] at h
    rw [List.zip_cons_cons, List.lookup_cons]
    cases q : f == n with
    | true =>
      rw [q] at h
      cases h
      exact ⟨u, rfl, h1⟩
    | false =>
      rw [q] at h
      exact Reps.lookF h2 h
def fldM (tb : List Str) (C : Str) (ns : List Str) (ds : List D) (f : Str) : M W := fun s => if tb.contains C = true then bnd (opt (lookF ns ds f)) (fun d => ret (.val d)) s else .stuck
def XfT (K : PySem.W.Frag) (mg : Str → Option Value) (tb : List Str) (f : Str) : Prop := ∀ C ∈ tb, ∃ A, mg C = some (.ref A) ∧ XfC K A ∧ PySem.W.findIn K (.ref A) f = some none
def isM (tb : List (Str × Str)) (C x : Str) : M W := fun s => if tb.contains (C, x) = true then .ok (.val (.bl true)) s else .stuck
section
open PySem.W PySem.Calls PySem.Spec PyProof.Rows
variable {X : Cx} {a : Addr} {oe : Obj} {cls : Value} {d : Option Addr} {pn : List (Addr × Obj)} {C : Str} {ns : List Str} {ds : List D} {n : Str} {pos p p2 p3 : Pos}
theorem xe_fld (i : Nat) (f : Str) {tb : List Str} (hx : XfT X.K X.mg tb f) (hz : Zc cls d oe) (hf : ∃ vs, oe.data = .fields vs) (hN : X.N[i]? = some n := by rfl) (hv : Vis X.env.scope n := by first | exact Or.inl rfl | exact Or.inr (Or.inl rfl) | exact Or.inr (Or.inr rfl)) (hd : (n == ("__debug__" : Str)) = false := by decide) (hcd : (n == ("__classdict__" : Str)) = false := by decide)
    (hb : attributeBase (.Name n p) f X.env (eval (.Name n p) X.env) = eval (.Name n p) X.env := by rfl) : XE (X.suite a ((a, oe) :: pn)) (ExF (tx X) i a cls d C ns ds) (.Attribute (.Name n p) f pos) (fldM tb C ns ds f) := by
  refine ⟨⟨fun pins s σ H Q Iv ⟨c, e1, e2, O, ⟨A, dd, us, k1, k2, k3, k4, k5, k6, k7, k8⟩, q⟩ => ?_⟩⟩
  subst e1 e2
  unfold fldM at q
  by_cases hc : tb.contains C = true
  rotate_left
  · rw [if_neg hc] at q
    exact q.elim
  rw [if_pos hc] at q
  obtain ⟨A', hA, h1, h2⟩ := hx C (List.contains_iff_mem.mp hc)
  have k3 : X.mg C = some (.ref A) := k3
  rw [k3] at hA
  cases hA
  obtain ⟨y, ey, q⟩ := Post.opt q
  obtain ⟨v, l, r⟩ := Reps.lookF k7 ey
  exact (pe_xf h1 h2 hz hf (pe_var (X := X.suite a ((a, oe) :: pn)) hN hv hd hcd) hb).run pins s c.σ c.H Q Iv ⟨.ref a, k8, rfl, k1, dd, ns.zip us, v, k2, k5, l, Post.here q O v r⟩
/-- isinstance(e, x) -/
def rIsY (K : PySem.W.Frag) (A a : Addr) : List V → Hp → VK → Prop := fun xs H Q => ∃ B, xs = [.ref a, .ref B] ∧ ((Value.ref A) == .ref B) = false ∧ PySem.W.kitCls K (.ref A) (.ref B) = some true ∧ Q (.bl true) H
theorem call_isY {A : Addr} (hz : Zc (.ref A) d oe) : CallR (X.suite a ((a, oe) :: pn)) (.builtin "isinstance") (rIsY X.K A a) := by
  intro pins s σ H xs us Q I r h
  obtain ⟨B, rfl, ne, e, q⟩ := h
  cases r with
  | cons rx rr =>
  cases rr with
  | cons rt rr =>
  cases rr
  cases rx
  cases rt
  obtain ⟨get, _⟩ := I.pin (a, oe) (List.mem_append.mpr (.inl List.mem_cons_self))
  exact call_isinstance (S := fun _ R s => ((X.K.In s.heap) ∧ ∃ o, s.heap.get? a = some o ∧ o.cls = .ref A) ∧ ∀ tk, R (.ok (.ret (.bool true))) { s with toks := tk })
    (fun prog w A' R s hs => isinstance_outer (ans_yes ne e 0 _ prog w A' R s hs) (fun z => nomatch z)) ⟨⟨I.kIn, oe, get, hz.1⟩, fun tk => ⟨.bl true, H, I.kept (t' := tk) fun _ _ z => z, rfl, q⟩⟩
def IsT (K : PySem.W.Frag) (mg : Str → Option Value) (tb : List (Str × Str)) : Prop := ∀ C x, (C, x) ∈ tb → ∃ A B, mg C = some (.ref A) ∧ mg x = some (.ref B) ∧ ((Value.ref A) == .ref B) = false ∧ PySem.W.kitCls K (.ref A) (.ref B) = some true
theorem xe_is (i : Nat) {x : Str} {tb : List (Str × Str)} (ht : IsT X.K X.mg tb) (hz : Zc cls d oe) (hg : Gl X "isinstance") (hm : X.mg "isinstance" = none) (hv : bootBuiltins "isinstance" = some (.builtin "isinstance")) (hgx : Gl X x)
    (hN : X.N[i]? = some n := by rfl) (hv2 : Vis X.env.scope n := by first | exact Or.inl rfl | exact Or.inr (Or.inl rfl) | exact Or.inr (Or.inr rfl)) (hd : (n == ("__debug__" : Str)) = false := by decide) (hcd : (n == ("__classdict__" : Str)) = false := by decide) (hdx : (x == ("__debug__" : Str)) = false := by decide)
    (hs1 : starEach [.Name n p2, .Name x p3] X.env = (false, eval (.Name n p2) X.env) :: starEach [.Name x p3] X.env := by rfl) (hs2 : starEach [.Name x p3] X.env = (false, eval (.Name x p3) X.env) :: starEach [] X.env := by rfl) (hpl : (backTo pos (starEach [.Name x p3] X.env)).any (·.1) = false := by rfl) :
    XE (X.suite a ((a, oe) :: pn)) (ExF (tx X) i a cls d C ns ds) (.Call (.Name "isinstance" p) [.Name n p2, .Name x p3] [] pos) (isM tb C x) := by
  refine ⟨⟨fun pins s σ H Q Iv ⟨c, e1, e2, O, ⟨A, dd, us, k1, k2, k3, k4, k5, k6, k7, k8⟩, q⟩ => ?_⟩⟩
  subst e1 e2 k1
  unfold isM at q
  by_cases hc : tb.contains (C, x) = true
  · rw [if_pos hc] at q
    obtain ⟨A', B, m1, m2, ne, kc⟩ := ht C x (List.contains_iff_mem.mp hc)
    have k3 : X.mg C = some (.ref A) := k3
    rw [k3] at m1
    cases m1
    have pa : PA (X.suite a ((a, oe) :: pn)) [.Name n p2, .Name x p3] (tCons (tVar i) (tCons (tC (.ref B)) tNil)) := pa_cons (pe_var (X := X.suite a ((a, oe) :: pn)) hN hv2 hd hcd) (pa_cons (pe_glob (X := X.suite a ((a, oe) :: pn)) hgx m2 rfl hdx) pa_nil hs2) hs1
    exact (pe_callB (call_isY (X := X) (pn := pn) hz) hg hm hv pa).run pins s c.σ c.H Q Iv ⟨_, k8, B, rfl, ne, kc, q.here O _ rfl⟩
  · rw [if_neg hc] at q
    exact q.elim
end
end Z

namespace Z
open PySem L2

/-! ## try .. except x as n: return e -/
abbrev Hd := Str × Nat × (Str → List Str → List D → M W)
def exLook (tb : List (Str × Str × Bool)) (C x : Str) : Option Bool := match tb with
  | [] => none
  | (a, b, r) :: t => if a = C ∧ b = x then some r else exLook t C x
def disp (tb : List (Str × Str × Bool)) (C : Str) (ns : List Str) (ds : List D) (s : S) : List Hd → Out Fl
  | [] => .exc C ns ds s
  | (x, i, g) :: r => match exLook tb C x with
    | some true => if i < s.e.length then match g C ns ds { s with e := s.e.set i .un } with
        | .ok w s2 => .ok (.ret w) s2
        | _ => .stuck
      else .stuck
    | some false => disp tb C ns ds s r
    | none => .stuck
def tryM (tb : List (Str × Str × Bool)) (f : M Fl) (hs : List Hd) : M Fl := fun s => match f s with
  | .exc C ns ds s1 => disp tb C ns ds s1 hs
  | o => o
def ExT (K : PySem.W.Frag) (mg : Str → Option Value) (tb : List (Str × Str × Bool)) : Prop := ∀ C x b, (C, x, b) ∈ tb → ∃ A B, mg C = some (.ref A) ∧ mg x = some (.ref B) ∧ PySem.W.exmOne K (.ref A) (.ref B) = some b
theorem exLook_mem {tb : List (Str × Str × Bool)} {C x : Str} {b : Bool} : exLook tb C x = some b → (C, x, b) ∈ tb := by
  induction tb with
  | nil => intro h; cases h
  | cons p t ih =>
    intro h
    obtain ⟨a, y, r⟩ := p
    unfold exLook at h
    split at h
    · rename_i q
      cases h
      rw [q.1, q.2]
      exact List.mem_cons_self
    · exact List.mem_cons_of_mem _ (ih h)
inductive ZCls (X : Cx) : List ExceptHandler → List Hd → Prop
  | nil : ZCls X [] []
  | cons {x n : Str} {i : Nat} {g : Str → List Str → List D → M W} {e : Expr} {np rp pos' : Pos} {hds : List ExceptHandler} {hs : List Hd} (hg : Gl X x) (hm : ∃ B, X.mg x = some (.ref B)) (hdb : (x == ("__debug__" : Str)) = false) (hi : X.N[i]? = some n) (hln : X.env.kindOf n = some .local)
      (he : ∀ (a : Addr) (oe : Obj) (cls : Value) (d : Option Addr) (pn : List (Addr × Obj)), Zc cls d oe → (∃ vs, oe.data = .fields vs) → ∀ C ns ds, XE (X.suite a ((a, oe) :: pn)) (ExF (tx X) i a cls d C ns ds) e (g C ns ds)) (r : ZCls X hds hs) :
      ZCls X (.ExceptHandler (some (.Name x np)) (some n) [.Return (some e) rp] pos' :: hds) ((x, i, g) :: hs)
def toCl (X : Cx) (h : Hd) : Cl := ⟨(X.mg h.1).getD .none, h.2.1, fun a cls d D σ H => ∃ (c : Cf) (C : Str) (ns : List Str) (ds : List Z.D), c.σ = σ ∧ c.H = H ∧ Ok (tx X) c ∧ ExF (tx X) h.2.1 a cls d C ns ds c ∧ Post (tx X) c (h.2.2 C ns ds c.s) (fun c1 w => ∀ v, RepW (tx X) H c1 w v → D.rt v c1.H) noE⟩
theorem ZCls.ok {X : Cx} {hds : List ExceptHandler} {hs : List Hd} (h : ZCls X hds hs) : ClsOk X hds (hs.map (toCl X)) := by
  induction h with
  | nil => exact .nil
  | @cons x n i g e np rp pos' hds hs hg hm hdb hi hln he r ih =>
    obtain ⟨B, hm⟩ := hm
    refine ClsOk.cons (k := toCl X (x, i, g)) ⟨hg, hdb, .inl ?_⟩ hi hln (fun a oe cls d pn hz hf => pss_one ⟨fun pins s σ H D I ⟨c, C, ns, ds, e1, e2, O, ex, p⟩ => ?_⟩) ih
    · show X.mg x = some ((X.mg x).getD .none)
      rw [hm]; rfl
    · exact (ps_ret (he a oe cls d pn hz hf C ns ds).pe).run pins s σ H D I ⟨c, e1, e2, O, ex, p⟩
/-- slot i is the error's -/
theorem Ok.unslot {T : Tx} {c : Cf} {i : Nat} {u : Option V} (O : Ok T c) : Ok T { c with s := { c.s with e := c.s.e.set i .un }, σ := c.σ.set i u } ∧ Ext c { c with s := { c.s with e := c.s.e.set i .un }, σ := c.σ.set i u } := by
  have at_ : ∀ {j : Nat} {sl : Slot}, (c.s.e.set i .un)[j]? = some sl → sl ≠ .un → j ≠ i ∧ c.s.e[j]? = some sl := fun {j sl} e n => by
    by_cases q : j = i
    · subst q
      by_cases l : j < c.s.e.length
      · rw [List.getElem?_set_self l] at e
        cases e
        exact absurd rfl n
      · rw [List.getElem?_eq_none_iff.mpr (by rw [List.length_set]; omega)] at e
        cases e
    · rw [List.getElem?_set_ne (Ne.symm q)] at e
      exact ⟨q, e⟩
  have own : ∀ j b, Own { c with s := { c.s with e := c.s.e.set i .un }, σ := c.σ.set i u } j b → Own c j b := fun j b ⟨⟨cl, e⟩, e2⟩ => by
    obtain ⟨q, e⟩ := at_ (show (c.s.e.set i .un)[j]? = some (.ow cl) from e) (fun z => nomatch z)
    have e2 : (c.σ.set i u)[j]? = _ := e2
    rw [List.getElem?_set_ne (Ne.symm q)] at e2
    exact ⟨⟨cl, e⟩, e2⟩
  have mu : ∀ b, Mu { c with s := { c.s with e := c.s.e.set i .un }, σ := c.σ.set i u } b → Mu c b := fun b m => m.elim .inl fun ⟨j, m⟩ => .inr ⟨j, own j b m⟩
  refine ⟨⟨O.le, O.len, O.cell, O.nd, fun j d e => ?_, fun j cl e => ?_, fun j k b x y => O.apart j k b (own j b x) (own k b y), fun j b x => O.out j b (own j b x), fun b m => O.free b (mu b m), ?_⟩,
    ⟨fun _ _ h => h, List.prefix_refl _, fun _ _ h _ => h, fun _ h => h, fun b m => .inl (mu b m), fun _ h => .inl h⟩⟩
  · obtain ⟨q, e⟩ := at_ (show (c.s.e.set i .un)[j]? = some (.fz d) from e) (fun z => nomatch z)
    show ∃ v, (c.σ.set i u)[j]? = some (some v) ∧ _
    rw [List.getElem?_set_ne (Ne.symm q)]
    exact O.fz j d e
  · obtain ⟨q, e⟩ := at_ (show (c.s.e.set i .un)[j]? = some (.ow cl) from e) (fun z => nomatch z)
    show ∃ v, (c.σ.set i u)[j]? = some (some (.ref v)) ∧ _
    rw [List.getElem?_set_ne (Ne.symm q)]
    exact O.ow j cl e
  · show (c.s.e.set i .un).length = (c.σ.set i u).length
    rw [List.length_set, List.length_set]
    exact O.elen
theorem disp_ok {X : Cx} {Wx : WX} {D0 : Ends} {tb : List (Str × Str × Bool)} (ht : ExT X.K X.mg tb) {c c1 : Cf} {C : Str} {ns : List Str} {ds : List D} {A d : Addr} {us : List V} (O1 : Ok (tx X) c1) (x1 : Ext c c1) (hA : X.mg C = some (.ref A)) (hl : us.length = ns.length) (hd : c1.H d = some (.xd (ns.zip us)))
    (rs : Reps (tx X) c1.F c1.φ ds us) (nm : ¬ Mu c1 d) : ∀ (hs : List Hd), PostS (tx X) c (disp tb C ns ds c1.s hs) D0 Wx → wAll X.K Wx D0 (hs.map (toCl X)) (.ref A) (some d) c1.σ c1.H
  | [], p => p c1 A d us rfl O1 x1 hA hl hd rs nm
  | (x, i, g) :: r, p => by
    unfold disp at p
    cases e : exLook tb C x with
    | none => rw [e] at p; exact p.elim
    | some b =>
    rw [e] at p
    obtain ⟨A', B, m1, m2, ex⟩ := ht C x b (exLook_mem e)
    rw [hA] at m1
    cases m1
    refine ⟨b, by show PySem.W.exmOne X.K (.ref A) ((X.mg x).getD .none) = some b; rw [m2]; exact ex, fun hb a ha => ?_, fun hb => ?_⟩
    · subst hb
      dsimp only at p
      by_cases li : i < c1.s.e.length
      rotate_left
      · rw [if_neg li] at p
        exact p.elim
      rw [if_pos li] at p
      obtain ⟨O2, x2⟩ := O1.unslot (i := i) (u := some (.ref a))
      refine ⟨_, C, ns, ds, (by rfl), (by rfl), O2, ⟨A, d, us, rfl, rfl, hA, hl, hd, fun m => ?_, rs, ?_⟩, ?_⟩
      · rcases x2.mu d m with m | m
        · exact nm m
        · rw [hd] at m; cases m
      · show (c1.σ.set i (some (.ref a)))[i]? = some (some (.ref a))
        exact List.getElem?_set_self (by rw [← O1.elen]; exact li)
      · show Post _ _ (g C ns ds { c1.s with e := c1.s.e.set i .un }) _ _
        cases q : g C ns ds { c1.s with e := c1.s.e.set i .un } with
        | stuck => rw [q] at p; exact p.elim
        | exc C2 ns2 ds2 s2 => rw [q] at p; exact p.elim
        | ok w s2 =>
          rw [q] at p
          intro c3 k1 k2 O3 x3 v rv
          have x13 := x1.trans (x2.trans x3)
          exact p c3 k1 O3 x13 v (RepW.early (x1.trans x2) rv)
    · subst hb
      exact disp_ok ht O1 x1 hA hl hd rs nm r p
section
variable {X : Cx} {Wx : WX} {body : List Stmt} {h₀ : ExceptHandler} {hds : List ExceptHandler} {pos : Pos} {f : M Fl} {hs : List Hd}
theorem ss_try {tb : List (Str × Str × Bool)} (ht : ExT X.K X.mg tb) (hb : ∀ (W : WX) (pn : List (Addr × Obj)) (xe : Value → Shared → Prop), Takes (X.tr pn xe) W → PassesOwn (model X.prog X.w) X.A X.env xe → SSs (X.tr pn xe) W body f) (hh : ZCls X (h₀ :: hds) hs) (tk : Takes X Wx) (hN : X.N.Nodup)
    (hst : X.stack = X.env :: X.outer := by rfl) (hf : X.env.frame = some X.env.locals := by rfl) : SS X Wx (.Try body (h₀ :: hds) [] [] pos) (tryM tb f hs) := ⟨⟨fun pins s σ H D I ⟨c, e1, e2, O, p⟩ => by
  refine (ps_try_all hst hf hN tk (tb := fun W => tSS X W f) (fun W pn xe t po => (hb W pn xe t po).ps) hh.ok).run pins s σ H D I ?_
  subst e1 e2
  refine ⟨c, rfl, rfl, O, ?_⟩
  unfold tryM at p
  cases q : f c.s with
  | stuck => rw [q] at p; exact p
  | ok fl s1 => rw [q] at p; exact p
  | exc C ns ds s1 =>
    rw [q] at p
    intro c1 A d us k1 O1 x1 hA hl hd rs nm
    rw [← k1] at p
    exact disp_ok ht O1 x1 hA hl hd rs nm hs p⟩⟩
end
end Z

namespace Z
open PySem L2

/-! ## Classes of the text -/
/-- a callee runs at a state of ours -/
theorem spF_of {T : Tx} {n : Nat} {F : List D → M W} {c : Cf} {ds : List D} {us : List V} {Q : VK} {E : XK} (O : Ok T c) (r : Reps T c.F c.φ ds us) (hl : ds.length = n) (hst : F ds ⟨[], c.s.h⟩ ≠ .stuck)
    (ho : ∀ w s1, F ds ⟨[], c.s.h⟩ = .ok w s1 → ∀ c1 v, c1.s = ⟨c.s.e, s1.h⟩ → c1.σ = c.σ → Ok T c1 → Ext c c1 → RepW T c.H c1 w v → Q v c1.H)
    (hx : ∀ C ns vs s1, F ds ⟨[], c.s.h⟩ = .exc C ns vs s1 → ∀ c1 A d ws, c1.s = ⟨c.s.e, s1.h⟩ → c1.σ = c.σ → Ok T c1 → Ext c c1 → T.mg C = some (.ref A) → ws.length = ns.length → c1.H d = some (.xd (ns.zip ws)) → Reps T c1.F c1.φ vs ws → ¬ Mu c1 d → E (.ref A) (some d) c1.H) :
    spF T n F us c.H Q E := by
  refine ⟨by rw [r.len]; exact hl, c.bare, ds, rfl, rfl, rfl, O.bare, r, ?_⟩
  show Post _ _ (F ds ⟨[], c.s.h⟩) _ _
  cases q : F ds ⟨[], c.s.h⟩ with
  | stuck => exact absurd q hst
  | exc C ns vs s1 =>
    intro c1 A d ws k1 k2 O1 x1 k3 k4 k5 k6 k7
    have hb : c1.s.e = [] := List.eq_nil_of_length_eq_zero (by rw [O1.elen, k2]; rfl)
    obtain ⟨O2, x2⟩ := call_back O O1 x1 hb
    refine hx C ns vs s1 q (c1.with c.s.e c.σ) A d ws (by show (⟨c.s.e, c1.s.h⟩ : S) = _; rw [k1]) rfl O2 x2 k3 k4 k5 k6 fun m => ?_
    rcases m with m | ⟨i, m⟩
    · exact k7 (.inl m)
    · obtain ⟨cl, hcl⟩ := m.1
      obtain ⟨a, ea, hc⟩ := O.ow i cl hcl
      have e2 : c.σ[i]? = some (some (.ref d)) := m.2
      rw [e2] at ea
      cases ea
      obtain ⟨o, e3, _⟩ := hc.there
      have e5 := x1.keep d o e3 (fun z => O.out i d ⟨⟨cl, hcl⟩, e2⟩ (mu_bare.mp z))
      rw [k5] at e5
      cases e5
      cases cl with
      | lst xs => obtain ⟨_, z, _⟩ := hc; rw [e3] at z; cases z
      | dK ks vs => obtain ⟨_, _, z, _⟩ := hc; rw [e3] at z; cases z
      | dT ks vs => obtain ⟨_, _, z, _⟩ := hc; rw [e3] at z; cases z
      | ins C ns vs => obtain ⟨_, _, _, _, _, z, _⟩ := hc; rw [e3] at z; cases z
  | ok w s1 =>
    intro c1 k1 k2 O1 x1 v rv
    have hb : c1.s.e = [] := List.eq_nil_of_length_eq_zero (by rw [O1.elen, k2]; rfl)
    obtain ⟨O2, x2⟩ := call_back O O1 x1 hb
    refine ho w s1 q (c1.with c.s.e c.σ) v (by show (⟨c.s.e, c1.s.h⟩ : S) = _; rw [k1]) rfl O2 x2 ?_
    cases w with
    | val d => exact rv
    | slot i =>
      have rv : c1.σ[i]? = some (some v) := rv
      rw [k2] at rv
      cases i <;> cases rv
    | new cl =>
      obtain ⟨a, ea, hc, hf, hn, hz⟩ := rv
      refine ⟨a, ea, hc, hf, fun m => ?_, hz⟩
      rcases m with m | ⟨i, m⟩
      · exact hn (.inl m)
      · obtain ⟨o, e1, _⟩ := O.there (.inr ⟨i, m⟩)
        have hz : c.H a = none := hz
        rw [hz] at e1
        cases e1
/-- a method (or __init__) of the class of the global name x -/
def MDef (P : Program) (w : World) (K : PySem.W.Frag) (mg : Str → Option Value) (base : Heap) (x m : Str) (k : Nat) (ps : List Str) (F : List D → M W) : Prop :=
  ∃ C f fd, mg x = some (.ref C) ∧ Meth K C m f ∧ Binds K fd ps [] ∧ FnG P w K mg base k f fd ps (spF ⟨K, mg⟩ ps.length F)
/-- C(..) -/
def makeM (x : Str) (n : Nat) (F : List D → M W) (fs : M (List W)) : M W := bnd fs fun ws => bnd (toDs ws) fun ds s => if ds.length + 1 = n then match F (.ref s.h.length :: ds) ⟨[], s.h ++ [.ins x [] []]⟩ with
  | .ok (.val .non) s1 => .ok (.val (.ref s.h.length)) ⟨s.e, s1.h⟩
  | .ok _ _ => .stuck
  | .exc C ns vs s1 => .exc C ns vs ⟨s.e, s1.h⟩
  | .stuck => .stuck else .stuck
/-- o.m(..) -/
def methM (x m : Str) (n : Nat) (F : List D → M W) (fo : M W) (fs : M (List W)) : M W := bnd fo fun o => bnd (toD o) fun d => bnd (viewD d) fun dv => bnd (guard (match dv with
    | .obj C ns _ => decide (C = x) && !ns.contains m
    | _ => false)) fun _ => bnd fs fun ws => bnd (toDs ws) fun ds s => if ds.length + 1 = n then match F (d :: ds) ⟨[], s.h⟩ with
  | .ok w s1 => .ok w ⟨s.e, s1.h⟩
  | .exc C ns vs s1 => .exc C ns vs ⟨s.e, s1.h⟩
  | .stuck => .stuck else .stuck
section
variable {X : Cx} {Wx : WX} {e o : Expr} {es : List Expr} {pos p apos : Pos} {fo : M W} {fs : M (List W)} {x m : Str} {k : Nat} {ps : List Str} {F : List D → M W}
theorem run_makeS {C f : Addr} {fd : FuncData} {sp : Sp} {E : XK} {pins : List (Addr × Obj)} {σ : St} {H : Hp} {s : Shared} {Q : VK} {us : List Value} {vs : List V} (M : Mk X.K C f) (G : FnG X.prog X.w X.K X.mg X.base k f fd ps sp) (hr : RoomG (k + 1) X.A) (hb : Binds X.K fd ps [])
    (hx : PassesAt (L2.CX X.prog X.w) X σ E) (I : Inv X pins σ H s) (r : Vals vs us)
    (h : ∀ x dx, H x = none → H dx = none → dx ≠ x → sp (.ref x :: vs) (upd (upd H dx (.own x)) x (.ins C dx [])) (fun v H2 => v = .non ∧ Q (.ref x) H2) E) : wpAny (model X.prog X.w) X.A (call (.ref C) us) (EP X pins σ Q) X.xe s := by
  have I2 := Inv.made (C := C) I
  have pre := h _ _ (I.hok.fresh (Nat.le_succ _)) (I.hok.fresh (Nat.le_refl _)) (Nat.ne_of_lt (Nat.lt_succ_self _))
  have rr : Vals (V.ref (s.heap.objs.size + 1) :: vs) (Value.ref (s.heap.objs.size + 1) :: us) := .cons rfl r
  have hl : (Value.ref (s.heap.objs.size + 1) :: us ++ []).length = ps.length := by
    rw [List.append_nil, ← rr.length]
    exact G.len _ _ _ _ pre
  have bound := hb _ (Value.ref (s.heap.objs.size + 1) :: us) I2.kIn hl
  rw [List.append_nil] at bound
  refine wpAny_call (make_map (f := f) I.kIn M.makes M.init (beq_iff_eq.mp M.fn) (codeAny_mono (G.run _ X.stack _ _ ⟨Value.ref (s.heap.objs.size + 1) :: us, []⟩ _ _ _ E (hr.make C us []) (I2.env0.make C us []) bound rr pre) fun r s' hq => ?_))
  cases r with
  | error er => exact hx pins _ _ er s' I2 hq
  | ok fl =>
    cases fl with
    | ret u =>
      obtain ⟨v, H', I3, rv, ev, q3⟩ := I2.after hq
      subst ev
      exact ⟨rv, V.ref (s.heap.objs.size + 1), H', I3, rfl, q3⟩
    | next => exact hq.elim
    | brk => exact hq.elim
    | cont => exact hq.elim
/-- the class of the global name x is made by its own __init__ -/
def KDef (P : Program) (w : World) (K : PySem.W.Frag) (mg : Str → Option Value) (base : Heap) (x : Str) (k : Nat) (ps : List Str) (F : List D → M W) : Prop :=
  ∃ C f fd, mg x = some (.ref C) ∧ Mk K C f ∧ Binds K fd ps [] ∧ FnG P w K mg base k f fd ps (spF ⟨K, mg⟩ ps.length F)
theorem make_of {C : Addr} (hm : X.mg x = some (.ref C)) {σ : St} {H : Hp} {Q : VK} {n : Nat} (h : tSE X Wx (makeM x n F fs) σ H Q) :
    tSA X Wx fs σ H fun us H1 => ∀ a dx, H1 a = none → H1 dx = none → dx ≠ a → spF (tx X) n F (.ref a :: us) (upd (upd H1 dx (.own a)) a (.ins C dx [])) (fun v H2 => v = .non ∧ Q (.ref a) H2) (fun cls d H => Wx cls d σ H) := by
  obtain ⟨c, e1, e2, O, p⟩ := h
  subst e1 e2
  refine (tSA_toDs O p).mono fun us H1 ⟨c2, ds, h1, h2, O2, x2, r2, p2⟩ a dx ha hd ne => ?_
  subst h1
  have T := tx X
  obtain ⟨O3, x3⟩ := O2.alloc (o := .own a) hd
  have ha3 : upd c2.H dx (.own a) a = none := by rw [upd_ne (Ne.symm ne)]; exact ha
  obtain ⟨O4, x4⟩ := O3.alloc (o := .ins C dx []) ha3
  have hc : CellAt (tx X) c2.F c2.φ (upd (upd c2.H dx (.own a)) a (.ins C dx [])) (.ins x [] []) a := ⟨C, dx, [], rfl, hm, upd_same, by rw [upd_ne ne]; exact upd_same, rfl⟩
  have hf : c2.F a = none := F_none O2 ha
  have nm : ¬ Mu c2 a := Mu.none O2 ha
  have nφ : a ∉ c2.φ := fun z => nm (.inl z)
  obtain ⟨O5, mu5⟩ := newCell (c := { c2 with H := upd (upd c2.H dx (.own a)) a (.ins C dx []) }) (e' := c2.s.e) O4 hc hf nφ rfl (fun i d h => .inl h) (fun i cl h => ⟨h, fun q => nm (.inr ⟨i, ⟨cl, h⟩, q⟩)⟩)
  have x5 := newExt (s1 := ⟨c2.s.e, c2.s.h ++ [.ins x [] []]⟩) (x3.trans x4) (.inl ha) mu5
  by_cases hl : ds.length + 1 = n
  rotate_left
  · rw [if_neg hl] at p2
    exact p2.elim
  rw [if_pos hl] at p2
  have rn : Rep (tx X) c2.F (c2.φ ++ [a]) (.ref c2.s.h.length) (.ref a) := ⟨a, by rw [← O2.len]; simp, rfl⟩
  have rr : Reps (tx X) c2.F (c2.φ ++ [a]) (.ref c2.s.h.length :: ds) (.ref a :: us) := ⟨_, _, rfl, rn, r2.mono (fun _ _ z => z) (List.prefix_append _ _)⟩
  refine spF_of (c := { c2 with H := upd (upd c2.H dx (.own a)) a (.ins C dx []), φ := c2.φ ++ [a], s := ⟨c2.s.e, c2.s.h ++ [.ins x [] []]⟩ }) O5 rr (by rw [List.length_cons]; exact hl) (fun q => ?_) (fun w s1 q c6 v k1 k2 O6 x6 rv => ?_) (fun C' ns vs s1 q c6 A d ws k1 k2 O6 x6 m1 m2 m3 m4 m5 => ?_)
  · have q : F (.ref c2.s.h.length :: ds) ⟨[], c2.s.h ++ [.ins x [] []]⟩ = .stuck := q
    rw [q] at p2
    exact p2
  · have q : F (.ref c2.s.h.length :: ds) ⟨[], c2.s.h ++ [.ins x [] []]⟩ = .ok w s1 := q
    rw [q] at p2
    cases w with
    | slot i => exact p2.elim
    | new cl => exact p2.elim
    | val y =>
      cases y with
      | non =>
        refine ⟨rv, ?_⟩
        have x26 := (x2.trans x5).trans x6
        exact p2 c6 k1 (k2.trans h2) O6 x26 (.ref a) ⟨a, pre_get x6.pre (by show (c2.φ ++ [a])[c2.s.h.length]? = some a; rw [← O2.len]; simp), rfl⟩
      | _ => exact p2.elim
  · have q : F (.ref c2.s.h.length :: ds) ⟨[], c2.s.h ++ [.ins x [] []]⟩ = .exc C' ns vs s1 := q
    rw [q] at p2
    have x26 := (x2.trans x5).trans x6
    have z := p2 c6 A d ws k1 (k2.trans h2) O6 x26 m1 m2 m3 m4 m5
    rw [show c6.σ = c.σ from k2.trans h2] at z
    exact z
theorem se_make {n : Nat} (h : KDef X.prog X.w X.K X.mg X.base x k ps F) (hr : RoomG (k + 1) X.A) (tk : Takes X Wx) (hg : Gl X x) (ha : SA X Wx (e :: es) fs) (hn : ps.length = n := by rfl) (hdb : (x == ("__debug__" : Str)) = false := by decide)
    (he : starEach (e :: es) X.env = (false, eval e X.env) :: starEach es X.env := by rfl) (hpl : (backTo pos (starEach es X.env)).any (·.1) = false := by rfl) : SE X Wx (.Call (.Name x p) (e :: es) [] pos) (makeM x n F fs) := by
  subst hn
  obtain ⟨C, f, fd, hm, M, hb, G⟩ := h
  refine ⟨⟨fun pins s σ H Q I q => ?_⟩⟩
  refine wpAny_Call_Name_kw (ld_glob I hg hm ?_ hdb)
  refine PySem.W.callWith_K (h₀ := X.base) I.ok.mod.kin M.kp (thn (ha.pa.run pos pins s σ H _ I (make_of hm q)) fun us s1 ⟨vs, H1, I1, r, q1⟩ => ⟨I1.kIn, ?_⟩) he hpl
  exact run_makeS M G hr hb (passAt tk σ) I1 r q1
theorem meth_of {C : Addr} (hm : X.mg x = some (.ref C)) {σ : St} {H : Hp} {Q : VK} {n : Nat} (h : tSE X Wx (methM x m n F fo fs) σ H Q) :
    tSE X Wx fo σ H fun v H1 => ∃ a dx us, v = .ref a ∧ H1 a = some (.ins C dx us) ∧ us.lookup m = none ∧ tSA X Wx fs σ H1 fun vs H2 => spF (tx X) n F (.ref a :: vs) H2 Q (fun cls d H => Wx cls d σ H) := by
  obtain ⟨c, e1, e2, O, p⟩ := h
  subst e1 e2
  refine ⟨c, rfl, rfl, O, (Post.bnd2 p (Ext.refl c) rfl).imp fun c1 w hσ1 O1 x1 ⟨_, _, p1⟩ v r => ?_⟩
  obtain ⟨c2, d, z1, z2, O2, x2, r2, p2⟩ := p1.toD O1 x1 hσ1 r
  obtain ⟨dv, rv, p3⟩ := Post.view (H0 := c2.H) (w := .val d) p2 O2 x2 (z1.trans hσ1) r2
  obtain ⟨hgd, p4⟩ := p3.guard
  have up := rv.up O2
  cases dv with
  | obj C' ns ys =>
    rw [Bool.and_eq_true, decide_eq_true_eq] at hgd
    obtain ⟨rfl, hns⟩ := hgd
    obtain ⟨a, A, dx, us, rfl, hl, hm', ha, hdx, rs⟩ := up
    have hm' : X.mg C' = some (.ref A) := hm'
    rw [hm] at hm'
    cases hm'
    rw [← z2]
    refine ⟨a, dx, _, rfl, ha, ?_, ?_⟩
    · have : ∀ {ns : List Str} {us : List V}, ns.contains m = false → (ns.zip us).lookup m = none := by
        intro ns
        induction ns with
        | nil => intros; rfl
        | cons n ns ih =>
          intro us h
          cases us with
          | nil => rfl
          | cons u us =>
            rw [List.contains_cons, Bool.or_eq_false_iff] at h
            rw [List.zip_cons_cons, List.lookup_cons, h.1]
            exact ih h.2
      exact this (by simpa using hns)
    · have hσ2 := z1.trans hσ1
      refine ⟨c2, hσ2, rfl, O2, (Post.bnd2 p4 x2 hσ2).imp fun c3 ws hσ3 O3 x3 ⟨x4, hσ4, p5⟩ vs r3 => ?_⟩
      obtain ⟨c4, ds, h1, h2, O4, x5, r4, p6⟩ := p5.toDs O3 r3
      rw [← h2]
      by_cases hl2 : ds.length + 1 = n
      rotate_left
      · rw [if_neg hl2] at p6
        exact p6.elim
      rw [if_pos hl2] at p6
      have x35 := x3.trans x5
      have r2' : Rep (tx X) c2.F c2.φ d (.ref a) := r2
      have rr : Reps (tx X) c4.F c4.φ (d :: ds) (.ref a :: vs) := ⟨_, _, rfl, r2'.mono x35.le x35.pre, r4⟩
      have hσ5 : c4.σ = c.σ := h1.trans hσ4
      refine spF_of O4 rr (by rw [List.length_cons]; exact hl2) (fun q => ?_) (fun w s1 q c6 v k1 k2 O6 x6 rv => ?_) (fun C' ns vs s1 q c6 A d ws k1 k2 O6 x6 m1 m2 m3 m4 m5 => ?_)
      · rw [q] at p6
        exact p6
      · rw [q] at p6
        exact p6 c6 k1 (k2.trans hσ5) O6 ((x4.trans x5).trans x6) v (RepW.early (x4.trans x5) rv)
      · rw [q] at p6
        have z := p6 c6 A d ws k1 (k2.trans hσ5) O6 ((x4.trans x5).trans x6) m1 m2 m3 m4 m5
        rw [show c6.σ = c.σ from k2.trans hσ5] at z
        exact z
  | _ => cases hgd
theorem se_meth {n : Nat} {pl : Sem Bool} (hC : ∃ C, X.mg x = some (.ref C) ∧ Cls X.K C) (h : MDef X.prog X.w X.K X.mg X.base x m k ps F) (hr : RoomG k X.A) (tk : Takes X Wx) (ho : SE X Wx o fo) (ha : SA X Wx (e :: es) fs) (hn : ps.length = n := by rfl)
    (hst : starEach (e :: es) X.env = (false, eval e X.env) :: starEach es X.env := by rfl) (hpl : (backTo pos (starEach es X.env)).any (·.1) = false := by rfl)
    (ht : eval (.Call (.Attribute o m apos) (e :: es) [] pos) X.env = (do
      let ov ← eval o X.env
      standAt apos.atName
      let (f, first) ← holding [ov] (getMethod ov m pl)
      callWith pos f first (backTo pos (starEach (e :: es) X.env)) (backToKw pos (keywordEach [] X.env))) := by rfl) : SE X Wx (.Call (.Attribute o m apos) (e :: es) [] pos) (methM x m n F fo fs) := by
  subst hn
  obtain ⟨C, f, fd, hm, M, hb, G⟩ := h
  obtain ⟨C', hm2, cl⟩ := hC
  rw [hm] at hm2
  cases hm2
  refine ⟨⟨fun pins s σ H Q I q => ?_⟩⟩
  refine PySem.W.methodCall_KW (pl := pl) (thn (ho.pe.run pins s σ H _ I (meth_of hm q)) fun u s1 ⟨v, H1, I1, rx, a, dx, us, ev, ea, l, q1⟩ => ?_) ht
  subst ev
  obtain rfl : u = Value.ref a := rx
  refine getmeth_ok I1 ea cl M l ?_
  refine PySem.W.callWith_K (first := [.ref a]) (h₀ := X.base) I1.ok.mod.kin M.kp (thn (ha.pa.run pos pins s1 σ H1 _ I1 q1) fun us s2 ⟨vs, H2, I2, r, q2⟩ => ⟨I2.kIn, ?_⟩) hst hpl
  exact run_fnG (us := .ref a :: us) (vs := .ref a :: vs) (dvs := []) (ds := []) (E := fun σ cls d H => Wx cls d σ H) G hr hb .nil (passAt tk σ) I2 (.cons rfl r) (by rw [List.append_nil]; exact q2)
theorem se_meth0 {n : Nat} {pl : Sem Bool} (hC : ∃ C, X.mg x = some (.ref C) ∧ Cls X.K C) (h : MDef X.prog X.w X.K X.mg X.base x m k ps F) (hr : RoomG k X.A) (tk : Takes X Wx) (ho : SE X Wx o fo) (hn : ps.length = n := by rfl)
    (ht : eval (.Call (.Attribute o m apos) [] [] pos) X.env = (do
      let ov ← eval o X.env
      standAt apos.atName
      let (f, first) ← holding [ov] (getMethod ov m pl)
      callWith pos f first (backTo pos (starEach [] X.env)) (backToKw pos (keywordEach [] X.env))) := by rfl) : SE X Wx (.Call (.Attribute o m apos) [] [] pos) (methM x m n F fo nilA) := by
  subst hn
  obtain ⟨C, f, fd, hm, M, hb, G⟩ := h
  obtain ⟨C', hm2, cl⟩ := hC
  rw [hm] at hm2
  cases hm2
  refine ⟨⟨fun pins s σ H Q I q => ?_⟩⟩
  refine PySem.W.methodCall_KW (pl := pl) (thn (ho.pe.run pins s σ H _ I (meth_of hm q)) fun u s1 ⟨v, H1, I1, rx, a, dx, us, ev, ea, l, q1⟩ => ?_) ht
  subst ev
  obtain rfl : u = Value.ref a := rx
  refine getmeth_ok I1 ea cl M l ?_
  exact PySem.W.callWith_K0 (first := [.ref a]) I1.kIn M.kp (run_fnG (us := [.ref a]) (vs := [.ref a]) (dvs := []) (ds := []) (E := fun σ cls d H => Wx cls d σ H) G hr hb .nil (passAt tk σ) I1 (.cons rfl .nil) (by rw [List.append_nil]; exact tSA_nil q1))
/-! ### attributes -/
def atrM (cs : List Str) (f : Str) (fo : M W) : M W := bnd fo fun o => bnd (view o) fun d => match d with
  | .obj C ns ds => if cs.contains C = true then bnd (opt (lookF ns ds f)) fun d => ret (.val d) else stuck
  | _ => stuck
/-- of which classes the instances have the field f -/
def AtT (K : PySem.W.Frag) (mg : Str → Option Value) (cs : List Str) (f : Str) : Prop := ∀ C ∈ cs, ∃ A, mg C = some (.ref A) ∧ Cls K A ∧ NoAttr K A f
theorem se_atr {cs : List Str} {f : Str} (ht : AtT X.K X.mg cs f) (ho : SE X Wx o fo) (hb : attributeBase o f X.env (eval o X.env) = eval o X.env := by rfl) : SE X Wx (.Attribute o f pos) (atrM cs f fo) := ⟨PE.imp (pe_fld ho.pe hb) fun σ H Q ⟨c, e1, e2, O, p⟩ => by
  subst e1 e2
  refine ⟨c, rfl, rfl, O, (Post.bnd2 p (Ext.refl c) rfl).imp fun c1 w hσ1 O1 x1 ⟨_, _, p1⟩ v r => ?_⟩
  obtain ⟨d, q, p2⟩ := p1.view O1 x1 hσ1 r
  cases d with
  | obj C ns ds =>
    dsimp only at p2
    by_cases hc : cs.contains C = true
    · rw [if_pos hc] at p2
      obtain ⟨A, hA, hcl, hno⟩ := ht C (List.contains_iff_mem.mp hc)
      obtain ⟨y, ey, p3⟩ := p2.opt
      cases q with
      | dat rr =>
        obtain ⟨a, A', dx, us, rfl, hl, hm', ha, hdx, rs⟩ := rr
        have hm' : X.mg C = some (.ref A') := hm'
        rw [hA] at hm'
        cases hm'
        obtain ⟨u, l, ru⟩ := Reps.lookF rs ey
        exact ⟨a, A, dx, _, u, rfl, O1.le _ _ ha, hcl, hno, l, p3.ok rfl hσ1 O1 x1 u ru⟩
      | cel cl a k1 k2 k3 =>
        cases cl with
        | ins C2 ns2 ds2 =>
          cases k1
          subst k2
          obtain ⟨A', dx, us, hl, hm', ha, hdx, rs⟩ := k3
          have hm' : X.mg C = some (.ref A') := hm'
          rw [hA] at hm'
          cases hm'
          obtain ⟨u, l, ru⟩ := Reps.lookF rs ey
          exact ⟨a, A, dx, _, u, rfl, ha, hcl, hno, l, p3.ok rfl hσ1 O1 x1 u ru⟩
        | _ => cases k1
    · rw [if_neg hc] at p2
      exact p2.elim
  | _ => exact p2.elim⟩
/-- a field is set -/
def putN (f : Str) (d : D) : List Str → List D → List Str × List D
  | n :: ns, e :: ds => if n = f then (n :: ns, d :: ds) else ((n :: (putN f d ns ds).1), (e :: (putN f d ns ds).2))
  | _, _ => ([f], [d])
def setF (cs : List Str) (f : Str) (d : D) (cl : Cell) : Option Cell := match cl with
  | .ins C ns ds => if cs.contains C = true ∧ ns.length = ds.length ∧ ns.length < 1000 then some (.ins C (putN f d ns ds).1 (putN f d ns ds).2) else none
  | _ => none
theorem putN_ok {T : Tx} {F : Hp} {φ : List Addr} {f : Str} {d : D} {v : V} (rv : Rep T F φ d v) : ∀ {ns : List Str} {ds : List D} {us : List V}, ns.length = ds.length → Reps T F φ ds us → ∃ ws, ws.length = (putN f d ns ds).1.length ∧ putF f v (ns.zip us) = (putN f d ns ds).1.zip ws ∧ Reps T F φ (putN f d ns ds).2 ws
  | [], [], us, _, r => by
    cases (show us = [] from r)
    exact ⟨[v], rfl, rfl, v, [], rfl, rv, rfl⟩
  | n :: ns, e :: ds, _, hl, ⟨u, us, rfl, r1, r2⟩ => by
    rw [List.zip_cons_cons]
    unfold putN putF
    by_cases q : n = f
    · rw [if_pos q, if_pos q]
      have hl' := r2.len
      exact ⟨v :: us, by simp only [List.length_cons] at hl ⊢; omega, rfl, v, us, rfl, rv, r2⟩
    · rw [if_neg q, if_neg q]
      obtain ⟨ws, k1, k2, k3⟩ := putN_ok rv (ns := ns) (ds := ds) (us := us) (by simpa using hl) r2
      exact ⟨u :: ws, by simp only [List.length_cons]; omega, by rw [k2, List.zip_cons_cons], u, ws, rfl, r1, k3⟩
  | [], _ :: _, _, hl, _ => by cases hl
  | _ :: _, [], _, hl, _ => by cases hl
def satM (cs : List Str) (f : Str) (fo fe : M W) : M Fl := bnd fe fun w => bnd (toD w) fun d => bnd fo fun x => bnd (updW x fun cl => (setF cs f d cl).map fun cl' => (cl', ())) fun _ => ret .next
theorem ss_atr {cs : List Str} {f : Str} {fe : M W} {pos' : Pos} (ht : AtT X.K X.mg cs f) (he : SE X Wx e fe) (ho : SE X Wx o fo) (hs : swapsWith e (some (.Attribute o f pos')) pos.line X.env = pure false := by rfl) : SS X Wx (.Assign [.Attribute o f pos'] e pos) (satM cs f fo fe) := ⟨PS.imp (ps_fld ho.pe he.pe hs) fun D σ H ⟨c, e1, e2, O, p⟩ => by
  subst e1 e2
  refine ⟨c, rfl, rfl, O, (PostS.bnd p).imp fun c1 w hσ O1 x1 p1 v rv => ?_⟩
  obtain ⟨c2, d, z1, z2, O2, x2, r2, p2⟩ := p1.toD O1 x1 rv
  refine ⟨c2, z1.trans hσ, z2, O2, (PostS.bnd (p2.from x2)).imp fun c3 wx hσ3 O3 x3 p3 ov rx => ?_⟩
  obtain ⟨a, cl, cl', y, rfl, hc, hk, fin⟩ := p3.updW O3 x3 rx
  cases hg : setF cs f d cl with
  | none => rw [hg] at hk; cases hk
  | some cl2 =>
  rw [hg] at hk
  cases hk
  unfold setF at hg
  cases cl with
  | ins C ns ds =>
    dsimp only at hg
    split at hg
    · rename_i hh
      cases hg
      obtain ⟨hC, hn, hlt⟩ := hh
      obtain ⟨A, hA, hcl, hno⟩ := ht C (List.contains_iff_mem.mp hC)
      obtain ⟨A', dx, us, hl, hm', ha, hdx, rs⟩ := hc
      have hm' : X.mg C = some (.ref A') := hm'
      rw [hA] at hm'
      cases hm'
      obtain ⟨ws, k1, k2, k3⟩ := putN_ok (f := f) (r2.mono x3.le x3.pre) hn rs
      have nea : dx ≠ a := fun z => by rw [z, ha] at hdx; cases hdx
      obtain ⟨c5, j1, j2, j3, j4, O5, x5, p6⟩ := fin (.ins A dx ((putN f d ns ds).1.zip ws)) (fun z q => nomatch q) ⟨A, dx, ws, k1, hA, upd_same, by rw [upd_ne nea]; exact hdx, k3⟩
      refine ⟨a, A, dx, _, rfl, ha, hcl, hno, by rw [List.length_zip]; omega, ?_⟩
      rw [k2, ← j1]
      have hs5 : c5.σ = c.σ := j4.trans (hσ3.trans (z1.trans hσ))
      rw [← hs5]
      exact p6.next rfl O5 x5
    · cases hg
  | _ => cases hg⟩
end
end Z

namespace Z
open PySem L2

/-! ## len(set(..)) of texts -/
def uniq (acc : List Str) : List Str → List Str
  | [] => acc
  | x :: xs => uniq (if acc.contains x = true then acc else acc ++ [x]) xs
theorem uniq_app : ∀ (xs ys : List Str) (acc : List Str), uniq acc (xs ++ ys) = uniq (uniq acc xs) ys
  | [], _, _ => rfl
  | x :: xs, ys, acc => by
    show uniq _ (xs ++ ys) = _
    rw [uniq_app xs ys]
    rfl
theorem uniq_len : ∀ (xs acc : List Str), (uniq acc xs).length ≤ acc.length + xs.length
  | [], acc => by show acc.length ≤ acc.length + 0; omega
  | x :: xs, acc => by
    show (uniq (if acc.contains x = true then acc else acc ++ [x]) xs).length ≤ _
    have h := uniq_len xs (if acc.contains x = true then acc else acc ++ [x])
    by_cases q : acc.contains x = true
    · rw [if_pos q] at h ⊢
      simp only [List.length_cons]
      omega
    · rw [if_neg q] at h ⊢
      rw [List.length_append] at h
      simp only [List.length_cons, List.length_nil] at h ⊢
      omega
section
open PySem PySem.Spec PyProof.Rows
variable {prog : Program} {w : World} {A : Around} {R : Result → Shared → Prop} {E : Value → Shared → Prop} {s : Shared}
theorem loopU {I : Addr} {fp wr : List Addr} {G : Array GenState → Array GenState → Prop} {n : Nat} {P : Nat → Value → Prop} {St : Nat → Shared → Prop} (W : WalksS prog w A.in1 I fp wr G n P St) (S : Addr) (out : S ∉ fp) (xs : List Str) (sz : xs.length = n) (few : n ≤ 4000)
    (val : ∀ i v, P i v → ∃ t, v = .str (xs.getD i Str.empty) t) : ∀ (k i : Nat) (s : Shared), n - i = k → i ≤ n → St i s → s.heap.SetOf (PySem.strKind prog w) S (fun k' => (uniq [] (xs.take i)).contains k') (uniq [] (xs.take i)).length →
      (∀ s', Moved (S :: wr) G s s' → s'.heap.SetOf (PySem.strKind prog w) S (fun k' => (uniq [] xs).contains k') (uniq [] xs).length → R (.ok (.ret .none)) s') →
      codeAny (model prog w) A (.builtin "set.update.loop" ⟨[.ref S, .ref I], []⟩) R s
  | k, i, s, hk, hi, st, hS, fin => by
    have nwr : S ∉ wr := fun h => out (W.sub _ h)
    have more : ∀ b ∈ wr, b ∈ S :: wr := fun b hb => List.mem_cons_of_mem _ hb
    have stay : ∀ {s' : Shared} {D : Str → Bool} {m : Nat}, Moved wr G s s' → s.heap.SetOf (PySem.strKind prog w) S D m → s'.heap.SetOf (PySem.strKind prog w) S D m := fun hm ⟨o, es, ep, t, ho, rest⟩ => ⟨o, es, ep, t, hm.heap S _ nwr ho, rest⟩
    refine codeAny_builtin PyProof.Rows.F.entry_set_update_loop ?_
    rw [Around.under_plainId PyProof.Rows.F.plain_set_update_loop _]
    show wpAny _ A.in1 (pyNext (.ref I) >>= _) _ _ s
    cases k with
    | zero =>
      have ein : i = n := by omega
      subst ein
      refine wpAny_bind (W.done s _ _ st fun s' hm => ?_)
      show wpAny _ A.in1 (PySem.ret Value.none) _ _ s'
      refine wpAny_pure (fin s' (hm.mono more) ?_)
      have z := stay hm hS
      rw [← sz, List.take_length] at z
      exact z
    | succ k =>
      have lt : i < n := by omega
      refine wpAny_bind (W.item i s _ _ lt st fun v s' hP st' hm => ?_)
      obtain ⟨t, rfl⟩ := val i v hP
      generalize hx : xs.getD i Str.empty = x
      have tk : xs.take (i + 1) = xs.take i ++ [x] := by
        rw [← hx, List.getD_eq_getElem?_getD, List.getElem?_eq_getElem (by omega), Option.getD_some]
        exact List.take_succ_eq_append_getElem (by omega)
      have hS1 := stay hm hS
      have room := uniq_len (xs.take i) []
      rw [List.length_take] at room
      show wpAny _ A.in1 (holding [Value.str x t] (setAdd S (.str x t)) >>= _) _ _ s'
      refine wpAny_bind (wpAny_holding ?_)
      unfold setAdd
      refine wpAny_holding (wpAny_bind ((PySem.strKind prog w).pyHash (k := x) (strKind_is _ _ _ _) ?_))
      refine wpAny_setAddHashed_of (knd := PySem.strKind prog w) (s := { s' with toks := s'.toks + 1 }) (strKind_is _ _ _ _) rfl hS1 (by unfold scanBound; simp only [List.length_nil] at room; omega) fun h' sb hS2 => ?_
      have next : h'.SetOf (PySem.strKind prog w) S (fun k' => (uniq [] (xs.take (i + 1))).contains k') (uniq [] (xs.take (i + 1))).length := by
        have eu : uniq [] (xs.take (i + 1)) = if (uniq [] (xs.take i)).contains x = true then uniq [] (xs.take i) else uniq [] (xs.take i) ++ [x] := by
          rw [tk, uniq_app]
          rfl
        rw [eu]
        by_cases q : (uniq [] (xs.take i)).contains x = true
        · rw [if_pos q]
          refine SetOf_congr hS2 (fun k' => ?_) (if_pos q)
          by_cases e : k' = x
          · subst e
            rw [q]
            rfl
          · rw [decide_eq_false e, Bool.or_false]
        · rw [if_neg q]
          refine SetOf_congr hS2 (fun k' => ?_) (by rw [if_neg q, List.length_append]; rfl)
          rw [Bool.eq_iff_iff]
          simp [List.contains_iff_mem]
      refine wpAny_pure ⟨plainId_quiet PyProof.Rows.F.plain_set_update_loop _, loopU W S out xs sz few val k (i + 1) _ (by omega) lt (W.frame _ s' _ _ st' (Nat.le_succ _) fun b hb o e => ?_) next fun s'' hm'' hS'' => ?_⟩
      · rw [sb.2 b fun h => out (by rw [← h]; exact hb)]
        exact e
      · refine fin s'' (Moved.trans W.gtrans ((hm.mono more).then_heap (Nat.le_succ _) fun b o hb e => ?_) hm'') hS''
        rw [sb.2 b fun h => hb (by rw [h]; exact List.mem_cons_self)]
        exact e

set_option maxHeartbeats 3200000 in
theorem call_uniq_list {l : Addr} {items : Array Value} {xs : List Str} {Q : Value → Shared → Prop} (hh : A.handled = none) (hl : s.heap.IsList l items) (hi : StrsAre items.toList xs) (few : xs.length ≤ 4000)
    (fin : ∀ (h' : Heap) (tk : Nat), h'.SetOf (PySem.strKind prog w) s.heap.objs.size (fun k => (uniq [] xs).contains k) (uniq [] xs).length → (∀ b o, b < s.heap.objs.size → s.heap.get? b = some o → h'.get? b = some o) → Q (.ref s.heap.objs.size) { s with heap := h', toks := tk }) :
    wpAny (model prog w) A (call (.type "set") [.ref l]) Q E s := by
  have cs := PySem.F.called_set
  obtain ⟨c0, tl0, mro0⟩ := cs.mro
  have made0 := cs.made
  have sub0 := cs.sub
  refine wpAny_call (codeAny_of_tree ?_)
  show wpAny _ _ (callAny (.type "set") _) _ _ _
  refine wpAny_pure ⟨Code.quiet_builtin _ (by decide +kernel), codeAny_builtin PySem.F.entry_type_call ?_⟩
  rw [Around.under_plain (weight_type_call_type "set" [.ref l] []) rfl]
  have nt := cs.notType
  have cc := cs.canCreate
  have tc := PySem.F.typeCall_set_1 (.ref l)
  repeat (any_goals (first | assumption | wp_step))
  let fresh : Bool → Obj := fun led => { cls := .type "set", dict := none, data := .set #[] 0 (.fresh 0 0 led) }
  refine codeAny_mono (code_set_new_1 (.ref l) (E := E) (Q₁ := fun obj s₁ => ∃ led : Bool, obj = .ref s.heap.objs.size ∧ s₁ = { s with heap := s.heap.push (fresh led) }) fun led => ⟨led, rfl, rfl⟩) fun r s₁ hr => ?_
  cases r with
  | error er => exact hr
  | ok fl =>
  cases fl with
  | next => exact hr.elim
  | brk => exact hr.elim
  | cont => exact hr.elim
  | ret obj =>
  obtain ⟨led, rfl, rfl⟩ := hr
  have gS : (s.heap.push (fresh led)).get? s.heap.objs.size = some (fresh led) := Heap.get?_push_size _ rfl
  have tyS : Shared.TypeIs { s with heap := s.heap.push (fresh led) } (.ref s.heap.objs.size) "set" := ⟨_, gS, rfl⟩
  have lk := cs.init.lookup
  have bd := cs.init.bind (.ref s.heap.objs.size)
  repeat (any_goals (first | assumption | wp_step))
  refine codeAny_mono (codeAny_call_builtin (R := wants (fun r s₂ => r = .none ∧ ∃ h' tk, s₂ = { s with heap := h', toks := tk } ∧ h'.SetOf (PySem.strKind prog w) s.heap.objs.size (fun k => (uniq [] xs).contains k) (uniq [] xs).length ∧ ∀ b o, b < s.heap.objs.size → s.heap.get? b = some o → h'.get? b = some o) E) cs.init.plain PySem.F.entry_set_init (check_set_init_1 tyS ?_)) fun r₂ s₂ hr₂ => ?_
  · obtain ⟨ol, hol, hcl, nl, hdl⟩ := hl
    obtain ⟨ocls, odict, odata, oslots⟩ := ol
    simp only at hcl hdl
    subst hcl
    subst hdl
    have hol' : (s.heap.push (fresh led)).get? l = some { cls := .type "list", dict := odict, data := .seq items nl, slots := oslots } := Heap.get?_push_of_some _ hol
    have ns := PySem.F.sub_list_set
    have nf := PySem.F.sub_list_frozenset
    have nd : (Value.type "list" == Value.type "dict") = false := by decide
    have isl : (s.heap.push (fresh led)).IsList l items := ⟨_, hol', rfl, nl, rfl⟩
    unfold Builtin.«set.__init__» noKeywords Builtin.Frozenset.updateFrom
    generalize hPI : pyIter = PI
    wp_walk
    subst hPI
    refine wpAny_pyIter_list isl (wpAny_bind (wpAny_runValue ?_))
    have lS : l < s.heap.objs.size := Heap.lt_size hol
    have h3 : A.in1.in1.in1.handled = none := by simp [hh]
    have neI : l ≠ (s.heap.push (fresh led)).objs.size := by
      rw [Heap.size_push]
      exact Nat.ne_of_lt (Nat.lt_succ_of_lt lS)
    have nfp : s.heap.objs.size ∉ [(s.heap.push (fresh led)).objs.size, l] := by
      rw [Heap.size_push]
      simp only [List.mem_cons, List.not_mem_nil, or_false, not_or]
      exact ⟨Nat.ne_of_lt (Nat.lt_succ_self _), Nat.ne_of_gt lS⟩
    have sz : xs.length = items.size := by rw [← StrsAre.len_eq hi, Array.length_toList]
    have val : ∀ (i : Nat) (v : Value), items[i]? = some v → ∃ t, v = .str (xs.getD i Str.empty) t := fun i v hv => SS.strs_at hi i v (by rw [Array.getElem?_toList]; exact hv)
    refine loopU ((Walks.list h3 _ l neI items).toS) s.heap.objs.size nfp xs sz (by omega) val (items.size - 0) 0 _ (by omega) (Nat.zero_le _) ⟨⟨_, Heap.get?_push_size _ rfl, rfl, rfl⟩, isl.push _⟩ ?_ ?_
    · have gS2 := Heap.get?_push_of_some { cls := .type "list_iterator", data := .fields #[.ref l, .int 0 0] } gS
      exact SetOf_congr ((setObjOf_fresh (knd := PySem.strKind prog w) led).setOf gS2 (by unfold scanBound; omega)) (fun _ => rfl) rfl
    · intro s' hm hS'
      obtain ⟨h', g', d', tk', os'⟩ := s'
      obtain rfl : g' = s.gens := hm.gens
      obtain rfl : d' = s.drawn := hm.drawn
      obtain rfl : os' = s.os := hm.os
      show wpAny _ _ _ _ _ _
      refine wpAny_pure ?_
      show wpAny _ _ (PySem.ret Value.none) _ _ _
      refine wpAny_pure ⟨rfl, h', tk', rfl, hS', fun b o hb e => ?_⟩
      refine hm.heap b o ?_ (Heap.get?_push_of_some _ (Heap.get?_push_of_some _ e))
      simp only [List.mem_cons, List.not_mem_nil, or_false, not_or]
      exact ⟨Nat.ne_of_lt hb, by rw [Heap.size_push]; exact Nat.ne_of_lt (Nat.lt_succ_of_lt hb)⟩
  · cases r₂ with
    | error er => exact hr₂
    | ok fl₂ =>
    cases fl₂ with
    | next => exact hr₂.elim
    | brk => exact hr₂.elim
    | cont => exact hr₂.elim
    | ret r =>
      obtain ⟨rfl, h', tk, rfl, hS', hk'⟩ := hr₂
      repeat (any_goals (first | assumption | wp_step))
      exact fin _ _ hS' hk'

set_option maxHeartbeats 3200000 in
theorem call_uniq_tuple {l : Addr} {items : Array Value} {xs : List Str} {Q : Value → Shared → Prop} (hh : A.handled = none) (hl : s.heap.IsTuple l items) (hi : StrsAre items.toList xs) (few : xs.length ≤ 4000)
    (fin : ∀ (h' : Heap) (tk : Nat), h'.SetOf (PySem.strKind prog w) s.heap.objs.size (fun k => (uniq [] xs).contains k) (uniq [] xs).length → (∀ b o, b < s.heap.objs.size → s.heap.get? b = some o → h'.get? b = some o) → Q (.ref s.heap.objs.size) { s with heap := h', toks := tk }) :
    wpAny (model prog w) A (call (.type "set") [.ref l]) Q E s := by
  have cs := PySem.F.called_set
  obtain ⟨c0, tl0, mro0⟩ := cs.mro
  have made0 := cs.made
  have sub0 := cs.sub
  refine wpAny_call (codeAny_of_tree ?_)
  show wpAny _ _ (callAny (.type "set") _) _ _ _
  refine wpAny_pure ⟨Code.quiet_builtin _ (by decide +kernel), codeAny_builtin PySem.F.entry_type_call ?_⟩
  rw [Around.under_plain (weight_type_call_type "set" [.ref l] []) rfl]
  have nt := cs.notType
  have cc := cs.canCreate
  have tc := PySem.F.typeCall_set_1 (.ref l)
  repeat (any_goals (first | assumption | wp_step))
  let fresh : Bool → Obj := fun led => { cls := .type "set", dict := none, data := .set #[] 0 (.fresh 0 0 led) }
  refine codeAny_mono (code_set_new_1 (.ref l) (E := E) (Q₁ := fun obj s₁ => ∃ led : Bool, obj = .ref s.heap.objs.size ∧ s₁ = { s with heap := s.heap.push (fresh led) }) fun led => ⟨led, rfl, rfl⟩) fun r s₁ hr => ?_
  cases r with
  | error er => exact hr
  | ok fl =>
  cases fl with
  | next => exact hr.elim
  | brk => exact hr.elim
  | cont => exact hr.elim
  | ret obj =>
  obtain ⟨led, rfl, rfl⟩ := hr
  have gS : (s.heap.push (fresh led)).get? s.heap.objs.size = some (fresh led) := Heap.get?_push_size _ rfl
  have tyS : Shared.TypeIs { s with heap := s.heap.push (fresh led) } (.ref s.heap.objs.size) "set" := ⟨_, gS, rfl⟩
  have lk := cs.init.lookup
  have bd := cs.init.bind (.ref s.heap.objs.size)
  repeat (any_goals (first | assumption | wp_step))
  refine codeAny_mono (codeAny_call_builtin (R := wants (fun r s₂ => r = .none ∧ ∃ h' tk, s₂ = { s with heap := h', toks := tk } ∧ h'.SetOf (PySem.strKind prog w) s.heap.objs.size (fun k => (uniq [] xs).contains k) (uniq [] xs).length ∧ ∀ b o, b < s.heap.objs.size → s.heap.get? b = some o → h'.get? b = some o) E) cs.init.plain PySem.F.entry_set_init (check_set_init_1 tyS ?_)) fun r₂ s₂ hr₂ => ?_
  · obtain ⟨ol, hol, hcl, nl, hdl⟩ := hl
    obtain ⟨ocls, odict, odata, oslots⟩ := ol
    simp only at hcl hdl
    subst hcl
    subst hdl
    have hol' : (s.heap.push (fresh led)).get? l = some { cls := .type "tuple", dict := odict, data := .seq items nl, slots := oslots } := Heap.get?_push_of_some _ hol
    have ns := PySem.F.sub_tuple_set
    have nf := PySem.F.sub_tuple_frozenset
    have nd : (Value.type "tuple" == Value.type "dict") = false := by decide
    have isl : (s.heap.push (fresh led)).IsTuple l items := ⟨_, hol', rfl, nl, rfl⟩
    unfold Builtin.«set.__init__» noKeywords Builtin.Frozenset.updateFrom
    generalize hPI : pyIter = PI
    wp_walk
    subst hPI
    refine wpAny_pyIter_tuple isl (wpAny_bind (wpAny_runValue ?_))
    have lS : l < s.heap.objs.size := Heap.lt_size hol
    have h3 : A.in1.in1.in1.handled = none := by simp [hh]
    have neI : l ≠ (s.heap.push (fresh led)).objs.size := by
      rw [Heap.size_push]
      exact Nat.ne_of_lt (Nat.lt_succ_of_lt lS)
    have nfp : s.heap.objs.size ∉ [(s.heap.push (fresh led)).objs.size, l] := by
      rw [Heap.size_push]
      simp only [List.mem_cons, List.not_mem_nil, or_false, not_or]
      exact ⟨Nat.ne_of_lt (Nat.lt_succ_self _), Nat.ne_of_gt lS⟩
    have sz : xs.length = items.size := by rw [← StrsAre.len_eq hi, Array.length_toList]
    have val : ∀ (i : Nat) (v : Value), items[i]? = some v → ∃ t, v = .str (xs.getD i Str.empty) t := fun i v hv => SS.strs_at hi i v (by rw [Array.getElem?_toList]; exact hv)
    refine loopU ((Walks.tuple h3 _ l neI items).toS) s.heap.objs.size nfp xs sz (by omega) val (items.size - 0) 0 _ (by omega) (Nat.zero_le _) ⟨⟨_, Heap.get?_push_size _ rfl, rfl, rfl⟩, isl.push _⟩ ?_ ?_
    · have gS2 := Heap.get?_push_of_some { cls := .type "tuple_iterator", data := .fields #[.ref l, .int 0 0] } gS
      exact SetOf_congr ((setObjOf_fresh (knd := PySem.strKind prog w) led).setOf gS2 (by unfold scanBound; omega)) (fun _ => rfl) rfl
    · intro s' hm hS'
      obtain ⟨h', g', d', tk', os'⟩ := s'
      obtain rfl : g' = s.gens := hm.gens
      obtain rfl : d' = s.drawn := hm.drawn
      obtain rfl : os' = s.os := hm.os
      show wpAny _ _ _ _ _ _
      refine wpAny_pure ?_
      show wpAny _ _ (PySem.ret Value.none) _ _ _
      refine wpAny_pure ⟨rfl, h', tk', rfl, hS', fun b o hb e => ?_⟩
      refine hm.heap b o ?_ (Heap.get?_push_of_some _ (Heap.get?_push_of_some _ e))
      simp only [List.mem_cons, List.not_mem_nil, or_false, not_or]
      exact ⟨Nat.ne_of_lt hb, by rw [Heap.size_push]; exact Nat.ne_of_lt (Nat.lt_succ_of_lt hb)⟩
  · cases r₂ with
    | error er => exact hr₂
    | ok fl₂ =>
    cases fl₂ with
    | next => exact hr₂.elim
    | brk => exact hr₂.elim
    | cont => exact hr₂.elim
    | ret r =>
      obtain ⟨rfl, h', tk, rfl, hS', hk'⟩ := hr₂
      repeat (any_goals (first | assumption | wp_step))
      exact fin _ _ hS' hk'

end
end Z

namespace Z
open PySem L2

/-! ## f(k = v, ..), all by name -/
def pm {α : Type} (ix : List Nat) (l : List α) : List α := ix.filterMap fun i => l[i]?
theorem pm_vals {vs : List V} {us : List Value} (r : Vals vs us) : ∀ ix : List Nat, Vals (pm ix vs) (pm ix us)
  | [] => .nil
  | i :: ix => by
    have h := pm_vals r ix
    cases e : vs[i]? with
    | none =>
      have e2 : us[i]? = none := by rw [List.getElem?_eq_none_iff] at e ⊢; rw [← r.length]; exact e
      show Vals (List.filterMap _ (i :: ix)) (List.filterMap _ (i :: ix))
      rw [List.filterMap_cons_none (by exact e), List.filterMap_cons_none (by exact e2)]
      exact h
    | some v =>
      obtain ⟨u, e2, ru⟩ := r.get e
      show Vals (List.filterMap _ (i :: ix)) (List.filterMap _ (i :: ix))
      rw [List.filterMap_cons_some (by exact e), List.filterMap_cons_some (by exact e2)]
      exact .cons ru h
theorem pm_reps {T : Tx} {F : Hp} {φ : List Addr} {ds : List D} {vs : List V} (r : Reps T F φ ds vs) : ∀ ix : List Nat, Reps T F φ (pm ix ds) (pm ix vs)
  | [] => rfl
  | i :: ix => by
    have h := pm_reps r ix
    cases e : ds[i]? with
    | none =>
      have e2 : vs[i]? = none := by rw [List.getElem?_eq_none_iff] at e ⊢; rw [r.len]; exact e
      show Reps T F φ (List.filterMap _ (i :: ix)) (List.filterMap _ (i :: ix))
      rw [List.filterMap_cons_none (by exact e), List.filterMap_cons_none (by exact e2)]
      exact h
    | some d =>
      obtain ⟨u, e2, ru⟩ := r.get e
      show Reps T F φ (List.filterMap _ (i :: ix)) (List.filterMap _ (i :: ix))
      rw [List.filterMap_cons_some (by exact e), List.filterMap_cons_some (by exact e2)]
      exact ⟨u, _, rfl, ru, h⟩
def DefK (P : Program) (w : World) (K : PySem.W.Frag) (mg : Str → Option Value) (base : Heap) (x : Str) (k : Nat) (ps ks : List Str) (ix : List Nat) (F : List D → M W) : Prop :=
  ∃ f fd, mg x = some (.ref f) ∧ PySem.W.keepIn K (.ref f) = true ∧ (∀ (s : Shared) (ws : List Value), ws.length = ks.length → BindsTo s fd ⟨[], ks.zip ws⟩ (ps.zip (pm ix ws))) ∧ FnG P w K mg base k f fd ps (spF ⟨K, mg⟩ ps.length F)
/-- the values of the keywords, from the left -/
structure SK (X : Cx) (Wx : WX) (kws : List Keyword) (f : M (List W)) : Prop where
  pk : PK X kws (tSA X Wx f)
theorem PK.imp {X : Cx} {kws : List Keyword} {t t' : TA} (h : PK X kws t) (k : ∀ σ H Q, t' σ H Q → t σ H Q) : PK X kws t' := ⟨fun p pins s σ H Q I q => h.run p pins s σ H Q I (k _ _ _ q)⟩
def callKF (n m : Nat) (ix : List Nat) (F : List D → M W) (fs : M (List W)) : M W := bnd fs fun ws => bnd (toDs ws) fun ds s => if ds.length = m ∧ (pm ix ds).length = n then match F (pm ix ds) ⟨[], s.h⟩ with
  | .ok w s1 => .ok w ⟨s.e, s1.h⟩
  | .exc C ns vs s1 => .exc C ns vs ⟨s.e, s1.h⟩
  | .stuck => .stuck else .stuck
section
variable {X : Cx} {Wx : WX} {e : Expr} {es : List Expr} {pos p kpos : Pos} {fa : M W} {fs : M (List W)} {x : Str} {nm : Option Str} {kws : List Keyword} {k : Nat} {ps ks : List Str} {ix : List Nat} {F : List D → M W}
theorem sk_nil : SK X Wx [] nilA := ⟨PK.imp pk_nil fun σ H Q ⟨c, e1, e2, O, p⟩ => by
  subst e1 e2
  exact p.here O [] rfl⟩
theorem sk_cons (ha : SE X Wx e fa) (hr : SK X Wx kws fs) : SK X Wx (⟨nm, e, kpos⟩ :: kws) (consA fa fs) := ⟨PK.imp (pk_cons ha.pe hr.pk) fun σ H Q h => tSA_step (fun _ _ _ h => h) (fun _ _ _ h => h) h⟩
theorem callK_of {n m : Nat} {σ : St} {H : Hp} {Q : VK} (h : tSE X Wx (callKF n m ix F fs) σ H Q) : tSA X Wx fs σ H fun us H1 => us.length = m ∧ spF (tx X) n F (pm ix us) H1 Q (fun cls d H => Wx cls d σ H) := by
  obtain ⟨c, e1, e2, O, p⟩ := h
  subst e1 e2
  refine (tSA_toDs O p).mono fun us H1 ⟨c2, ds, h1, h2, O2, x2, r2, p2⟩ => ?_
  subst h1
  by_cases hl : ds.length = m ∧ (pm ix ds).length = n
  rotate_left
  · rw [if_neg hl] at p2
    exact p2.elim
  rw [if_pos hl] at p2
  refine ⟨by rw [r2.len]; exact hl.1, spF_of O2 (pm_reps r2 ix) hl.2 (fun q => ?_) (fun w s1 q c6 v k1 k2 O6 x6 rv => ?_) (fun C' ns vs s1 q c6 A d ws k1 k2 O6 x6 m1 m2 m3 m4 m5 => ?_)⟩
  · rw [q] at p2
    exact p2
  · rw [q] at p2
    exact p2 c6 k1 (k2.trans h2) O6 (x2.trans x6) v (RepW.early x2 rv)
  · rw [q] at p2
    have z := p2 c6 A d ws k1 (k2.trans h2) O6 (x2.trans x6) m1 m2 m3 m4 m5
    rw [show c6.σ = c.σ from k2.trans h2] at z
    exact z
theorem se_callK {n m : Nat} (h : DefK X.prog X.w X.K X.mg X.base x k ps ks ix F) (hr : RoomG k X.A) (tk : Takes X Wx) (hg : Gl X x) (ha : SK X Wx kws fs) (hn : ps.length = n := by rfl) (hm' : ks.length = m := by rfl)
    (hall : (backToKw pos (keywordEach kws X.env)).all (·.1.isSome) = true := by rfl) (hks : (backToKw pos (keywordEach kws X.env)).filterMap (·.1) = ks := by rfl) (hdb : (x == ("__debug__" : Str)) = false := by decide)
    (hpl : ((backTo pos (starEach [] X.env)).any (·.1) || (backToKw pos (keywordEach kws X.env)).any (·.1.isNone)) = false := by rfl) : SE X Wx (.Call (.Name x p) [] kws pos) (callKF n m ix F fs) := by
  subst hn
  subst hm'
  obtain ⟨f, fd, hm, hk, hb, G⟩ := h
  refine ⟨⟨fun pins s σ H Q I q => ?_⟩⟩
  refine wpAny_Call_Name_kw (ld_glob I hg hm ?_ hdb)
  refine PySem.W.callWith_KW0 (h₀ := X.base) I.ok.mod.kin hk hall (thn (ha.pk.run pos pins s σ H _ I (callK_of q)) fun ws s1 ⟨vs, H1, I1, r, hl, q1⟩ => ⟨I1.kIn, ?_⟩) hpl
  rw [hks]
  show wpAny _ _ (call (.ref f) [] (ks.zip ws)) _ _ _
  refine wpAny_call (codeAny_mono (G.run X.A X.stack s1 H1 ⟨[], ks.zip ws⟩ (pm ix ws) (pm ix vs) Q (fun cls d H => Wx cls d σ H) hr I1.env0 (hb s1 ws (by rw [← r.length]; exact hl)) (pm_vals r ix) q1) fun r s' hq => ?_)
  cases r with
  | error er => exact passAt tk σ pins H1 s1 er s' I1 hq
  | ok fl =>
    cases fl with
    | ret u => exact I1.after hq
    | next => exact hq.elim
    | brk => exact hq.elim
    | cont => exact hq.elim
/-! ## the signs of a text -/
def signs (x : Str) : List D := x.cps.toList.map fun c => .str ⟨#[c]⟩
theorem Walk.signs {T : Tx} {c0 : Cf} {x : Str} : Walk T c0 (Its x) (Z.signs x) := fun c O x1 i => by
  unfold Z.signs
  refine ⟨fun d hd => ?_, fun hi => by show x.cps.size ≤ i; simpa using hi⟩
  rw [List.getElem?_map] at hd
  cases q : x.cps.toList[i]? with
  | none => rw [q] at hd; cases hd
  | some k =>
    rw [q] at hd
    cases hd
    have q2 : x.cps[i]? = some k := by rw [← Array.getElem?_toList]; exact q
    refine ⟨(Array.getElem?_eq_some_iff.mp q2).1, fun y H' ⟨e2, k2, e3, e4⟩ => ⟨c, e2.symm, rfl, rfl, O, Ext.refl c, ?_⟩⟩
    rw [q2] at e3
    cases e3
    exact e4
def strI (fa : M W) : M (List D) := bnd fa fun x => bnd (view x) fun d => opt (match d with
  | .str y => some (signs y)
  | _ => none)
theorem si_str {tg : Expr} (h : SE X Wx e fa) : SI X Wx tg e (strI fa) := ⟨PI.imp (pi_str h.pe) fun σ H R ⟨c, e1, e2, O, p⟩ => by
  subst e1 e2
  refine ⟨c, rfl, rfl, O, (Post.bnd2 p (Ext.refl c) rfl).imp fun c1 w hσ1 O1 x1 ⟨_, _, p1⟩ v r => ?_⟩
  obtain ⟨d, q, p2⟩ := p1.view O1 x1 hσ1 r
  obtain ⟨ds, e, p3⟩ := p2.opt1
  cases d with
  | str y =>
    cases e
    exact ⟨y, q.str, p3.ok rfl hσ1 O1 x1 _ Walk.signs⟩
  | _ => cases e⟩
/-! ## {} -/
def dictM : M W := ret (.new (.dK [] []))
theorem Fin2.dK {T : Tx} {c : Cf} {ks : List Key} {ds : List D} {us : List V} {Q : VK} {p : Addr} (f : Fin2 T c (.new (.dK ks ds)) Q) (O : Ok T c) (hl : us.length = ks.length) (r : Reps T c.F c.φ ds us) (hp : c.H p = none) : Q (.ref p) (upd c.H p (.dK (ks.zip us))) := by
  obtain ⟨O1, x1⟩ := O.alloc (o := .dK (ks.zip us)) hp
  exact f { c with H := upd c.H p (.dK (ks.zip us)) } _ rfl rfl O1 x1 ⟨p, rfl, ⟨us, hl, upd_same, r⟩, F_none (c := c) O hp, (Mu.none (c := c) O hp : ¬ Mu c p), hp⟩
theorem se_dict0 : SE X Wx (.Dict [] [] pos) dictM := ⟨PE.imp pe_dnewK fun σ H Q ⟨c, e1, e2, O, p⟩ => by
  subst e1 e2
  exact fun a ha => (p.fin O (Ext.refl c) rfl).dK (us := []) O rfl rfl ha⟩
end
end Z

namespace Z
open PySem L2

/-! ## dicts that change -/
def repl {κ : Type} [DecidableEq κ] (k : κ) {α : Type} (d : α) : List κ → List α → List α
  | q :: ks, e :: ds => (if q = k then d else e) :: repl k d ks ds
  | _, ds => ds
def putKD {κ : Type} [DecidableEq κ] (k : κ) {α : Type} (d : α) (ks : List κ) (ds : List α) : List κ × List α := if k ∈ ks then (ks, repl k d ks ds) else (ks ++ [k], ds ++ [d])
theorem repl_zip {κ : Type} [DecidableEq κ] (k : κ) (v : V) : ∀ (ks : List κ) (us : List V), (ks.zip us).map (fun kv => if kv.1 = k then (kv.1, v) else kv) = ks.zip (repl k v ks us)
  | [], us => rfl
  | q :: ks, [] => rfl
  | q :: ks, u :: us => by
    show (if q = k then (q, v) else (q, u)) :: (ks.zip us).map _ = (q, if q = k then v else u) :: ks.zip (repl k v ks us)
    rw [repl_zip k v ks us]
    by_cases h : q = k
    · rw [if_pos h, if_pos h]
    · rw [if_neg h, if_neg h]
theorem repl_len {κ : Type} [DecidableEq κ] (k : κ) {α : Type} (d : α) : ∀ (ks : List κ) (ds : List α), (repl k d ks ds).length = ds.length
  | [], ds => rfl
  | q :: ks, [] => rfl
  | q :: ks, e :: ds => by simp [repl, repl_len k d ks ds]
theorem repl_reps {κ : Type} [DecidableEq κ] {T : Tx} {F : Hp} {φ : List Addr} (k : κ) {d : D} {v : V} (h : Rep T F φ d v) : ∀ (ks : List κ) {ds : List D} {us : List V}, Reps T F φ ds us → Reps T F φ (repl k d ks ds) (repl k v ks us)
  | [], ds, us, r => r
  | q :: ks, [], us, r => by
    cases (show us = [] from r)
    exact rfl
  | q :: ks, e :: ds, _, ⟨u, us, rfl, r1, r2⟩ => by
    refine ⟨_, _, rfl, ?_, repl_reps k h ks r2⟩
    by_cases z : q = k
    · rw [if_pos z, if_pos z]; exact h
    · rw [if_neg z, if_neg z]; exact r1
theorem putKD_ok {κ : Type} [DecidableEq κ] {T : Tx} {F : Hp} {φ : List Addr} {k : κ} {d : D} {v : V} (h : Rep T F φ d v) {ks : List κ} {ds : List D} {us : List V} (hl : us.length = ks.length) (r : Reps T F φ ds us) :
    (putKD k v ks us).2.length = (putKD k d ks ds).1.length ∧ putK (ks.zip us) k v = (putKD k d ks ds).1.zip (putKD k v ks us).2 ∧ Reps T F φ (putKD k d ks ds).2 (putKD k v ks us).2 := by
  have ha : (ks.zip us).any (fun kv => decide (kv.1 = k)) = decide (k ∈ ks) := by
    clear r h
    induction ks generalizing us with
    | nil => simp
    | cons q ks ih =>
      cases us with
      | nil => cases hl
      | cons u us =>
        rw [List.zip_cons_cons, List.any_cons, ih (by simpa using hl), Bool.eq_iff_iff]
        rw [Bool.or_eq_true, decide_eq_true_eq, decide_eq_true_eq, decide_eq_true_eq, List.mem_cons]
        exact ⟨fun h => h.imp Eq.symm id, fun h => h.imp Eq.symm id⟩
  unfold putKD putK
  rw [ha]
  by_cases z : k ∈ ks
  · rw [decide_eq_true z, if_pos rfl, if_pos z, if_pos z]
    exact ⟨by rw [repl_len]; exact hl, repl_zip k v ks us, repl_reps k h ks r⟩
  · rw [decide_eq_false z, if_neg Bool.false_ne_true, if_neg z, if_neg z]
    refine ⟨by rw [List.length_append, List.length_append, hl]; rfl, ?_, r.append ⟨v, [], rfl, h, rfl⟩⟩
    show _ = (ks ++ [k]).zip (us ++ [v])
    rw [List.zip_append hl.symm]
    rfl
theorem putKD_len {κ : Type} [DecidableEq κ] (k : κ) {α : Type} (d : α) (ks : List κ) (ds : List α) : (putKD k d ks ds).1.length ≤ ks.length + 1 := by
  unfold putKD
  by_cases z : k ∈ ks
  · rw [if_pos z]; exact Nat.le_succ _
  · rw [if_neg z, List.length_append]; exact Nat.le_refl _
/-! ## {k: v for ..} -/
def dcTurn (vs : List Nat) (tg : Tgf) (tt : M Bool) (fk fe : M W) (d : D) (ks : List Key) (acc : List D) (s : S) : Option (List Key × List D × S) := match tg d s with
  | some s1 => match tt s1 with
    | .ok true s2 => match datM fk s2 with
      | .ok yk s3 => match keyOf yk with
        | some k => match datM fe s3 with
          | .ok y s4 => some ((putKD k y ks acc).1, (putKD k y ks acc).2, { s4 with e := wipeE s4.e vs })
          | _ => none
        | none => none
      | _ => none
    | .ok false s2 => some (ks, acc, { s2 with e := wipeE s2.e vs })
    | _ => none
  | none => none
def dcLoop (vs : List Nat) (tg : Tgf) (tt : M Bool) (fk fe : M W) : List D → List Key → List D → S → Option (List Key × List D × S)
  | [], ks, acc, s => some (ks, acc, s)
  | d :: ds, ks, acc, s => match dcTurn vs tg tt fk fe d ks acc s with
    | some (ks1, acc1, s1) => dcLoop vs tg tt fk fe ds ks1 acc1 s1
    | none => none
def dcM (vs : List Nat) (fi : M (List D)) (tg : Tgf) (tt : M Bool) (fk fe : M W) : M W := bnd fi fun items s =>
  if calmE s.e vs = true ∧ items.length ≤ sizeLine then match dcLoop vs tg tt fk fe items [] [] { s with e := wipeE s.e vs } with
    | some (ks, acc, s1) => .ok (.new (.dK ks acc)) { s1 with e := backE s.e s1.e vs }
    | none => .stuck
  else .stuck
/-- an expression's value as data, at a state -/
theorem dat_ok {T : Tx} {c : Cf} {f : M W} {y : D} {s1 : S} {E : WX} (h : datM f c.s = .ok y s1) {Q : Cf → V → Prop} (k : ∀ c1 v, c1.s = s1 → c1.σ = c.σ → Ok T c1 → Ext c c1 → Rep T c1.F c1.φ y v → Q c1 v) (kH : ∀ c1 c2 v, c1.H = c2.H → Q c1 v → Q c2 v) :
    Post T c (f c.s) (fun c1 w => ∀ v, RepW T c.H c1 w v → Q c1 v) E := by
  unfold datM Z.bnd at h
  cases qe : f c.s with
  | stuck => rw [qe] at h; cases h
  | exc C ns es s2 => rw [qe] at h; cases h
  | ok w s3 =>
  rw [qe] at h
  dsimp only at h
  intro c6 j4 hσ6 O6 x6 v rv
  rw [← j4] at h
  obtain ⟨c7, d, z1, z2, O7, x7, r7, z3, z4⟩ := post_toD (R := fun c d => d = y ∧ c.s = s1) (E := noE) O6 x6 hσ6 rv (by rw [h]; exact fun c1 z1 _ _ _ => ⟨rfl, z1⟩)
  subst z3
  exact kH c7 c6 v z2 (k c7 v z4 (z1.trans hσ6) O7 x7 r7)
section
variable {X : Cx} {Wx : WX} {kx elt tg iter : Expr} {ifs : List Expr} {scope : Scope} {own : List (Str × Nat)} {pos : Pos} {fi : M (List D)} {fg : Tgf} {ft : M Bool} {fk fe : M W} {is : List Nat}
theorem dc_of (h1 : ∀ i ∈ is, i ∈ own.map (·.2)) {σ : St} {H : Hp} {Q : VK} (h : tSE X Wx (dcM (own.map (·.2)) fi fg ft fk fe) σ H Q) : tDc (tSI X Wx fi) (tSG X is fg) (tST X noE ft) (tSE X noE fk) (tSE X noE fe) (own.map (·.2)) σ H Q := by
  generalize own.map (·.2) = vs at h1 h ⊢
  obtain ⟨c, e1, e2, O, p⟩ := h
  subst e1 e2
  refine ⟨c, rfl, rfl, O, (Post.bnd p).imp fun c1 items hσ O1 x1 p1 J wk D hD => ?_⟩
  by_cases hk : calmE c1.s.e vs = true ∧ items.length ≤ sizeLine
  rotate_left
  · rw [if_neg hk] at p1; exact p1.elim
  rw [if_pos hk] at p1
  obtain ⟨hcalm, hsz⟩ := hk
  cases hl : dcLoop vs fg ft fk fe items [] [] { c1.s with e := wipeE c1.s.e vs } with
  | none => rw [hl] at p1; exact p1.elim
  | some r =>
    obtain ⟨resK, res, sf⟩ := r
    rw [hl] at p1
    dsimp only at p1
    obtain ⟨Ow, xw, mw⟩ := O1.wipe (vs := vs)
    obtain ⟨Oa, xa⟩ := Ow.alloc (o := .dK []) hD
    refine ⟨fun i m H => ∃ c2 ks acc us, c2.H = H ∧ c2.σ = wipe c.σ vs ∧ Ok (tx X) c2 ∧ Ext c1 c2 ∧ Loose c2 D (.dK (ks.zip us)) ∧ us.length = ks.length ∧ Reps (tx X) c2.F c2.φ acc us ∧ ks.length ≤ i ∧ i ≤ items.length ∧ m = items.length - i ∧ dcLoop vs fg ft fk fe (items.drop i) ks acc c2.s = some (resK, res, sf), ⟨items.length, { c1 with s := { c1.s with e := wipeE c1.s.e vs }, σ := wipe c1.σ vs, H := upd c1.H D (.dK []) }, [], [], [], rfl, by rw [hσ], Oa, xw.trans xa, ⟨upd_same, F_none (c := c1) O1 hD, fun m => Mu.none (c := c1) O1 hD (mw D m)⟩, rfl, rfl, Nat.le_refl _, Nat.zero_le _, rfl, hl⟩, ?_⟩
    rintro i m H ⟨c2, ks, acc, us, rfl, hσ2, O2, x2, L2', hlen, rr, hai, hi, rfl, loop⟩
    obtain ⟨w1, w2⟩ := wk c2 O2 x2 i
    by_cases hlt : i < items.length
    · rw [List.drop_eq_getElem_cons hlt] at loop
      obtain ⟨go, yl⟩ := w1 items[i] (List.getElem?_eq_getElem hlt)
      unfold dcLoop at loop
      cases ht : dcTurn vs fg ft fk fe items[i] ks acc c2.s with
      | none => rw [ht] at loop; cases loop
      | some r2 =>
        obtain ⟨ks1, acc1, s1⟩ := r2
        rw [ht] at loop
        dsimp only at loop
        refine .inr ⟨go, fun H' => ∃ c3 us3, c3.H = H' ∧ c3.σ = wipe c.σ vs ∧ Ok (tx X) c3 ∧ Ext c1 c3 ∧ Loose c3 D (.dK (ks1.zip us3)) ∧ us3.length = ks1.length ∧ Reps (tx X) c3.F c3.φ acc1 us3 ∧ ks1.length ≤ i + 1 ∧ c3.s = s1, ?_, ?_⟩
        · rintro H' ⟨c3, us3, h1, h2, O3, x3, L3, l3, r3, k1, k2⟩
          exact ⟨items.length - (i + 1), by omega, c3, ks1, acc1, us3, h1, h2, O3, x3, L3, l3, r3, k1, hlt, rfl, by rw [k2]; exact loop⟩
        · intro y H' hy
          obtain ⟨c3, k1, k2, k3, O3, x3, r3⟩ := yl y H' hy
          unfold dcTurn at ht
          cases q : fg items[i] c2.s with
          | none => rw [q] at ht; cases ht
          | some sg =>
          rw [q] at ht
          dsimp only at ht
          refine ⟨c3, items[i], sg, k2.trans hσ2, k1, O3, r3, by rw [k3]; exact q, fun c4 j1 O4 x4 jw => ?_⟩
          have hw4 : wipe c4.σ vs = wipe c.σ vs := (jw vs h1).trans (wipe_wipe _ _)
          refine ⟨hw4, c4, rfl, rfl, O4, ?_⟩
          subst j1
          cases qt : ft c4.s with
          | stuck => rw [qt] at ht; cases ht
          | exc C ns es s2 => rw [qt] at ht; cases ht
          | ok b s2 =>
          rw [qt] at ht
          intro c5 j3 hσ5 O5 x5
          have hw5 : wipe c5.σ vs = wipe c.σ vs := by rw [hσ5]; exact hw4
          have x25 := x3.trans (x4.trans x5)
          have L5 := L2'.ext (T := tx X) (fun b z => nomatch z) x25
          cases b with
          | false =>
            show ite _ _ _
            rw [if_neg Bool.false_ne_true]
            simp only [Option.some.injEq, Prod.mk.injEq] at ht
            obtain ⟨e0, e1, e2⟩ := ht
            obtain ⟨O6, x6, m6⟩ := O5.wipe (vs := vs)
            refine ⟨_, us, (by rfl), hw5, O6, x2.trans (x25.trans x6), ⟨by rw [← e0]; exact L5.h, L5.f, fun m => L5.m (m6 _ m)⟩, by rw [← e0]; exact hlen, ?_, by rw [← e0]; omega, by rw [← e2, ← j3]⟩
            rw [← e1]
            exact rr.mono x25.le x25.pre
          | true =>
            show ite _ _ _
            rw [if_pos rfl]
            dsimp only at ht
            refine ⟨c5, hσ5, rfl, O5, ?_⟩
            rw [← j3] at ht
            cases qk : datM fk c5.s with
            | stuck => rw [qk] at ht; cases ht
            | exc C ns es s2 => rw [qk] at ht; cases ht
            | ok yk s3 =>
            rw [qk] at ht
            dsimp only at ht
            cases qq : keyOf yk with
            | none => rw [qq] at ht; cases ht
            | some key =>
            rw [qq] at ht
            dsimp only at ht
            refine dat_ok (Q := fun c6 v => tSE X noE fe c4.σ c6.H fun z H5 => ∃ kvs k, v = kV k ∧ H5 D = some (.dK kvs) ∧ kvs.length < sizeLine ∧ _) qk (fun c6 v j4 hσ6 O6 x6 rv => ?_) fun a b v e z => by rw [← e]; exact z
            have ev := keyOf_rep rv qq
            rw [← j4] at ht
            cases qe : datM fe c6.s with
            | stuck => rw [qe] at ht; cases ht
            | exc C ns es s2 => rw [qe] at ht; cases ht
            | ok y s4 =>
            rw [qe] at ht
            simp only [Option.some.injEq, Prod.mk.injEq] at ht
            obtain ⟨e0, e1, e2⟩ := ht
            refine ⟨c6, hσ6.trans hσ5, rfl, O6, dat_ok (Q := fun c7 u => ∃ kvs k, v = kV k ∧ c7.H D = some (.dK kvs) ∧ kvs.length < sizeLine ∧ _) qe (fun c7 u j5 hσ7 O7 x7 ru => ?_) fun a b v e z => by rw [← e]; exact z⟩
            have x27 := x25.trans (x6.trans x7)
            have L7 := L2'.ext (T := tx X) (fun b z => nomatch z) x27
            obtain ⟨l8, z8, r8⟩ := putKD_ok (k := key) ru hlen (rr.mono x27.le x27.pre)
            obtain ⟨O8, x8⟩ := grow (o' := .dK ((putKD key y ks acc).1.zip (putKD key u ks us).2)) O7 (x2.trans x27) hD L7.h (fun b z => nomatch z) L7.f L7.m
            obtain ⟨O9, x9, m9⟩ := O8.wipe (vs := vs)
            refine ⟨ks.zip us, key, ev, L7.h, by rw [List.length_zip]; omega, _, (putKD key u ks us).2, (by rw [z8]), ?_, O9, x8.trans x9, ⟨by rw [← e0]; exact upd_same, L7.f, fun m => L7.m (show Mu c7 D from m9 D m)⟩, by rw [← e0]; exact l8, by rw [← e1]; exact r8, ?_, ?_⟩
            · show wipe c7.σ vs = _
              rw [hσ7, hσ6]; exact hw5
            · rw [← e0]
              have := putKD_len key y ks acc
              omega
            · rw [← e2, ← j5]
    · have e : i = items.length := by omega
      subst e
      rw [List.drop_length] at loop
      unfold dcLoop at loop
      simp only [Option.some.injEq, Prod.mk.injEq] at loop
      obtain ⟨e0, e1, e2⟩ := loop
      obtain ⟨O3, x3, m3⟩ := Ok.back O1 hcalm O2 x2 (by rw [hσ2, wipe_wipe, hσ])
      refine .inl ⟨w2 (Nat.le_refl _), ?_⟩
      have z : c.H D = none := Classical.byContradiction fun q => x1.live D q hD
      exact p1 { c2 with s := { c2.s with e := backE c1.s.e c2.s.e vs }, σ := c1.σ } (by rw [← e2]) hσ O3 (x1.trans x3) _ ⟨D, rfl, ⟨us, by rw [← e0]; exact hlen, by rw [← e0]; exact L2'.h, by rw [← e1]; exact rr⟩, L2'.f, fun m => L2'.m (m3 D m), z⟩
theorem se_dc {sc : Scope} (own : List (Str × Nat)) (hi : SI X Wx tg iter fi) (hg : Blk X sc fun Y => SG Y tg is fg) (ht : Blk X sc fun Y => STs Y ifs ft) (hk : Blk X sc fun Y => SE Y noE kx fk) (he : Blk X sc fun Y => SE Y noE elt fe) (hN : X.N.Nodup)
    (ok : blkC X.N X.env.scope sc own = true := by kernel_rfl) (h1 : ∀ i ∈ is, i ∈ own.map (·.2) := by decide) (hc : X.calm = true := by rfl) (hs : ∀ x, foldedSetIterable iter X.env x = pure x := by intro _; rfl) :
    SE X Wx (.DictComp kx elt [⟨tg, iter, ifs, 0⟩] sc pos) (dcM (own.map (·.2)) fi fg ft fk fe) := ⟨PE.imp (pe_dc hc hN hi.pi (blkOk_by ok) (fun s H C cl fp => (hg s H C cl fp).pg) (fun s H C cl fp => (ht s H C cl fp).pt) (fun s H C cl fp => (hk s H C cl fp).pe) (fun s H C cl fp => (he s H C cl fp).pe) hs) fun σ H Q h => dc_of h1 h⟩
end
/-! ## len(set(..)) -/
def lenSetM (fa : M W) : M W := bnd fa fun x => bnd (view x) fun d => opt (match seqOf d with
  | some ds => match allOf strOf ds with
    | some xs => if xs.length ≤ 4000 then some (W.val (.int ((uniq [] xs).length : Nat))) else none
    | none => none
  | none => none)
section
open PySem.Spec PyProof.Rows
variable {X : Cx} {Wx : WX} {a : Expr} {fa : M W} {p p2 q pos : Pos}
theorem se_lenSet (hg : Gl X "len") (hm : X.mg "len" = none) (hg2 : Gl X "set") (hm2 : X.mg "set" = none) (ha : SE X Wx a fa) (hc : X.calm = true := by rfl) (na : starEach [a] X.env = (false, eval a X.env) :: starEach [] X.env := by rfl) :
    SE X Wx (.Call (.Name "len" p) [.Call (.Name "set" p2) [a] [] q] [] pos) (lenSetM fa) := by
  refine ⟨⟨fun pins s σ H Q I ⟨c, e1, e2, O, h⟩ => ?_⟩⟩
  subst e1 e2
  have rd : tSE X Wx fa c.σ c.H fun v H1 => ∃ l xs, v = .ref l ∧ (SqL X.K H1 l (xs.map V.str) ∨ SqT X.K H1 l (xs.map V.str)) ∧ xs.length ≤ 4000 ∧ Q (.int ((uniq [] xs).length : Nat)) H1 :=
    ⟨c, rfl, rfl, O, (Post.bnd2 h (Ext.refl c) rfl).imp fun c1 w hσ1 O1 x1 ⟨_, _, p1⟩ v r => by
      obtain ⟨d, qv, p2⟩ := p1.view O1 x1 hσ1 r
      obtain ⟨w2, ew, p3⟩ := p2.opt1
      split at ew
      · rename_i ds eds
        split at ew
        · rename_i xs exs
          split at ew
          · rename_i few
            cases ew
            obtain ⟨l, us, ev, hs, rs⟩ := qv.seqOf O1 eds
            have eds2 := allOf_str exs
            rw [eds2] at rs
            have eus := rs.strs
            rw [eus] at hs
            exact ⟨l, xs, ev, hs, few, p3.ok rfl hσ1 O1 x1 _ rfl⟩
          · cases ew
        · cases ew
      · cases ew⟩
  refine Call_ (ld_blt I hg hm PySem.boot_len ?_)
  refine callWith_builtin1 (args_cons ?_ rfl) rfl rfl
  refine Call_ (ld_blt I hg2 hm2 PyProof.Rows.boot_set ?_)
  refine callWith_type1 (args_cons (thn (ha.pe.run pins s c.σ c.H _ I rd) fun v s1 ⟨x, H1, I1, r1, l, xs, ex, hs, few, q1⟩ => args_nil ?_) na) na rfl
  subst ex
  cases r1
  have fin : ∀ (h' : Heap) (tk : Nat), h'.SetOf (PySem.strKind X.prog X.w) s1.heap.objs.size (fun k => (uniq [] xs).contains k) (uniq [] xs).length → (∀ b o, b < s1.heap.objs.size → s1.heap.get? b = some o → h'.get? b = some o) →
      wpAny (model X.prog X.w) X.A (spliced (backTo pos (starEach [] X.env))) (fun vs s₂ => wpAny (model X.prog X.w) X.A (call (.builtin "len") (Value.ref s1.heap.objs.size :: vs)) (EP X pins c.σ Q) X.xe s₂) X.xe { s1 with heap := h', toks := tk } := fun h' tk hS hk => by
    refine args_nil ?_
    have ul := uniq_len xs []
    simp only [List.length_nil] at ul
    obtain ⟨o, es, ep, t, ho, hex, hd, _, _, _, hf, hn⟩ := hS
    have I2 : Inv X pins c.σ H1 { s1 with heap := h', toks := tk } := I1.kept fun b o e => hk b o (Heap.lt_size e) e
    exact call_len_set ho hex hd hf (by rw [hn] <;> omega) ⟨.int ((uniq [] xs).length : Nat), H1, I2.tok _, ⟨_, by rw [hn]⟩, q1⟩
  rcases hs with hs | hs
  · obtain ⟨its, r, pl, hz⟩ := I1.list hs
    exact call_uniq_list (I1.ok.hd hc) pl.isList (by simpa using strsAre_of r) few fin
  · obtain ⟨its, r, pl, hz⟩ := I1.tuple hs
    exact call_uniq_tuple (I1.ok.hd hc) pl (by simpa using strsAre_of r) few fin
end
end Z

namespace Z
open PySem L2

def BodyOk (P : Program) (w : World) (K : PySem.W.Frag) (mg : Str → Option Value) (base : Heap) (N : List Str) (qual : Str) (st : Stmt) (k : Nat) (g : M Fl) : Prop := ∀ (f : Addr) (cdv : Value) (A : Around) (outer : List PySem.Env) (s : Shared) (H : Hp) (E : XK),
  RoomG k (A.deeper (PyProof.Rows.envOfC qual (defScope st) s.heap.objs.size f cdv)) → SSs (cxOf (L2.CX P w) P w K mg base N qual (defScope st) f cdv A outer s H E) (fun cls d _ H => E cls d H) (defBody st) g
/-- raw facts of a def, of a def called by names, of a class that is made, of a method, of an error -/
def Fct (K : PySem.W.Frag) (mg : Str → Option Value) (x : Str) (st : Stmt) (ps : List Str) : Prop := ∃ f fd, mg x = some (.ref f) ∧ Fun K x x st f fd ∧ Binds K fd ps []
def FctK (K : PySem.W.Frag) (mg : Str → Option Value) (x : Str) (st : Stmt) (ps ks : List Str) (ix : List Nat) : Prop := ∃ f fd, mg x = some (.ref f) ∧ Fun K x x st f fd ∧ ∀ (s : Shared) (ws : List Value), ws.length = ks.length → BindsTo s fd ⟨[], ks.zip ws⟩ (ps.zip (pm ix ws))
def FctC (K : PySem.W.Frag) (mg : Str → Option Value) (x qual : Str) (st : Stmt) (ps : List Str) : Prop := ∃ C f fd, mg x = some (.ref C) ∧ Mk K C f ∧ Fun K "__init__" qual st f fd ∧ Binds K fd ps []
def FctM (K : PySem.W.Frag) (mg : Str → Option Value) (x m qual : Str) (st : Stmt) (ps : List Str) : Prop := ∃ C f fd, mg x = some (.ref C) ∧ Meth K C m f ∧ Fun K m qual st f fd ∧ Binds K fd ps []
def FctE (K : PySem.W.Frag) (mg : Str → Option Value) (x qual : Str) (st : Stmt) : Prop := ∃ C S fI fd, mg x = some (.ref C) ∧ ErrC K C S ∧ BaseC K mg "ShareError" S ∧ PySem.W.findIn K (.ref C) "__init__" = some (some (.ref fI)) ∧ PySem.W.typeIn K (.ref fI) = some (.type "function") ∧ Fun K "__init__" qual st fI fd ∧ Binds K fd ["self", "given"] []
def KTup (K : PySem.W.Frag) (mg : Str → Option Value) (x : Str) (d : D) : Prop := ∃ a, mg x = some (.ref a) ∧ ∀ F φ, Rep ⟨K, mg⟩ F φ d (.ref a)
theorem KTup.se {X : Cx} {Wx : WX} {x : Str} {d : D} {pos : Pos} (h : KTup X.K X.mg x d) (hg : Gl X x) (hdb : (x == ("__debug__" : Str)) = false := by decide) : SE X Wx (.Name x pos) (kD d) := by
  obtain ⟨a, h1, h2⟩ := h
  exact se_glob d (v := .ref a) hg h1 rfl (fun F φ => h2 F φ) hdb
section
variable {P : Program} {w : World} {K : PySem.W.Frag} {mg : Str → Option Value} {base : Heap}
theorem def_ok {x : Str} {st : Stmt} (N ps : List Str) (n : Nat) (g : M Fl) (k : Nat) (h : Fct K mg x st ps) (S : FnScope N ps (defScope st)) (hn : N.length = n) (hb : BodyOk P w K mg base N x st k g) : Def P w K mg base x x st (k + 1) ps (fnM n g) := by
  obtain ⟨f, fd, h1, h2, h3⟩ := h
  rw [← hn]
  exact ⟨f, fd, h1, h2, h3, fn_ok h2 S fun cdv A outer s H E hr => hb f cdv A outer s H E hr⟩
theorem defK_ok {x : Str} {st : Stmt} (N ps ks : List Str) (ix : List Nat) (n : Nat) (g : M Fl) (k : Nat) (h : FctK K mg x st ps ks ix) (S : FnScope N ps (defScope st)) (hn : N.length = n) (hb : BodyOk P w K mg base N x st k g) : DefK P w K mg base x (k + 1) ps ks ix (fnM n g) := by
  obtain ⟨f, fd, h1, h2, h3⟩ := h
  rw [← hn]
  exact ⟨f, fd, h1, h2.kp, h3, fn_ok h2 S fun cdv A outer s H E hr => hb f cdv A outer s H E hr⟩
theorem kdef_ok {x qual : Str} {st : Stmt} (N ps : List Str) (n : Nat) (g : M Fl) (k : Nat) (h : FctC K mg x qual st ps) (S : FnScope N ps (defScope st)) (hn : N.length = n) (hb : BodyOk P w K mg base N qual st k g) : KDef P w K mg base x (k + 1) ps (fnM n g) := by
  obtain ⟨C, f, fd, h0, h1, h2, h3⟩ := h
  rw [← hn]
  exact ⟨C, f, fd, h0, h1, h3, fn_ok h2 S fun cdv A outer s H E hr => hb f cdv A outer s H E hr⟩
theorem mdef_ok {x m qual : Str} {st : Stmt} (N ps : List Str) (n : Nat) (g : M Fl) (k : Nat) (h : FctM K mg x m qual st ps) (S : FnScope N ps (defScope st)) (hn : N.length = n) (hb : BodyOk P w K mg base N qual st k g) : MDef P w K mg base x m (k + 1) ps (fnM n g) := by
  obtain ⟨C, f, fd, h0, h1, h2, h3⟩ := h
  rw [← hn]
  exact ⟨C, f, fd, h0, h1, h3, fn_ok h2 S fun cdv A outer s H E hr => hb f cdv A outer s H E hr⟩
theorem def_no {x : Str} {st : Stmt} {ps : List Str} {k : Nat} (h : Fct K mg x st ps) : Def P w K mg base x x st k ps (fun _ _ => .stuck) := by
  obtain ⟨f, fd, h1, h2, h3⟩ := h
  exact ⟨f, fd, h1, h2, h3, ⟨fun vs H Q E q => q.1, fun A outer s H args us vs Q E hr he hb hv ⟨_, c, ds, _, _, _, _, _, q⟩ => q.elim⟩⟩
end

/-! ## The raw facts made -/
def BindOk (x qual : Str) (st : Stmt) (ps : List Str) : Prop := ∀ (kV doc pm : Value) (an : Option Addr) (cdv ct : Value) (us : List Value), us.length = ps.length → bindArgs (PySem.W.fnOf x qual (defArgs st) (defBody st) (defScope st) .none kV doc pm an cdv ct) ⟨us, []⟩ = pure (ps.zip us)
def BindKOk (x qual : Str) (st : Stmt) (ps ks : List Str) (ix : List Nat) : Prop := ∀ (kV doc pm : Value) (an : Option Addr) (cdv ct : Value) (ws : List Value), ws.length = ks.length → bindArgs (PySem.W.fnOf x qual (defArgs st) (defBody st) (defScope st) .none kV doc pm an cdv ct) ⟨[], ks.zip ws⟩ = pure (ps.zip (Z.pm ix ws))

section
variable {K : PySem.W.Frag} {h : Heap} {mg : Str → Option Value} {x m qual : Str} {st : Stmt} {ps ks : List Str} {ix : List Nat} {f C S A B : Addr} {od an : Option Addr} {osl : Array (Option Value)} {oc kV doc pmv cdv ct : Value}
theorem fct_mk (X : K.In h) (G : h.Ns mainGlobals mg) (hb : BindOk x x st ps) (a : PySem.W.nsIn K mainGlobals x = some (some (.ref f))) (l : K.lookup f = some ⟨oc, od, .func (PySem.W.fnOf x x (defArgs st) (defBody st) (defScope st) .none kV doc pmv an cdv ct), osl⟩)
    (c : PySem.W.codeIn K cdv x = true) (k : PySem.W.keepIn K (.ref f) = true) : Fct K mg x st ps := ⟨f, _, PySem.W.mg_of X G a, fun_mk l c k, (fun_mk l c k).binds hb⟩
theorem fctK_mk (X : K.In h) (G : h.Ns mainGlobals mg) (hb : BindKOk x x st ps ks ix) (a : PySem.W.nsIn K mainGlobals x = some (some (.ref f))) (l : K.lookup f = some ⟨oc, od, .func (PySem.W.fnOf x x (defArgs st) (defBody st) (defScope st) .none kV doc pmv an cdv ct), osl⟩)
    (c : PySem.W.codeIn K cdv x = true) (k : PySem.W.keepIn K (.ref f) = true) : FctK K mg x st ps ks ix := ⟨f, _, PySem.W.mg_of X G a, fun_mk l c k, fun s ws hw => .of_eq (hb kV doc pmv an cdv ct ws hw)⟩
theorem fctC_mk (X : K.In h) (G : h.Ns mainGlobals mg) (hb : BindOk "__init__" qual st ps) (aC : PySem.W.nsIn K mainGlobals x = some (some (.ref C))) (a : PySem.W.findIn K (.ref C) "__init__" = some (some (.ref f)))
    (l : K.lookup f = some ⟨oc, od, .func (PySem.W.fnOf "__init__" qual (defArgs st) (defBody st) (defScope st) .none kV doc pmv an cdv ct), osl⟩) (c : PySem.W.codeIn K cdv qual = true) (k : PySem.W.keepIn K (.ref f) = true) (mk : PySem.W.makesIn K C = true) (i : PySem.W.isFn K (.ref f) = true) (kC : PySem.W.keepIn K (.ref C) = true) : FctC K mg x qual st ps :=
  ⟨C, f, _, PySem.W.mg_of X G aC, ⟨mk, a, i, kC⟩, fun_mk l c k, (fun_mk l c k).binds hb⟩
theorem fctM_mk (X : K.In h) (G : h.Ns mainGlobals mg) (hb : BindOk m qual st ps) (aC : PySem.W.nsIn K mainGlobals x = some (some (.ref C))) (a : PySem.W.findIn K (.ref C) m = some (some (.ref f)))
    (l : K.lookup f = some ⟨oc, od, .func (PySem.W.fnOf m qual (defArgs st) (defBody st) (defScope st) .none kV doc pmv an cdv ct), osl⟩) (c : PySem.W.codeIn K cdv qual = true) (k : PySem.W.keepIn K (.ref f) = true) (i : PySem.W.isFn K (.ref f) = true) : FctM K mg x m qual st ps :=
  ⟨C, f, _, PySem.W.mg_of X G aC, ⟨a, i, k⟩, fun_mk l c k, (fun_mk l c k).binds hb⟩
theorem fctE_mk {nm q : Str} {N : Addr} {bs : List Value} {sn : List Str} {sub : List Value} {ab : Bool} {col : Option Bool} {dd : Option Addr} {m0 m1 m2 m3 m5 : Option Value} (X : K.In h) (G : h.Ns mainGlobals mg) (hb : BindOk "__init__" qual st ["self", "given"]) (aC : PySem.W.nsIn K mainGlobals x = some (some (.ref C))) (aS : PySem.W.nsIn K mainGlobals "ShareError" = some (some (.ref S)))
    (cl : K.lookup C = some (excClassObj nm q C N bs [.ref S, .type "Exception", .type "BaseException", .type "object"] true sn sub ab col dd m0 m1 m2 m3 m5 "Exception.__new__"))
    (sa : PySem.W.findIn K (.ref C) "__setattr__" = some (some (.builtin "object.__setattr__"))) (eC : PySem.W.subIn K (.ref C) (.type "BaseException") = some true) (tC : PySem.W.typeIn K (.ref C) = some (.type "type")) (kC : PySem.W.keepIn K (.ref C) = true) (no : PySem.W.findIn K (.ref C) "given" = some none)
    (sg : PySem.W.specialIn K (.ref S) "__getattribute__" = some (some (.builtin "type.__getattribute__"))) (sr : PySem.W.readsIn K S (.type "type") = true) (sf : PySem.W.findCls K (.ref S) (.type "type") "__init__" = some (.val (.builtin "Exception.__init__")))
    (a : PySem.W.findIn K (.ref C) "__init__" = some (some (.ref f))) (t : PySem.W.typeIn K (.ref f) = some (.type "function")) (l : K.lookup f = some ⟨oc, od, .func (PySem.W.fnOf "__init__" qual (defArgs st) (defBody st) (defScope st) .none kV doc pmv an cdv ct), osl⟩) (c : PySem.W.codeIn K cdv qual = true) (k : PySem.W.keepIn K (.ref f) = true) : FctE K mg x qual st :=
  ⟨C, S, f, _, PySem.W.mg_of X G aC, ⟨⟨nm, q, N, bs, sn, sub, ab, col, dd, m0, m1, m2, m3, m5, cl⟩, sa, eC, tC, kC, no⟩, ⟨PySem.W.mg_of X G aS, sg, sr, sf⟩, a, t, fun_mk l c k, (fun_mk l c k).binds hb⟩
theorem int_mk {i : Int} {t : Tok} (X : K.In h) (G : h.Ns mainGlobals mg) (a : PySem.W.nsIn K mainGlobals x = some (some (.int i t))) : ∃ t, mg x = some (.int i t) := ⟨t, PySem.W.mg_of X G a⟩
theorem str_mk {y : Str} {t : Tok} (X : K.In h) (G : h.Ns mainGlobals mg) (a : PySem.W.nsIn K mainGlobals x = some (some (.str y t))) : ∃ t, mg x = some (.str y t) := ⟨t, PySem.W.mg_of X G a⟩
theorem cls_mk (X : K.In h) (G : h.Ns mainGlobals mg) (a : PySem.W.nsIn K mainGlobals x = some (some (.ref C))) : ∃ A, mg x = some (.ref A) := ⟨C, PySem.W.mg_of X G a⟩
/-- what stands in a written tuple -/
inductive DVs : List D → List Value → Prop
  | nil : DVs [] []
  | int {i t ds us} : DVs ds us → DVs (.int i :: ds) (.int i t :: us)
  | str {i t ds us} : DVs ds us → DVs (.str i :: ds) (.str i t :: us)
theorem DVs.rep {T : Tx} {F : Hp} {φ : List Addr} {ds : List D} {us : List Value} (r : DVs ds us) : ∃ vs, Reps T F φ ds vs ∧ Vals vs us := by
  induction r with
  | nil => exact ⟨[], rfl, .nil⟩
  | int _ ih =>
    obtain ⟨vs, h1, h2⟩ := ih
    exact ⟨_, ⟨_, _, rfl, rfl, h1⟩, .cons ⟨_, rfl⟩ h2⟩
  | str _ ih =>
    obtain ⟨vs, h1, h2⟩ := ih
    exact ⟨_, ⟨_, _, rfl, rfl, h1⟩, .cons ⟨_, rfl⟩ h2⟩
theorem tup_mk {ds : List D} {its : List Value} {n : Nat} {sl : Array (Option Value)} {od : Option Addr} (X : K.In h) (G : h.Ns mainGlobals mg) (a : PySem.W.nsIn K mainGlobals x = some (some (.ref A))) (l : K.lookup A = some ⟨.type "tuple", od, .seq its.toArray n, sl⟩) (r : DVs ds its) (z : its.length ≤ sizeLine) : KTup K mg x (.ktp ds) :=
  ⟨A, PySem.W.mg_of X G a, fun F φ => by
    obtain ⟨vs, h1, h2⟩ := r.rep (T := ⟨K, mg⟩) (F := F) (φ := φ)
    exact ⟨A, vs, rfl, .inr ⟨_, _, _, l, rfl, rfl, by simpa using z, by simpa using h2⟩, h1⟩⟩
theorem exT_nil : ExT K mg [] := fun _ _ _ h => by cases h
theorem exT_cons {b : Bool} {t : List (Str × Str × Bool)} (e : ∃ A B, mg m = some (.ref A) ∧ mg x = some (.ref B) ∧ PySem.W.exmOne K (.ref A) (.ref B) = some b) (r : ExT K mg t) : ExT K mg ((m, x, b) :: t) := fun C y c hm => by
  rcases List.mem_cons.mp hm with q | q
  · cases q; exact e
  · exact r C y c q
theorem ex_mk {b : Bool} (X : K.In h) (G : h.Ns mainGlobals mg) (a1 : PySem.W.nsIn K mainGlobals m = some (some (.ref A))) (a2 : PySem.W.nsIn K mainGlobals x = some (some (.ref B))) (h1 : PySem.W.subIn K (.ref B) (.type "BaseException") = some true) (hd : PySem.W.hasDictIn K B = true) (ht : PySem.W.typeIn K (.ref B) = some (.type "type")) (h4 : PySem.W.subIn K (.ref A) (.ref B) = some b) :
    ∃ A B, mg m = some (.ref A) ∧ mg x = some (.ref B) ∧ PySem.W.exmOne K (.ref A) (.ref B) = some b := ⟨A, B, PySem.W.mg_of X G a1, PySem.W.mg_of X G a2, PySem.W.exm_ref h1 hd ht h4⟩
theorem isT_nil : IsT K mg [] := fun _ _ h => by cases h
theorem isT_cons {t : List (Str × Str)} (e : ∃ A B, mg m = some (.ref A) ∧ mg x = some (.ref B) ∧ ((Value.ref A) == .ref B) = false ∧ PySem.W.kitCls K (.ref A) (.ref B) = some true) (r : IsT K mg t) : IsT K mg ((m, x) :: t) := fun C y hm => by
  rcases List.mem_cons.mp hm with q | q
  · cases q; exact e
  · exact r C y q
theorem is_mk (X : K.In h) (G : h.Ns mainGlobals mg) (a1 : PySem.W.nsIn K mainGlobals m = some (some (.ref A))) (a2 : PySem.W.nsIn K mainGlobals x = some (some (.ref B))) (hi0 : PySem.W.isClsIn K B = true) (ht : PySem.W.typeIn K (.ref B) = some (.type "type")) (h4 : PySem.W.subIn K (.ref A) (.ref B) = some true) (ne : A ≠ B) :
    ∃ A B, mg m = some (.ref A) ∧ mg x = some (.ref B) ∧ ((Value.ref A) == .ref B) = false ∧ PySem.W.kitCls K (.ref A) (.ref B) = some true :=
  ⟨A, B, PySem.W.mg_of X G a1, PySem.W.mg_of X G a2, beq_eq_false_iff_ne.mpr fun z => ne (Value.ref.inj z), by
    have hi : (PySem.W.clsIn K B).isSome = true := hi0
    show (if ((PySem.W.clsIn K B).isSome && PySem.W.typeIn K (.ref B) == some (.type "type")) = true then PySem.W.subIn K (.ref A) (.ref B) else none) = some true
    rw [hi, ht]
    exact (if_pos rfl).trans h4⟩
theorem xfT_nil : XfT K mg [] x := fun _ h => by cases h
theorem xfT_cons {t : List Str} (e : ∃ A, mg m = some (.ref A) ∧ XfC K A ∧ PySem.W.findIn K (.ref A) x = some none) (r : XfT K mg t x) : XfT K mg (m :: t) x := fun C hm => by
  rcases List.mem_cons.mp hm with q | q
  · cases q; exact e
  · exact r C q
theorem xf_mk (X : K.In h) (G : h.Ns mainGlobals mg) (a : PySem.W.nsIn K mainGlobals m = some (some (.ref A))) (ga : PySem.W.findIn K (.ref A) "__getattribute__" = some (some (.builtin "BaseException.__getattribute__"))) (gg : PySem.W.findIn K (.ref A) "__getattr__" = some none) (ex : PySem.W.subIn K (.ref A) (.type "BaseException") = some true) (hd : PySem.W.hasDictIn K A = true) (no : PySem.W.findIn K (.ref A) x = some none) :
    ∃ A, mg m = some (.ref A) ∧ XfC K A ∧ PySem.W.findIn K (.ref A) x = some none := ⟨A, PySem.W.mg_of X G a, ⟨ga, gg, ex, hd⟩, no⟩
theorem atT_nil : AtT K mg [] x := fun _ h => by cases h
theorem atT_cons {t : List Str} (e : ∃ A, mg m = some (.ref A) ∧ Cls K A ∧ NoAttr K A x) (r : AtT K mg t x) : AtT K mg (m :: t) x := fun C hm => by
  rcases List.mem_cons.mp hm with q | q
  · cases q; exact e
  · exact r C q
theorem at_mk (X : K.In h) (G : h.Ns mainGlobals mg) (a : PySem.W.nsIn K mainGlobals m = some (some (.ref A))) (pg : PySem.W.plainGet K A Str.empty = true) (hd : PySem.W.hasDictIn K A = true) (po : PySem.W.plainOver K A = true) (sa : PySem.W.findIn K (.ref A) "__setattr__" = some (some (.builtin "object.__setattr__"))) (no : PySem.W.findIn K (.ref A) x = some none) :
    ∃ A, mg m = some (.ref A) ∧ Cls K A ∧ NoAttr K A x := ⟨A, PySem.W.mg_of X G a, ⟨pg, hd, po, sa⟩, no⟩
theorem clk_mk (X : K.In h) (G : h.Ns mainGlobals mg) (a : PySem.W.nsIn K mainGlobals m = some (some (.ref A))) (pg : PySem.W.plainGet K A Str.empty = true) (hd : PySem.W.hasDictIn K A = true) (po : PySem.W.plainOver K A = true) (sa : PySem.W.findIn K (.ref A) "__setattr__" = some (some (.builtin "object.__setattr__"))) :
    ∃ C, mg m = some (.ref C) ∧ Cls K C := ⟨A, PySem.W.mg_of X G a, ⟨pg, hd, po, sa⟩⟩
end
/-! ## The end -/
def spLaw (K : PySem.W.Frag) : Sp := fun vs H Q _ => ∃ (a : Addr) (ns : List Int), vs = [.ref a] ∧ SqL K H a (ns.map V.int) ∧ ns.length ≤ 63 ∧ ∀ H', Q (.bl true) H'
theorem start_ok {T : Tx} {H : Hp} : Ok T ⟨H, [], ⟨[], []⟩, [], H⟩ := ⟨fun _ _ h => h, rfl, fun n a cl h => (by cases n <;> cases h), List.nodup_nil, fun i d h => (by cases i <;> cases h), fun i cl h => (by cases i <;> cases h), fun i j a ⟨⟨_, h⟩, _⟩ => (by cases i <;> cases h), fun i a ⟨⟨_, h⟩, _⟩ => (by cases i <;> cases h), fun a m => m.elim (fun m => nomatch m) fun ⟨i, ⟨_, h⟩, _⟩ => (by cases i <;> cases h), rfl⟩
theorem ints_reps {T : Tx} {F : Hp} {φ : List Addr} : ∀ ns : List Int, Reps T F φ (ns.map D.int) (ns.map V.int)
  | [] => rfl
  | n :: ns => ⟨_, _, rfl, rfl, ints_reps ns⟩
theorem end_of {P : Program} {w : World} {K : PySem.W.Frag} {mg : Str → Option Value} {st : Stmt} {k : Nat} {F : List D → M W} {fa : Addr} (hT : Fct K mg "law" st ["script"]) (hb : BindOk "law" "law" st ["script"]) (hfa : mg "law" = some (.ref fa)) (D : ∀ base, Def P w K mg base "law" "law" st k ["script"] F)
    (ok : ∀ ns : List Int, ns.length ≤ 63 → ∃ s1, F [.scr (ns.map .int)] ⟨[], []⟩ = .ok (.val (.bl true)) s1) :
    ∃ fd : FuncData, (∀ (s : Shared) (u : Value), BindsTo s fd ⟨[u], []⟩ [("script", u)]) ∧ ∀ base : Heap, K.In base → base.Ns mainGlobals mg → FnG P w K mg base k fa fd ["script"] (spLaw K) := by
  obtain ⟨f, fd, h1, h2, h3⟩ := hT
  rw [hfa] at h1
  cases h1
  refine ⟨fd, fun s u => ?_, fun base _ _ => ?_⟩
  · obtain ⟨oc, od, kV, doc, pmv, an, cdv, ct, osl, rfl, lk, hcd⟩ := h2.ex
    exact .of_eq (hb kV doc pmv an cdv ct [u] rfl)
  · obtain ⟨f2, fd2, g1, g2, g3, g4⟩ := D base
    rw [hfa] at g1
    cases g1
    have e : fd2 = fd := by
      obtain ⟨_, _, _, _, _, _, _, _, _, _, l1, _⟩ := h2.ex
      obtain ⟨_, _, _, _, _, _, _, _, _, _, l2, _⟩ := g2.ex
      rw [l1] at l2
      injection l2 with l2
      injection l2 with _ _ l2
      injection l2 with l2
      exact l2.symm
    rw [← e]
    refine g4.imp fun vs H Q E ⟨a, ns, ev, hs, hl, q⟩ => ?_
    subst ev
    refine ⟨rfl, ⟨H, [], ⟨[], []⟩, [], H⟩, [.scr (ns.map .int)], rfl, rfl, rfl, start_ok, ⟨_, _, rfl, ⟨a, _, rfl, hs, ints_reps ns⟩, rfl⟩, ?_⟩
    obtain ⟨s1, e1⟩ := ok ns hl
    show Post _ _ (F [.scr (ns.map .int)] ⟨[], []⟩) _ _
    rw [e1]
    intro c1 _ _ _ _ v rv
    cases (show v = .bl true from rv)
    exact q _
theorem cx_no {P : Program} {w : World} {o : List PySem.Env} {H : Hp} {s : Shared} {e : Value} {s' : Shared} (h : L2.CX P w o H s (fun _ _ _ => False) e s') : False := by
  obtain ⟨_, _, _, _, _, _, _, _, _, _, _, _, z⟩ := h
  exact z
theorem walk {l : PySem.W.OpenLaw} {q : Program} {loose : List Str} {XP : (Str → Option Value) → Heap → Prop} {YP : World → Heap → Prop} {d : DefRec} {K : Params → PySem.W.Frag} {k : Nat} (hn : l.most = some 63) (hdf : d.params.defaults = []) (hr : RoomG k callerA)
    (hY : ∀ (w : World) (h : Heap), YP w h → (K w.params).In h)
    (F : ∀ (w : World) (mg : Str → Option Value) (fa : Addr) (h : Heap), (K w.params).In h → h.Ns mainGlobals mg → mg d.name = some (.ref fa) →
      ∃ fd : FuncData, (∀ (s : Shared) (u : Value), BindsTo s fd ⟨[u], []⟩ [("script", u)]) ∧ ∀ base : Heap, (K w.params).In base → base.Ns mainGlobals mg → FnG l.prog w (K w.params) mg base k fa fd ["script"] (spLaw (K w.params))) :
    PySem.W.WalkO q loose XP YP l.row.toRowW d [] (fun f vs => PySem.call f vs) :=
  walk_ofG (n := 63) (k := k) (x := "script") (sp := fun w => spLaw (K w.params)) hn (by decide) hdf hr hY F (fun _ _ a ns hl _ hS => ⟨a, ns, rfl, hS, hl, fun _ => rfl⟩) fun _ _ _ _ _ z => cx_no z
end Z

namespace Z
open PySem L2

/-! ## enumerate(a tuple) -/
section
open AutoSeq1 (wpAny_loadPart')
set_option maxHeartbeats 1000000 in
theorem enum_tup_new (l : Addr) (items : Array Value) (n : Nat) (dct : Option Addr) (sl : Array (Option Value)) :
    Meets (Builtin.«enumerate.__new__» ⟨[.type "enumerate", .ref l], []⟩) (fun _ R s => s.heap.get? l = some { cls := .type "tuple", dict := dct, data := .seq items n, slots := sl } ∧
      R (.ok (.ret (.ref (s.heap.push { cls := .type "tuple_iterator", data := .fields #[.ref l, .int 0 0] }).objs.size)))
        { s with heap := (s.heap.push { cls := .type "tuple_iterator", data := .fields #[.ref l, .int 0 0] }).push { cls := .type "enumerate", data := .fields #[.none, .bool false, .ref s.heap.objs.size, rawInt 0, .none, .none] } }) :=
  .of_wp fun prog w A R s h => by
    obtain ⟨hp, g, d, tk, os⟩ := s
    obtain ⟨hl, h⟩ := h
    have isT : Heap.IsTuple (Shared.heap ⟨hp, g, d, tk, os⟩) l items := ⟨_, hl, rfl, n, rfl⟩
    have sub0 := sub_enumerate
    wp_walk using wpAny_loadPart' hl
    refine wpAny_stack_any fun st => wpAny_pure ?_
    split
    · rename_i c _ _ _ _ _
      cases (c == Value.type "enumerate") <;> (wp_walk using wpAny_loadPart' hl, wpAny_pyIter_tuple isT; exact ⟨_, rfl, h⟩)
    · wp_walk using wpAny_loadPart' hl, wpAny_pyIter_tuple isT
      exact ⟨_, rfl, h⟩
theorem call_enum_tup {prog : Program} {w : World} {A : Around} {E : Value → Shared → Prop} {s : Shared} {l : Addr} {items : Array Value} {Q : Value → Shared → Prop} (hT : s.heap.IsTuple l items)
    (fin : ∀ h', IsEnum h' (s.heap.objs.size + 1) s.heap.objs.size 0 .none → h'.IsTupleIter s.heap.objs.size l 0 → (∀ b o, s.heap.get? b = some o → h'.get? b = some o) → Q (.ref (s.heap.objs.size + 1)) { s with heap := h' }) :
    wpAny (model prog w) A (call (.type "enumerate") [.ref l]) Q E s := by
  obtain ⟨⟨c, dct, dt, sl⟩, hl, hc, n, hd⟩ := hT
  dsimp only at hc hd
  subst hc hd
  refine callType_new F.called_enumerate (by decide) (F.typeCall_enumerate_1 _) (F.newCall_enumerate_1 _) (fun obj => F.args_object_init_2 obj _) F.entry_enumerate_new (enum_tup_new l items n dct sl) ⟨hl, ?_⟩
  let oi : Obj := { cls := .type "tuple_iterator", data := .fields #[.ref l, .int 0 0] }
  have sz : (s.heap.push oi).objs.size = s.heap.objs.size + 1 := Heap.size_push ..
  have atE := Heap.get?_push_size (s.heap.push oi) (o := { cls := .type "enumerate", data := .fields #[.none, .bool false, .ref s.heap.objs.size, rawInt 0, .none, .none] }) rfl
  show _ ∧ _
  rw [sz] at atE
  rw [show (s.heap.push { cls := .type "tuple_iterator", data := .fields #[.ref l, .int 0 0] }).objs.size = s.heap.objs.size + 1 from sz]
  exact ⟨⟨_, atE, rfl⟩, fin _ atE ⟨_, Heap.get?_push_of_some _ (Heap.get?_push_size _ rfl), rfl, rfl⟩ fun b o x => Heap.get?_push_of_some _ (Heap.get?_push_of_some _ x)⟩
end
section
open PySem.Spec PyProof.Rows
/-- the tuple at a, each item in a new pair -/
def Itf (K : PySem.W.Frag) (a : Addr) : It :=
  ⟨fun i H => ∃ (xs : List V) (x : V), SqT K H a xs ∧ xs[i]? = some x, fun i H v H' => ∃ T x, v = .ref T ∧ H T = none ∧ H' = upd H T (.tup [.int (i : Nat), x]) ∧ ∀ xs, SqT K H a xs → xs[i]? = some x, fun i H => ∃ xs : List V, SqT K H a xs ∧ xs.length ≤ i⟩
theorem vals_inj {us : List Value} {xs ys : List V} (r1 : Vals xs us) (r2 : Vals ys us) : xs = ys := by
  induction r1 generalizing ys with
  | nil => cases r2; rfl
  | cons h _ ih =>
    cases r2 with
    | cons h2 r2 =>
      have e1 := h.abs
      have e2 := h2.abs
      rw [e1] at e2
      cases e2
      rw [ih r2]
theorem tup_inj {X : Cx} {pins : List (Addr × Obj)} {σ : L2.St} {H : Hp} {s : Shared} {a : Addr} {xs ys : List V} (I : Inv X pins σ H s) (h1 : SqT X.K H a xs) (h2 : SqT X.K H a ys) : xs = ys := by
  obtain ⟨i1, r1, p1, _⟩ := I.tuple h1
  obtain ⟨i2, r2, p2, _⟩ := I.tuple h2
  obtain ⟨o1, g1, _, n1, d1⟩ := p1
  obtain ⟨o2, g2, _, n2, d2⟩ := p2
  rw [g1] at g2
  cases g2
  rw [d1] at d2
  injection d2 with d2 _
  have e : i1 = i2 := by simpa using congrArg Array.toList d2
  subst e
  exact vals_inj r1 r2
theorem turn_enumT {P : Program} {w : World} {K : PySem.W.Frag} {elts : List Expr} {kk : Nat} {tpos : Pos} (a e it : Addr) (nea : a ≠ it) :
    Turn P w K (.Tuple elts kk tpos) (Itf K a) [e, it] e (fun i h => (∃ old, IsEnum h e it ((i : Nat) : Int) old) ∧ h.IsTupleIter it a i ∧ e ≠ it ∧ a ≠ e) where
  mem := List.mem_cons_self
  obj := fun i h st b hb => by
    obtain ⟨⟨old, he⟩, ⟨o, ho, hc, hd⟩, _⟩ := st
    rcases List.mem_cons.mp hb with z | z
    · rw [z]; exact ⟨_, he, fun v q => nomatch q⟩
    · rw [List.mem_singleton.mp z]; exact ⟨o, ho, fun v q => by rw [hd] at q; cases q⟩
  keep := fun i h h' st k => let ⟨⟨old, he⟩, hi, hne⟩ := st; ⟨⟨old, k e (by simp) _ he⟩, hi.at fun o q => k it (by simp) o q, hne⟩
  item := by
    intro X hP hw hK hc i pins s σ H E I hf st hg
    subst hP hw hK
    obtain ⟨⟨old, he⟩, hit, hne, hae⟩ := st
    obtain ⟨xs, x, hq, hx⟩ := hg
    obtain ⟨its, rv, p, hz⟩ := I.tuple hq
    have lx : i < its.toArray.size := by
      rw [List.size_toArray, ← rv.length]
      exact (List.getElem?_eq_some_iff.mp hx).1
    have lowE : e < s.heap.objs.size := Heap.lt_size he
    have lowI : it < s.heap.objs.size := by obtain ⟨_, q, _⟩ := hit; exact Heap.lt_size q
    have hd : X.A.in1.handled = none := by simp [I.ok.hd hc]
    refine wpAny_pyNext_enum_itemD (Draws.tuple hd it a nea its.toArray) he ⟨hit, p⟩ lx hne (by simp [hne, Ne.symm hae]) fun u h' tk hu ho hst' hT hsz hk => ?_
    have ru : RelV x u := by
      obtain ⟨u', hu', ru⟩ := rv.get hx
      have e : its[i]? = some u := by simpa using hu
      rw [hu'] at e
      cases e
      exact ru
    refine ⟨_, rfl, wpAny_letOwnedTupleGo_enum (s := { s with heap := h', toks := tk + 1 }) ho fun h'' he' sb => ?_⟩
    let T := s.heap.objs.size
    have getT : h''.get? T = some { cls := .type "tuple", data := .seq #[.int i tk, u] } := (sb.2 _ (Nat.ne_of_gt lowE)).trans hT
    have okT : ObjOk X.prog X.w (upd H T (.tup [.int (i : Nat), x])) h'' T (.tup [.int (i : Nat), x]) := ⟨by show 2 ≤ sizeLine; decide, [.int i tk, u], .cons ⟨_, rfl⟩ (.cons ru .nil), ⟨_, getT, rfl, _, rfl⟩⟩
    have both : ∀ {b : Addr}, b ∉ [e, it] → b ≠ e ∧ b ≠ it := fun h => ⟨fun z => h (by simp [z]), fun z => h (by simp [z])⟩
    have I1 : Inv X pins σ (upd H T (.tup [.int (i : Nat), x])) { s with heap := h'', toks := tk + 1 } := I.turnedNew (ch := [e, it]) (fun b ob hb q => (sb.2 b (both hb).1).trans (hk b ob (both hb).1 (both hb).2 q)) hf (Nat.le_refl _) okT
    have tn : I.ok = I.ok := rfl
    refine ⟨.ref T, _, I1, rfl, ⟨_, x, rfl, I.hok.fresh (Nat.le_refl _), rfl, fun ys hy => by rw [tup_inj I hy hq]; exact hx⟩, ⟨⟨u, ?_⟩, hst'.1.at fun o q => (sb.2 it (Ne.symm hne)).trans q, hne, hae⟩, fun b hb => ?_⟩
    · rw [show ((i + 1 : Nat) : Int) = (i : Int) + 1 by omega]
      exact he'
    · have lb : b < T := by
        rcases List.mem_cons.mp hb with z | z
        · rw [z]; exact lowE
        · rw [List.mem_singleton.mp z]; exact lowI
      rw [upd_ne (Nat.ne_of_lt lb)]
      exact (hf b hb).1
  done := by
    intro X hP hw hK hc i pins s σ H E I hf st hg
    subst hP hw hK
    obtain ⟨⟨old, he⟩, hit, hne, hae⟩ := st
    obtain ⟨xs, hq, hx⟩ := hg
    obtain ⟨its, rv, p, hz⟩ := I.tuple hq
    obtain ⟨f0, f1, f2, f3, f4, f5⟩ := hf it (by simp)
    have hd : X.A.in1.handled = none := by simp [I.ok.hd hc]
    have tyE : s.TypeIs (.ref e) "enumerate" := ⟨_, he, rfl⟩
    unfold pyNext
    refine wpAny_bind (wpAny_attempt (wpAny_callSpecial?_slot (name := Str.ofString "__next__") tyE F.slot_enumerate_next (wpAny_call_entry F.slot_enumerate_next tyE F.entry_enumerate_next ?_ (F.args_enumerate_next_1 _))))
    show wpAny _ _ (field (.ref e) 2 >>= _) _ _ _
    refine wpAny_bind (wpAny_field he rfl (x := .ref it) rfl ?_)
    refine wpAny_bind (wpAny_nextOf_tuple_end (items := its.toArray) hd hit p (by rw [Array.getElem?_eq_none_iff, List.size_toArray, ← rv.length]; exact hx) fun h' z hk hz2 => ?_)
    obtain ⟨o, ho, hcls⟩ := hz2
    refine wpAny_bind (wpAny_isInstance (T := "StopIteration") (b := true) ⟨o, ho, hcls⟩ isSubtype_stop (wpAny_pure ⟨rfl, ?_⟩))
    exact I.turned (t' := s.toks) (fun b o hb q => hk b o hb q) f0 f1 f3 f4 f5
  self := fun A i s Q E st h => let ⟨⟨_, he⟩, _⟩ := st; wpAny_pyIter_enum he h
def iEnumA (K : PySem.W.Frag) (ta : TA) : TI := fun σ H R => ta σ H fun vs H1 => ∃ a, vs = [.ref a] ∧ (((∃ xs, SqL K H1 a xs) ∧ R (Ite K a) H1) ∨ ((∃ xs, SqT K H1 a xs) ∧ R (Itf K a) H1))
theorem pi_enumA {X : Cx} {e : Expr} {ta : TA} {p pos tpos : Pos} {elts : List Expr} {kk : Nat} (hg : Gl X "enumerate") (hm : X.mg "enumerate" = none) (ha : PA X [e] ta) (hs : starEach [e] X.env = [(false, eval e X.env)] := by rfl) :
    PI X (.Tuple elts kk tpos) (.Call (.Name "enumerate" p) [e] [] pos) (iEnumA X.K ta) := by
  refine ⟨fun pins s σ H R I h => Call_ (ld_blt I hg hm boot_enumerate (callWith_type1 (thn (ha.run pos pins s σ H _ I h) fun us s1 hh => ?_) hs rfl))⟩
  obtain ⟨vs, H1, I1, r1, a, ev, q⟩ := hh
  subst ev
  cases r1 with
  | cons r rr =>
  cases rr
  cases r
  let n := s1.heap.objs.size
  have far : ∀ b ∈ [n + 1, n], FpOk X pins H1 b := fun b hb => by
    have low : n ≤ b := by
      rcases List.mem_cons.mp hb with z | z
      · rw [z]; exact Nat.le_succ _
      · rw [List.mem_singleton.mp z]; exact Nat.le_refl _
    exact I1.fpOk low (I1.hok.fresh low)
  rcases q with ⟨⟨xs, hq⟩, q⟩ | ⟨⟨xs, hq⟩, q⟩
  · obtain ⟨its, rv, p', hz⟩ := I1.list hq
    exact call_enumerate_list p'.isList fun h' he hit hsz hk => wpAny_pyIter_enum he ⟨n + 1, [n + 1, n], _, _, H1, rfl, I1.kept (t' := s1.toks) hk, turn_enum a (n + 1) n, ⟨⟨.none, he⟩, hit, Nat.succ_ne_self _⟩, far, q⟩
  · obtain ⟨its, rv, p', hz⟩ := I1.tuple hq
    have low : a < n := by obtain ⟨o, g, _⟩ := p'; exact Heap.lt_size g
    exact call_enum_tup p' fun h' he hit hk => wpAny_pyIter_enum he ⟨n + 1, [n + 1, n], _, _, H1, rfl, I1.kept (t' := s1.toks) hk, turn_enumT a (n + 1) n (Nat.ne_of_lt low), ⟨⟨.none, he⟩, hit, Nat.succ_ne_self _, Nat.ne_of_lt (Nat.lt_succ_of_lt low)⟩, far, q⟩
end
theorem Walk.enumT {T : Tx} {c0 : Cf} {a : Addr} {us : List V} {ds : List D} (h : SqT T.K c0.F a us) (r : Reps T c0.F c0.φ ds us) : Walk T c0 (Itf T.K a) (enumL 0 ds) := fun c O x i => by
  have h1 : SqT T.K c.H a us := SqT.le O.le (SqT.le x.le h)
  refine ⟨fun d hd => ?_, fun hi => ⟨us, h1, by rw [r.len, ← enumL_len ds 0]; exact hi⟩⟩
  obtain ⟨z, hz, rfl⟩ := enumL_get hd
  obtain ⟨u, hu, hr⟩ := r.get hz
  refine ⟨⟨us, u, h1, hu⟩, fun y H' ⟨p, w, k1, hp, k2, hy⟩ => ?_⟩
  subst k1 k2
  have z := hy us h1
  rw [hu] at z
  cases z
  rw [Nat.zero_add]
  exact lay_tup O ⟨_, _, rfl, rfl, _, _, rfl, hr.mono x.le x.pre, rfl⟩ hp
def enumAI (fs : M (List W)) : M (List D) := bnd fs fun ws => bnd (toDs ws) fun ds => opt (match ds with
  | [d] => match seqOf d with
    | some xs => some (enumL 0 xs)
    | none => none
  | _ => none)
section
variable {X : Cx} {Wx : WX} {a : Expr} {pos p tpos : Pos} {fs : M (List W)} {elts : List Expr} {kk : Nat}
theorem si_enumA (hg : Gl X "enumerate") (hm : X.mg "enumerate" = none) (ha : SA X Wx [a] fs) (hs : starEach [a] X.env = [(false, eval a X.env)] := by rfl) : SI X Wx (.Tuple elts kk tpos) (.Call (.Name "enumerate" p) [a] [] pos) (enumAI fs) := ⟨PI.imp (pi_enumA hg hm ha.pa hs) fun σ H R ⟨c, e1, e2, O, q⟩ => by
  subst e1 e2
  refine (tSA_toDs O q).mono fun vs H1 ⟨c1, ds, h1, h2, O1, x1, rs, p1⟩ => ?_
  subst h1
  obtain ⟨items, e, p2⟩ := p1.opt1
  split at e
  · split at e
    · rename_i xs e1
      cases e
      obtain ⟨v, w, rfl, r, z⟩ := rs
      cases (show w = [] from z)
      obtain ⟨a, us, rfl, h, r⟩ := seqOf_F r e1
      rcases h with h | h
      · exact ⟨a, rfl, .inl ⟨⟨us, SqL.le O1.le h⟩, p2.ok rfl h2 O1 x1 _ (Walk.enum h r)⟩⟩
      · exact ⟨a, rfl, .inr ⟨⟨us, SqT.le O1.le h⟩, p2.ok rfl h2 O1 x1 _ (Walk.enumT h r)⟩⟩
    · cases e
  · cases e⟩
end
end Z

namespace Z
open PySem L2

/-! ## Running the functions -/
theorem log2_lt {n k : Nat} (h : n < 2 ^ k) : n.log2 ≤ k := by
  by_cases z : n = 0
  · subst z; exact Nat.zero_le _
  · exact Nat.le_of_lt ((Nat.log2_lt z).mpr h)
theorem forM_inv {tg : Tgf} {bd : M Fl} (I : Nat → S → Prop) : ∀ (ds : List D) (k : Nat) (s : S), I k s →
    (∀ i d s, ds[i]? = some d → I (k + i) s → ∃ s1 s2, tg d s = some s1 ∧ (bd s1 = .ok .next s2 ∨ bd s1 = .ok .cont s2) ∧ I (k + i + 1) s2) → ∃ s', forM tg bd ds s = .ok .next s' ∧ I (k + ds.length) s'
  | [], k, s, h0, _ => ⟨s, rfl, h0⟩
  | d :: ds, k, s, h0, step => by
    obtain ⟨s1, s2, h1, h2, h3⟩ := step 0 d s rfl h0
    obtain ⟨s', h4, h5⟩ := forM_inv I ds (k + 1) s2 h3 fun i d' s hd hi => by
      have z := step (i + 1) d' s (by simpa using hd)
      rw [show k + (i + 1) = k + 1 + i by omega] at z
      exact z hi
    refine ⟨s', ?_, by rw [List.length_cons, show k + (ds.length + 1) = k + 1 + ds.length by omega]; exact h5⟩
    unfold forM
    rw [h1]
    dsimp only
    rcases h2 with h2 | h2 <;> rw [h2] <;> exact h4
/-- a loop over range(..) -/
theorem rangeL_len (lo : Int) (n : Nat) : (rangeL lo n).length = n := by unfold rangeL; simp
theorem rangeL_get {lo : Int} {n i : Nat} {d : D} (h : (rangeL lo n)[i]? = some d) : i < n ∧ d = .int (lo + i) := by
  unfold rangeL at h
  rw [List.getElem?_map] at h
  cases q : (List.range n)[i]? with
  | none => rw [q] at h; cases h
  | some k =>
    rw [q] at h
    cases h
    obtain ⟨h1, h2⟩ := List.getElem?_eq_some_iff.mp q
    rw [List.getElem_range] at h2
    subst h2
    exact ⟨by simpa using h1, rfl⟩
theorem lcLoop_inv {vs : List Nat} {tg : Tgf} {tt : M Bool} {fe : M W} (I : Nat → List D → S → Prop) : ∀ (ds : List D) (k : Nat) (acc : List D) (s : S), I k acc s →
    (∀ i d acc s, ds[i]? = some d → I (k + i) acc s → ∃ acc1 s1, lcTurn vs tg tt fe d acc s = some (acc1, s1) ∧ I (k + i + 1) acc1 s1) → ∃ acc1 s1, lcLoop vs tg tt fe ds acc s = some (acc1, s1) ∧ I (k + ds.length) acc1 s1
  | [], k, acc, s, h0, _ => ⟨acc, s, rfl, h0⟩
  | d :: ds, k, acc, s, h0, step => by
    obtain ⟨acc1, s1, h1, h2⟩ := step 0 d acc s rfl h0
    obtain ⟨acc2, s2, h4, h5⟩ := lcLoop_inv I ds (k + 1) acc1 s1 h2 fun i d' acc s hd hi => by
      have z := step (i + 1) d' acc s (by simpa using hd)
      rw [show k + (i + 1) = k + 1 + i by omega] at z
      exact z hi
    refine ⟨acc2, s2, ?_, by rw [List.length_cons, show k + (ds.length + 1) = k + 1 + ds.length by omega]; exact h5⟩
    unfold lcLoop
    rw [h1]
    exact h4
theorem forM_run {tg : Tgf} {bd : M Fl} (I : Nat → S → Prop) (ds : List D) (s : S) (h0 : I 0 s) (step : ∀ i d s, ds[i]? = some d → I i s → ∃ s1 s2, tg d s = some s1 ∧ (bd s1 = .ok .next s2 ∨ bd s1 = .ok .cont s2) ∧ I (i + 1) s2) : ∃ s', forM tg bd ds s = .ok .next s' ∧ I ds.length s' := by
  have z := forM_inv I ds 0 s h0 (fun i d s hd hi => by rw [Nat.zero_add] at hi ⊢; exact step i d s hd hi)
  rw [Nat.zero_add] at z
  exact z
theorem lcLoop_run {vs : List Nat} {tg : Tgf} {tt : M Bool} {fe : M W} (I : Nat → List D → S → Prop) (ds : List D) (s : S) (h0 : I 0 [] s) (step : ∀ i d acc s, ds[i]? = some d → I i acc s → ∃ acc1 s1, lcTurn vs tg tt fe d acc s = some (acc1, s1) ∧ I (i + 1) acc1 s1) : ∃ acc1 s1, lcLoop vs tg tt fe ds [] s = some (acc1, s1) ∧ I ds.length acc1 s1 := by
  have z := lcLoop_inv (vs := vs) (tg := tg) (tt := tt) (fe := fe) I ds 0 [] s h0 (fun i d acc s hd hi => by rw [Nat.zero_add] at hi ⊢; exact step i d acc s hd hi)
  rw [Nat.zero_add] at z
  exact z
/-- a comprehension whose elements change nothing -/
theorem lcLoop_map {vs : List Nat} {tg : Tgf} {tt : M Bool} {fe : M W} {s : S} (g : D → List D) : ∀ (ds acc : List D), (∀ d ∈ ds, ∀ acc, lcTurn vs tg tt fe d acc s = some (acc ++ g d, s)) → lcLoop vs tg tt fe ds acc s = some (acc ++ ds.flatMap g, s)
  | [], acc, _ => by show some (acc, s) = some (acc ++ [], s); rw [List.append_nil]
  | d :: ds, acc, h => by
    unfold lcLoop
    rw [h d List.mem_cons_self acc]
    dsimp only
    rw [lcLoop_map g ds (acc ++ g d) fun d' hd => h d' (List.mem_cons_of_mem _ hd), List.flatMap_cons, List.append_assoc]
theorem r_seq {f g : M Fl} {s s1 : S} {r : Out Fl} (h1 : f s = .ok .next s1) (h2 : g s1 = r) : seqM f g s = r := by
  unfold seqM
  rw [h1]
  exact h2
theorem r_seq_ret {f g : M Fl} {s s1 : S} {w : W} (h1 : f s = .ok (.ret w) s1) : seqM f g s = .ok (.ret w) s1 := by
  unfold seqM
  rw [h1]
theorem r_seq_exc {f g : M Fl} {s s1 : S} {C : Str} {ns : List Str} {ds : List D} (h1 : f s = .exc C ns ds s1) : seqM f g s = .exc C ns ds s1 := by
  unfold seqM
  rw [h1]
theorem r_if {t : M Bool} {f g : M Fl} {s s1 : S} {b : Bool} {r : Out Fl} (h1 : t s = .ok b s1) (h2 : (if b = true then f else g) s1 = r) : ifM t f g s = r := by
  unfold ifM bnd
  rw [h1]
  exact h2
theorem r_bnd {α β : Type} {f : M α} {k : α → M β} {s s1 : S} {a : α} {r : Out β} (h1 : f s = .ok a s1) (h2 : k a s1 = r) : bnd f k s = r := by
  unfold bnd
  rw [h1]
  exact h2
theorem r_fn {n : Nat} {g : M Fl} {ds : List D} {h h2 : Hh} {e : Env} {w : W} (hb : g ⟨env0 n ds, h⟩ = .ok (.ret w) ⟨e, h2⟩) (hw : (∃ d, w = .val d) ∨ ∃ c, w = .new c) : fnM n g ds ⟨[], h⟩ = .ok w ⟨[], h2⟩ := by
  unfold fnM
  rw [show (⟨env0 n ds, (⟨[], h⟩ : S).h⟩ : S) = ⟨env0 n ds, h⟩ from rfl, hb]
  rcases hw with ⟨d, rfl⟩ | ⟨c, rfl⟩ <;> rfl
theorem r_fnS {n : Nat} {g : M Fl} {ds : List D} {h h2 : Hh} {e : Env} {i : Nat} {d : D} (hb : g ⟨env0 n ds, h⟩ = .ok (.ret (.slot i)) ⟨e, h2⟩) (hw : e[i]? = some (.fz d)) : fnM n g ds ⟨[], h⟩ = .ok (.val d) ⟨[], h2⟩ := by
  unfold fnM
  rw [show (⟨env0 n ds, (⟨[], h⟩ : S).h⟩ : S) = ⟨env0 n ds, h⟩ from rfl, hb]
  unfold outF
  dsimp only
  rw [hw]
theorem r_fnO {n : Nat} {g : M Fl} {ds : List D} {h h2 : Hh} {e : Env} {i : Nat} {c : Cell} (hb : g ⟨env0 n ds, h⟩ = .ok (.ret (.slot i)) ⟨e, h2⟩) (hw : e[i]? = some (.ow c)) : fnM n g ds ⟨[], h⟩ = .ok (.new c) ⟨[], h2⟩ := by
  unfold fnM
  rw [show (⟨env0 n ds, (⟨[], h⟩ : S).h⟩ : S) = ⟨env0 n ds, h⟩ from rfl, hb]
  unfold outF
  dsimp only
  rw [hw]
theorem r_fnN {n : Nat} {g : M Fl} {ds : List D} {h h2 : Hh} {e : Env} (hb : g ⟨env0 n ds, h⟩ = .ok .next ⟨e, h2⟩) : fnM n g ds ⟨[], h⟩ = .ok (.val .non) ⟨[], h2⟩ := by
  unfold fnM
  rw [show (⟨env0 n ds, (⟨[], h⟩ : S).h⟩ : S) = ⟨env0 n ds, h⟩ from rfl, hb]
  rfl
theorem r_fnX {n : Nat} {g : M Fl} {ds : List D} {h h2 : Hh} {e : Env} {C : Str} {ns : List Str} {vs : List D} (hb : g ⟨env0 n ds, h⟩ = .exc C ns vs ⟨e, h2⟩) : fnM n g ds ⟨[], h⟩ = .exc C ns vs ⟨[], h2⟩ := by
  unfold fnM
  rw [show (⟨env0 n ds, (⟨[], h⟩ : S).h⟩ : S) = ⟨env0 n ds, h⟩ from rfl, hb]
  rfl
theorem r_callB1 {g : List D → Option W} {f : M W} {s : S} {w w2 : W} {d : D} (h1 : f s = .ok w s) (hn : ∀ c, w ≠ .new c) (h2 : view w s = .ok d s) (h3 : g [d] = some w2) : callM g (consA f nilA) s = .ok w2 s := by
  unfold callM
  refine r_bnd (a := [w]) (s1 := s) ?_ (r_bnd (a := [d]) (s1 := s) ?_ ?_)
  · unfold consA
    refine r_bnd h1 (r_bnd (a := w) (s1 := s) ?_ rfl)
    cases w with
    | new c => exact absurd rfl (hn c)
    | _ => rfl
  · unfold views
    exact r_bnd h2 rfl
  · rw [h3]; rfl
theorem r_callB2 {g : List D → Option W} {f f2 : M W} {s : S} {w u w2 : W} {d d2 : D} (h1 : f s = .ok w s) (hn : ∀ c, w ≠ .new c) (h2 : view w s = .ok d s) (k1 : f2 s = .ok u s) (kn : ∀ c, u ≠ .new c) (k2 : view u s = .ok d2 s) (h3 : g [d, d2] = some w2) : callM g (consA f (consA f2 nilA)) s = .ok w2 s := by
  unfold callM
  refine r_bnd (a := [w, u]) (s1 := s) ?_ (r_bnd (a := [d, d2]) (s1 := s) ?_ ?_)
  · unfold consA
    refine r_bnd h1 (r_bnd (a := w) (s1 := s) ?_ (r_bnd (a := [u]) (s1 := s) (r_bnd k1 (r_bnd (a := u) (s1 := s) ?_ rfl)) rfl))
    · cases w with
      | new c => exact absurd rfl (hn c)
      | _ => rfl
    · cases u with
      | new c => exact absurd rfl (kn c)
      | _ => rfl
  · unfold views
    refine r_bnd h2 (r_bnd (a := [d2]) (s1 := s) ?_ rfl)
    unfold views
    exact r_bnd k2 rfl
  · rw [h3]; rfl
theorem r_callF {n : Nat} {F : List D → M W} {fs : M (List W)} {s s1 : S} {e : Env} {h h2 : Hh} {ws : List W} {ds : List D} {w : W} (h1 : fs s = .ok ws s1) (h2' : toDs ws s1 = .ok ds ⟨e, h⟩) (hn : ds.length = n) (h3 : F ds ⟨[], h⟩ = .ok w ⟨[], h2⟩) : callF n F fs s = .ok w ⟨e, h2⟩ := by
  unfold callF
  refine r_bnd h1 (r_bnd h2' ?_)
  show (if ds.length = n then match F ds ⟨[], h⟩ with | .ok w s1 => _ | .exc C ns vs s1 => _ | .stuck => _ else _) = _
  rw [if_pos hn, h3]
theorem r_callX {n : Nat} {F : List D → M W} {fs : M (List W)} {s s1 : S} {e : Env} {h h2 : Hh} {ws : List W} {ds : List D} {C : Str} {ns : List Str} {vs : List D} (h1 : fs s = .ok ws s1) (h2' : toDs ws s1 = .ok ds ⟨e, h⟩) (hn : ds.length = n) (h3 : F ds ⟨[], h⟩ = .exc C ns vs ⟨[], h2⟩) : callF n F fs s = .exc C ns vs ⟨e, h2⟩ := by
  unfold callF
  refine r_bnd h1 (r_bnd h2' ?_)
  show (if ds.length = n then match F ds ⟨[], h⟩ with | .ok w s1 => _ | .exc C ns vs s1 => _ | .stuck => _ else _) = _
  rw [if_pos hn, h3]
end Z

namespace Z
open PySem L2

/-! ## Backward rules -/
/-- what stands at a place of the names -/
def At (e : Env) (i : Nat) (x : Slot) : Prop := e[i]? = some x
def Lt (i : Nat) (e : Env) : Prop := i < e.length
abbrev XQ := Str → List Str → List D → S → Prop
abbrev noX : XQ := fun _ _ _ _ => False
@[irreducible] def wpM {α : Type} (f : M α) (s : S) (Q : α → S → Prop) (E : XQ) : Prop := match f s with
  | .ok a s1 => Q a s1
  | .exc C ns vs s1 => E C ns vs s1
  | .stuck => False
section
variable {α β : Type} {s s1 : S} {e : Env} {h : Hh} {Q : α → S → Prop} {E : XQ}
theorem w_eq {f : M α} {a : α} (hf : f s = .ok a s1) (q : Q a s1) : wpM f s Q E := by unfold wpM; rw [hf]; exact q
theorem w_exc {f : M α} {C : Str} {ns : List Str} {vs : List D} (hf : f s = .exc C ns vs s1) (q : E C ns vs s1) : wpM f s Q E := by unfold wpM; rw [hf]; exact q
theorem w_cs {f : M α} (w : wpM f s Q E) : (∃ a s1, f s = .ok a s1 ∧ Q a s1) ∨ ∃ C ns vs s1, f s = .exc C ns vs s1 ∧ E C ns vs s1 := by
  unfold wpM at w
  cases q : f s with
  | ok a s1 => rw [q] at w; exact .inl ⟨a, s1, rfl, w⟩
  | exc C ns vs s1 => rw [q] at w; exact .inr ⟨C, ns, vs, s1, rfl, w⟩
  | stuck => rw [q] at w; exact w.elim
theorem w_get {f : M α} (w : wpM f s Q noX) : ∃ a s1, f s = .ok a s1 ∧ Q a s1 := by
  unfold wpM at w
  cases q : f s with
  | ok a s1 => rw [q] at w; exact ⟨a, s1, rfl, w⟩
  | exc C ns vs s1 => rw [q] at w; exact w.elim
  | stuck => rw [q] at w; exact w.elim
theorem w_imp {f : M α} {Q' : α → S → Prop} {E' : XQ} (w : wpM f s Q' E') (k : ∀ a s1, Q' a s1 → Q a s1) (kx : ∀ C ns vs s1, E' C ns vs s1 → E C ns vs s1) : wpM f s Q E := by
  unfold wpM at w ⊢
  cases q : f s with
  | ok a s1 => rw [q] at w; exact k _ _ w
  | exc C ns vs s1 => rw [q] at w; exact kx _ _ _ _ w
  | stuck => rw [q] at w; exact w.elim
theorem w_imp0 {f : M α} {Q' : α → S → Prop} (w : wpM f s Q' noX) (k : ∀ a s1, Q' a s1 → Q a s1) : wpM f s Q E := w_imp w k fun _ _ _ _ z => z.elim
theorem w_bnd {f : M β} {k : β → M α} (w : wpM f s (fun a s1 => wpM (k a) s1 Q E) E) : wpM (bnd f k) s Q E := by
  unfold wpM bnd at *
  cases q : f s with
  | ok a s1 => rw [q] at w; exact w
  | exc C ns vs s1 => rw [q] at w; exact w
  | stuck => rw [q] at w; exact w
theorem w_ret {a : α} (q : Q a s) : wpM (ret a) s Q E := w_eq rfl q
theorem w_opt {o : Option α} {a : α} (ho : o = some a) (q : Q a s) : wpM (opt o) s Q E := by subst ho; exact w_eq rfl q
theorem w_dead {b : Bool} {f g : M α} (hb : b = false) (w : wpM g s Q E) : wpM (if b = true then f else g) s Q E := by subst hb; exact w
theorem w_live {b : Bool} {f g : M α} (hb : b = true) (w : wpM f s Q E) : wpM (if b = true then f else g) s Q E := by subst hb; exact w
theorem w_iteT {f g : M α} (w : wpM f s Q E) : wpM (if true = true then f else g) s Q E := w
theorem w_iteF {f g : M α} (w : wpM g s Q E) : wpM (if false = true then f else g) s Q E := w
theorem w_iteB {b : Bool} {f g : M α} (w : b = true → wpM f s Q E) (v : b = false → wpM g s Q E) : wpM (if b = true then f else g) s Q E := by
  cases b
  · exact v rfl
  · exact w rfl
theorem w_iteD {p : Prop} {_ : Decidable p} {f g : M α} (w : p → wpM f s Q E) (v : ¬ p → wpM g s Q E) : wpM (if decide p = true then f else g) s Q E := by
  by_cases hp : p
  · rw [if_pos (decide_eq_true hp)]; exact w hp
  · rw [if_neg (by rw [decide_eq_false hp]; decide)]; exact v hp
theorem w_iteDT {p : Prop} {_ : Decidable p} {f g : M α} (hp : p) (w : wpM f s Q E) : wpM (if decide p = true then f else g) s Q E := w_iteD (fun _ => w) (fun n => absurd hp n)
theorem w_iteDF {p : Prop} {_ : Decidable p} {f g : M α} (hp : ¬ p) (w : wpM g s Q E) : wpM (if decide p = true then f else g) s Q E := w_iteD (fun n => absurd n hp) (fun _ => w)
theorem w_iteN {b : Bool} {f g : M α} (w : wpM (if b = true then g else f) s Q E) : wpM (if (!b) = true then f else g) s Q E := by cases b <;> exact w
theorem w_iteP {p : Prop} [Decidable p] {f g : M α} (hp : p) (w : wpM f s Q E) : wpM (if p then f else g) s Q E := by rw [if_pos hp]; exact w
theorem w_guardT {Q : Unit → S → Prop} (q : Q () s) : wpM (guard true) s Q E := w_eq rfl q
theorem w_guardD {b : Bool} {Q : Unit → S → Prop} (hp : b = true) (q : Q () s) : wpM (guard b) s Q E := by subst hp; exact w_eq rfl q
end
section
variable {s : S} {e : Env} {h : Hh} {Q : W → S → Prop} {E : XQ} {d : D} {c : Cell} {i n : Nat}
theorem w_kI {j : Int} (q : Q (.val (.int j)) s) : wpM (kI j) s Q E := w_eq rfl q
theorem w_kB {b : Bool} (q : Q (.val (.bl b)) s) : wpM (kB b) s Q E := w_eq rfl q
theorem w_kN (q : Q (.val .non) s) : wpM kN s Q E := w_eq rfl q
theorem w_kS {x : Str} (q : Q (.val (.str x)) s) : wpM (kS x) s Q E := w_eq rfl q
theorem w_kD (q : Q (.val d) s) : wpM (kD d) s Q E := w_eq rfl q
theorem w_nameF (he : At e i (.fz d)) (q : Q (.slot i) ⟨e, h⟩) : wpM (nameM i) ⟨e, h⟩ Q E := w_eq (by unfold nameM; rw [show e[_]? = _ from he]) q
theorem w_nameO (he : At e i (.ow c)) (q : Q (.slot i) ⟨e, h⟩) : wpM (nameM i) ⟨e, h⟩ Q E := w_eq (by unfold nameM; rw [show e[_]? = _ from he]) q
theorem w_fixV (q : Q (.val d) s) : wpM (fix (.val d)) s Q E := w_eq rfl q
theorem w_fixS (q : Q (.slot i) s) : wpM (fix (.slot i)) s Q E := w_eq rfl q
theorem w_fixN {xs : List D} (q : Q (.val (.lst xs)) s) : wpM (fix (.new (.lst xs))) s Q E := w_eq rfl q
end
section
variable {s : S} {e : Env} {h : Hh} {Q : D → S → Prop} {E : XQ} {d : D} {c : Cell} {i n : Nat}
theorem w_toDV (q : Q d s) : wpM (toD (.val d)) s Q E := w_eq rfl q
theorem w_toDN (q : Q c.toD s) : wpM (toD (.new c)) s Q E := w_eq rfl q
theorem w_toDF (he : At e i (.fz d)) (q : Q d ⟨e, h⟩) : wpM (toD (.slot i)) ⟨e, h⟩ Q E := w_eq (by unfold toD; simp only [show e[_]? = _ from he]) q
theorem w_toDO (he : At e i (.ow c)) (q : Q c.toD ⟨e.set i (.fz c.toD), h⟩) : wpM (toD (.slot i)) ⟨e, h⟩ Q E := w_eq (by unfold toD; simp only [show e[_]? = _ from he]) q
/-- data that is no cell's name -/
def noRef : D → Prop
  | .ref _ => False
  | _ => True
theorem viewD_no (nr : noRef d) : viewD d s = .ok d s := by
  cases d <;> first | rfl | exact nr.elim
theorem w_vdN (nr : noRef d) (q : Q d s) : wpM (viewD d) s Q E := w_eq (viewD_no nr) q
theorem w_vdN_  (q : Q (.non) s) : wpM (viewD (.non)) s Q E := w_eq rfl q
theorem w_vdB_ {b : Bool} (q : Q (.bl b) s) : wpM (viewD (.bl b)) s Q E := w_eq rfl q
theorem w_vdI_ {j : Int} (q : Q (.int j) s) : wpM (viewD (.int j)) s Q E := w_eq rfl q
theorem w_vdS_ {x : Str} (q : Q (.str x) s) : wpM (viewD (.str x)) s Q E := w_eq rfl q
theorem w_vdY_ {x : String} (q : Q (.ty x) s) : wpM (viewD (.ty x)) s Q E := w_eq rfl q
theorem w_vdT_ {xs : List D} (q : Q (.tup xs) s) : wpM (viewD (.tup xs)) s Q E := w_eq rfl q
theorem w_vdK_ {xs : List D} (q : Q (.ktp xs) s) : wpM (viewD (.ktp xs)) s Q E := w_eq rfl q
theorem w_vdL_ {xs : List D} (q : Q (.lst xs) s) : wpM (viewD (.lst xs)) s Q E := w_eq rfl q
theorem w_vdR_ {xs : List D} (q : Q (.scr xs) s) : wpM (viewD (.scr xs)) s Q E := w_eq rfl q
theorem w_vdD_ {ks : List Key} {vs : List D} (q : Q (.dK ks vs) s) : wpM (viewD (.dK ks vs)) s Q E := w_eq rfl q
theorem w_vdE_ {ks : List (List Key)} {vs : List D} (q : Q (.dT ks vs) s) : wpM (viewD (.dT ks vs)) s Q E := w_eq rfl q
theorem w_vdO_ {C : Str} {ns : List Str} {vs : List D} (q : Q (.obj C ns vs) s) : wpM (viewD (.obj C ns vs)) s Q E := w_eq rfl q
theorem w_vdC_ {C : Str} (q : Q (.cls C) s) : wpM (viewD (.cls C)) s Q E := w_eq rfl q
theorem w_vdR (hn : h[n]? = some c) (q : Q c.toD ⟨e, h⟩) : wpM (viewD (.ref n)) ⟨e, h⟩ Q E := w_eq (by unfold viewD; simp only [hn]) q
theorem w_viewV (w : wpM (viewD d) s Q E) : wpM (view (.val d)) s Q E := w
theorem w_viewN (q : Q c.toD s) : wpM (view (.new c)) s Q E := w_eq rfl q
theorem w_viewF (he : At e i (.fz d)) (w : wpM (viewD d) ⟨e, h⟩ Q E) : wpM (view (.slot i)) ⟨e, h⟩ Q E := by unfold wpM view at *; simp only [show e[_]? = _ from he]; exact w
theorem w_viewO (he : At e i (.ow c)) (q : Q c.toD ⟨e, h⟩) : wpM (view (.slot i)) ⟨e, h⟩ Q E := by unfold wpM view at *; simp only [show e[_]? = _ from he]; exact q
end
section
variable {s : S} {e : Env} {h : Hh} {Q : List D → S → Prop} {E : XQ} {w : W} {ws : List W}
theorem w_toDs0 (q : Q [] s) : wpM (toDs []) s Q E := w_eq rfl q
theorem w_toDs1 (q : wpM (toD w) s (fun d s1 => wpM (toDs ws) s1 (fun ds s2 => Q (d :: ds) s2) E) E) : wpM (toDs (w :: ws)) s Q E := by
  unfold toDs
  exact w_bnd (w_imp q (fun _ _ z => w_bnd (w_imp z (fun _ _ y => w_eq rfl y) fun _ _ _ _ y => y)) fun _ _ _ _ y => y)
theorem w_views0 (q : Q [] s) : wpM (views []) s Q E := w_eq rfl q
theorem w_views1 (q : wpM (view w) s (fun d s1 => wpM (views ws) s1 (fun ds s2 => Q (d :: ds) s2) E) E) : wpM (views (w :: ws)) s Q E := by
  unfold views
  exact w_bnd (w_imp q (fun _ _ z => w_bnd (w_imp z (fun _ _ y => w_eq rfl y) fun _ _ _ _ y => y)) fun _ _ _ _ y => y)
end
section
variable {s : S} {Q : List W → S → Prop} {E : XQ} {f : M W} {g : M (List W)}
theorem w_nilA (q : Q [] s) : wpM nilA s Q E := w_eq rfl q
theorem w_consA (q : wpM f s (fun x s1 => wpM (fix x) s1 (fun x s2 => wpM g s2 (fun r s3 => Q (x :: r) s3) E) E) E) : wpM (consA f g) s Q E := by
  unfold consA
  exact w_bnd (w_imp q (fun _ _ z => w_bnd (w_imp z (fun _ _ y => w_bnd (w_imp y (fun _ _ y => w_eq rfl y) fun _ _ _ _ y => y)) fun _ _ _ _ y => y)) fun _ _ _ _ y => y)
end
/-! ### compound expressions -/
section
variable {s : S} {e : Env} {h : Hh} {Q : W → S → Prop} {E : XQ}
theorem w_op {g : D → D → Option W} {fa fb : M W} (q : wpM fa s (fun x s1 => wpM fb s1 (fun y s2 => wpM (view x) s2 (fun dx s3 => wpM (view y) s3 (fun dy s4 => wpM (opt (g dx dy)) s4 Q E) E) E) E) E) : wpM (opM g fa fb) s Q E :=
  w_bnd (w_imp q (fun _ _ z => w_bnd (w_imp z (fun _ _ z => w_bnd (w_imp z (fun _ _ z => w_bnd z) fun _ _ _ _ y => y)) fun _ _ _ _ y => y)) fun _ _ _ _ y => y)
theorem w_cmp {Q : Bool → S → Prop} {g : D → D → Option Bool} {fa fb : M W} (q : wpM fa s (fun x s1 => wpM fb s1 (fun y s2 => wpM (view x) s2 (fun dx s3 => wpM (view y) s3 (fun dy s4 => wpM (opt (g dx dy)) s4 Q E) E) E) E) E) : wpM (cmpM g fa fb) s Q E :=
  w_bnd (w_imp q (fun _ _ z => w_bnd (w_imp z (fun _ _ z => w_bnd (w_imp z (fun _ _ z => w_bnd z) fun _ _ _ _ y => y)) fun _ _ _ _ y => y)) fun _ _ _ _ y => y)
theorem w_bW {o : Option Bool} {b : Bool} (hb : o = some b) (q : Q (.val (.bl b)) s) : wpM (opt (bW o)) s Q E := by subst hb; exact w_eq rfl q
theorem w_cmpV {g : D → D → Option Bool} {fa fb : M W} (q : wpM (cmpM g fa fb) s (fun b s1 => Q (.val (.bl b)) s1) E) : wpM (cmpV g fa fb) s Q E := by
  unfold cmpV opM
  unfold cmpM at q
  unfold wpM bnd opt bW at *
  cases q1 : fa s <;> simp only [q1] at q ⊢ <;> try exact q
  rename_i x s1
  cases q2 : fb s1 <;> simp only [q2] at q ⊢ <;> try exact q
  rename_i y s2
  cases q3 : view x s2 <;> simp only [q3] at q ⊢ <;> try exact q
  rename_i dx s3
  cases q4 : view y s3 <;> simp only [q4] at q ⊢ <;> try exact q
  rename_i dy s4
  cases q5 : g dx dy <;> simp only [q5] at q ⊢ <;> exact q
theorem w_blM {f : M Bool} (q : wpM f s (fun b s1 => Q (.val (.bl b)) s1) E) : wpM (blM f) s Q E := w_bnd (w_imp q (fun _ _ z => w_eq rfl z) fun _ _ _ _ y => y)
theorem w_un {g : D → Option W} {fa : M W} (q : wpM fa s (fun x s1 => wpM (view x) s1 (fun d s2 => wpM (opt (g d)) s2 Q E) E) E) : wpM (unM g fa) s Q E := w_bnd (w_imp q (fun _ _ z => w_bnd z) fun _ _ _ _ y => y)
theorem w_tru {Q : Bool → S → Prop} {fa : M W} (q : wpM fa s (fun x s1 => wpM (view x) s1 (fun d s2 => wpM (opt (truD d)) s2 Q E) E) E) : wpM (truM fa) s Q E := w_bnd (w_imp q (fun _ _ z => w_bnd z) fun _ _ _ _ y => y)
theorem w_not {fa : M W} (q : wpM (truM fa) s (fun b s1 => Q (.val (.bl (!b))) s1) E) : wpM (notV fa) s Q E := by
  unfold notV
  unfold truM at q
  unfold wpM bnd opt at *
  cases q1 : fa s <;> simp only [q1] at q ⊢ <;> try exact q
  rename_i x s1
  cases q2 : view x s1 <;> simp only [q2] at q ⊢ <;> try exact q
  rename_i d s2
  cases q3 : truD d <;> simp only [q3] at q ⊢ <;> exact q
theorem w_ite {ft : M Bool} {fa fb : M W} (q : wpM ft s (fun b s1 => wpM (if b = true then fa else fb) s1 Q E) E) : wpM (iteM ft fa fb) s Q E := w_bnd q
theorem w_and {Q : Bool → S → Prop} {f g : M Bool} (q : wpM f s (fun b s1 => wpM (if b = true then g else ret false) s1 Q E) E) : wpM (andM f g) s Q E := w_bnd q
theorem w_or {Q : Bool → S → Prop} {f g : M Bool} (q : wpM f s (fun b s1 => wpM (if b = true then ret true else g) s1 Q E) E) : wpM (orM f g) s Q E := w_bnd q
theorem w_andV {fa fb : M W} (q : wpM fa s (fun x s1 => wpM (view x) s1 (fun d s2 => wpM (opt (truD d)) s2 (fun b s3 => wpM (if b = true then fb else ret x) s3 Q E) E) E) E) : wpM (andV fa fb) s Q E :=
  w_bnd (w_imp q (fun _ _ z => w_bnd (w_imp z (fun _ _ z => w_bnd z) fun _ _ _ _ y => y)) fun _ _ _ _ y => y)
theorem w_orV {fa fb : M W} (q : wpM fa s (fun x s1 => wpM (view x) s1 (fun d s2 => wpM (opt (truD d)) s2 (fun b s3 => wpM (if b = true then ret x else fb) s3 Q E) E) E) E) : wpM (orV fa fb) s Q E :=
  w_bnd (w_imp q (fun _ _ z => w_bnd (w_imp z (fun _ _ z => w_bnd z) fun _ _ _ _ y => y)) fun _ _ _ _ y => y)
theorem w_chain {Q : Bool → S → Prop} {g g2 : D → D → Option Bool} {fa fb fc : M W} (q : wpM fa s (fun x s1 => wpM fb s1 (fun y s2 => wpM (view x) s2 (fun dx s3 => wpM (view y) s3 (fun dy s4 => wpM (opt (g dx dy)) s4 (fun k s5 => wpM (if k = true then bnd fc fun z => bnd (view y) fun dy => bnd (view z) fun dz => opt (g2 dy dz) else ret false) s5 Q E) E) E) E) E) E) : wpM (chainM g g2 fa fb fc) s Q E :=
  w_bnd (w_imp q (fun _ _ z => w_bnd (w_imp z (fun _ _ z => w_bnd (w_imp z (fun _ _ z => w_bnd (w_imp z (fun _ _ z => w_bnd z) fun _ _ _ _ y => y)) fun _ _ _ _ y => y)) fun _ _ _ _ y => y)) fun _ _ _ _ y => y)
theorem w_tup {f : M (List W)} (q : wpM f s (fun ws s1 => wpM (toDs ws) s1 (fun ds s2 => ds.length ≤ sizeLine ∧ Q (.val (.tup ds)) s2) E) E) : wpM (tupM f) s Q E :=
  w_bnd (w_imp q (fun _ _ z => w_bnd (w_imp z (fun _ _ z => by rw [if_pos z.1]; exact w_eq rfl z.2) fun _ _ _ _ y => y)) fun _ _ _ _ y => y)
theorem w_lst {f : M (List W)} (q : wpM f s (fun ws s1 => wpM (toDs ws) s1 (fun ds s2 => ds.length ≤ sizeLine ∧ Q (.new (.lst ds)) s2) E) E) : wpM (lstM f) s Q E :=
  w_bnd (w_imp q (fun _ _ z => w_bnd (w_imp z (fun _ _ z => by rw [if_pos z.1]; exact w_eq rfl z.2) fun _ _ _ _ y => y)) fun _ _ _ _ y => y)
theorem w_callM {g : List D → Option W} {fs : M (List W)} (q : wpM fs s (fun ws s1 => wpM (views ws) s1 (fun ds s2 => wpM (opt (g ds)) s2 Q E) E) E) : wpM (callM g fs) s Q E := w_bnd (w_imp q (fun _ _ z => w_bnd z) fun _ _ _ _ y => y)
theorem w_intM {Q : Int → S → Prop} {fa : M W} (q : wpM fa s (fun x s1 => wpM (view x) s1 (fun d s2 => wpM (opt (intOf d)) s2 Q E) E) E) : wpM (intM fa) s Q E := w_bnd (w_imp q (fun _ _ z => w_bnd z) fun _ _ _ _ y => y)
theorem w_sl {fa : M W} {fl fh : M (Option Int)} (q : wpM fa s (fun x s1 => wpM fl s1 (fun lo s2 => wpM fh s2 (fun hi s3 => wpM (view x) s3 (fun d s4 => wpM (opt (slG d lo hi)) s4 Q E) E) E) E) E) : wpM (slM fa fl fh) s Q E :=
  w_bnd (w_imp q (fun _ _ z => w_bnd (w_imp z (fun _ _ z => w_bnd (w_imp z (fun _ _ z => w_bnd z) fun _ _ _ _ y => y)) fun _ _ _ _ y => y)) fun _ _ _ _ y => y)
theorem w_mt {t : String} {g : D → List D → Option W} {fa : M W} {fs : M (List W)} (q : wpM fa s (fun x s1 => wpM (fix x) s1 (fun x s2 => wpM (view x) s2 (fun d s3 => wpM (guard (decide (mtyD d = some t))) s3 (fun _ s4 => wpM fs s4 (fun ws s5 => wpM (view x) s5 (fun d s6 => wpM (views ws) s6 (fun ds s7 => wpM (opt (g d ds)) s7 Q E) E) E) E) E) E) E) E) : wpM (mtM t g fa fs) s Q E :=
  w_bnd (w_imp q (fun _ _ z => w_bnd (w_imp z (fun _ _ z => w_bnd (w_imp z (fun _ _ z => w_bnd (w_imp z (fun _ _ z => w_bnd (w_imp z (fun _ _ z => w_bnd (w_imp z (fun _ _ z => w_bnd z) fun _ _ _ _ y => y)) fun _ _ _ _ y => y)) fun _ _ _ _ y => y)) fun _ _ _ _ y => y)) fun _ _ _ _ y => y)) fun _ _ _ _ y => y)
theorem w_mu {t : String} {g : Cell → List D → Option (Cell × D)} {fa : M W} {fs : M (List W)} (q : wpM fa s (fun x s1 => wpM (fix x) s1 (fun x s2 => wpM (view x) s2 (fun d s3 => wpM (guard (decide (mtyD d = some t))) s3 (fun _ s4 => wpM fs s4 (fun ws s5 => wpM (toDs ws) s5 (fun ds s6 => wpM (updW x fun cl => g cl ds) s6 (fun y s7 => Q (.val y) s7) E) E) E) E) E) E) E) : wpM (muM t g fa fs) s Q E :=
  w_bnd (w_imp q (fun _ _ z => w_bnd (w_imp z (fun _ _ z => w_bnd (w_imp z (fun _ _ z => w_bnd (w_imp z (fun _ _ z => w_bnd (w_imp z (fun _ _ z => w_bnd (w_imp z (fun _ _ z => w_bnd (w_imp z (fun _ _ z => w_eq rfl z) fun _ _ _ _ y => y)) fun _ _ _ _ y => y)) fun _ _ _ _ y => y)) fun _ _ _ _ y => y)) fun _ _ _ _ y => y)) fun _ _ _ _ y => y)) fun _ _ _ _ y => y)
theorem w_updO {α : Type} {Q : α → S → Prop} {k : Cell → Option (Cell × α)} {i : Nat} {cl cl' : Cell} {a : α} (he : At e i (.ow cl)) (hk : k cl = some (cl', a)) (q : Q a ⟨e.set i (.ow cl'), h⟩) : wpM (updW (.slot i) k) ⟨e, h⟩ Q E :=
  w_eq (by unfold updW; simp only [show e[_]? = _ from he, hk]) q
theorem w_updR {α : Type} {Q : α → S → Prop} {k : Cell → Option (Cell × α)} {i n : Nat} {cl cl' : Cell} {a : α} (he : At e i (.fz (.ref n))) (hc : h[n]? = some cl) (hk : k cl = some (cl', a)) (q : Q a ⟨e, h.set n cl'⟩) : wpM (updW (.slot i) k) ⟨e, h⟩ Q E :=
  w_eq (by unfold updW; simp only [show e[_]? = _ from he, hc, hk]) q
theorem w_updV {α : Type} {Q : α → S → Prop} {k : Cell → Option (Cell × α)} {n : Nat} {cl cl' : Cell} {a : α} (hc : h[n]? = some cl) (hk : k cl = some (cl', a)) (q : Q a ⟨e, h.set n cl'⟩) : wpM (updW (.val (.ref n)) k) ⟨e, h⟩ Q E :=
  w_eq (by unfold updW; simp only [hc, hk]) q
theorem w_sub {Q : Fl → S → Prop} {g : D → D → Cell → Option Cell} {fo fi fe : M W} (q : wpM fe s (fun w s1 => wpM (toD w) s1 (fun d s2 => wpM fo s2 (fun x s3 => wpM fi s3 (fun y s4 => wpM (view y) s4 (fun k s5 => wpM (updW x fun cl => (g k d cl).map fun cl' => (cl', ())) s5 (fun _ s6 => Q .next s6) E) E) E) E) E) E) : wpM (subM g fo fi fe) s Q E :=
  w_bnd (w_imp q (fun _ _ z => w_bnd (w_imp z (fun _ _ z => w_bnd (w_imp z (fun _ _ z => w_bnd (w_imp z (fun _ _ z => w_bnd (w_imp z (fun _ _ z => w_bnd (w_imp z (fun _ _ z => w_eq rfl z) fun _ _ _ _ y => y)) fun _ _ _ _ y => y)) fun _ _ _ _ y => y)) fun _ _ _ _ y => y)) fun _ _ _ _ y => y)) fun _ _ _ _ y => y)
theorem w_callF {n : Nat} {F : List D → M W} {fs : M (List W)} (q : wpM fs s (fun ws s1 => wpM (toDs ws) s1 (fun ds s2 => ds.length = n ∧ wpM (F ds) ⟨[], s2.h⟩ (fun w s3 => Q w ⟨s2.e, s3.h⟩) (fun C ns vs s3 => E C ns vs ⟨s2.e, s3.h⟩)) E) E) : wpM (callF n F fs) s Q E := by
  unfold callF
  refine w_bnd (w_imp q (fun _ _ z => w_bnd (w_imp z (fun ds s2 z => ?_) fun _ _ _ _ y => y)) fun _ _ _ _ y => y)
  obtain ⟨h1, h2⟩ := z
  unfold wpM at h2 ⊢
  dsimp only
  rw [if_pos h1]
  cases q1 : F ds ⟨[], s2.h⟩ <;> rw [q1] at h2 <;> exact h2
theorem w_callKF {n m : Nat} {ix : List Nat} {F : List D → M W} {fs : M (List W)} (q : wpM fs s (fun ws s1 => wpM (toDs ws) s1 (fun ds s2 => (ds.length = m ∧ (pm ix ds).length = n) ∧ wpM (F (pm ix ds)) ⟨[], s2.h⟩ (fun w s3 => Q w ⟨s2.e, s3.h⟩) (fun C ns vs s3 => E C ns vs ⟨s2.e, s3.h⟩)) E) E) : wpM (callKF n m ix F fs) s Q E := by
  unfold callKF
  refine w_bnd (w_imp q (fun _ _ z => w_bnd (w_imp z (fun ds s2 z => ?_) fun _ _ _ _ y => y)) fun _ _ _ _ y => y)
  obtain ⟨h1, h2⟩ := z
  unfold wpM at h2 ⊢
  dsimp only
  rw [if_pos h1]
  cases q1 : F (pm ix ds) ⟨[], s2.h⟩ <;> rw [q1] at h2 <;> exact h2
theorem w_makeM {x : Str} {n : Nat} {F : List D → M W} {fs : M (List W)} (q : wpM fs s (fun ws s1 => wpM (toDs ws) s1 (fun ds s2 => ds.length + 1 = n ∧ wpM (F (.ref s2.h.length :: ds)) ⟨[], s2.h ++ [.ins x [] []]⟩ (fun w s3 => w = .val .non ∧ Q (.val (.ref s2.h.length)) ⟨s2.e, s3.h⟩) (fun C ns vs s3 => E C ns vs ⟨s2.e, s3.h⟩)) E) E) : wpM (makeM x n F fs) s Q E := by
  unfold makeM
  refine w_bnd (w_imp q (fun _ _ z => w_bnd (w_imp z (fun ds s2 z => ?_) fun _ _ _ _ y => y)) fun _ _ _ _ y => y)
  obtain ⟨h1, h2⟩ := z
  unfold wpM at h2 ⊢
  dsimp only
  rw [if_pos h1]
  cases q1 : F (.ref s2.h.length :: ds) ⟨[], s2.h ++ [.ins x [] []]⟩ with
  | ok w s3 =>
    rw [q1] at h2
    obtain ⟨rfl, h3⟩ := h2
    exact h3
  | exc C ns vs s3 => rw [q1] at h2; exact h2
  | stuck => rw [q1] at h2; exact h2
theorem w_cellM {f : M W} (q : wpM f s (fun w s1 => match w with
  | .new cl => Q (.val (.ref s1.h.length)) ⟨s1.e, s1.h ++ [cl]⟩
  | .slot i => match s1.e[i]? with
    | some (.ow cl) => Q (.val (.ref s1.h.length)) ⟨s1.e.set i (.fz (.ref s1.h.length)), s1.h ++ [cl]⟩
    | some (.fz (.ref n)) => Q (.val (.ref n)) s1
    | _ => False
  | .val (.ref n) => Q (.val (.ref n)) s1
  | _ => False) E) : wpM (cellM f) s Q E := by
  unfold cellM
  refine w_bnd (w_imp q (fun w s1 z => ?_) fun _ _ _ _ y => y)
  unfold wpM
  split at z
  · exact z
  · split at z
    · rename_i q; simp only [q]; exact z
    · rename_i q; simp only [q]; exact z
    · exact z.elim
  · exact z
  · exact z.elim
theorem w_lenSet {fa : M W} (q : wpM fa s (fun x s1 => wpM (view x) s1 (fun d s2 => ∃ xs : List Str, (∃ ds, seqOf d = some ds ∧ ds = xs.map D.str) ∧ xs.length ≤ 4000 ∧ Q (.val (.int ((uniq [] xs).length : Nat))) s2) E) E) : wpM (lenSetM fa) s Q E := by
  unfold lenSetM
  refine w_bnd (w_imp q (fun w s1 z => w_bnd (w_imp z (fun d s2 z => ?_) fun _ _ _ _ y => y)) fun _ _ _ _ y => y)
  obtain ⟨xs, ⟨ds, h1, h2⟩, h3, h4⟩ := z
  have a : allOf strOf (xs.map D.str) = some xs := by
    clear h1 h2 h3 h4
    induction xs with
    | nil => rfl
    | cons x t ih => simp [allOf, strOf, ih]
  refine w_opt (a := W.val (.int ((uniq [] xs).length : Nat))) ?_ h4
  rw [h1]
  dsimp only
  rw [h2, a]
  dsimp only
  rw [if_pos h3]
theorem w_dict (q : Q (.new (.dK [] [])) s) : wpM dictM s Q E := w_eq rfl q
theorem w_atr {cs : List Str} {f : Str} {fo : M W} (q : wpM fo s (fun o s1 => wpM (view o) s1 (fun d s2 => ∃ C ns ds x, d = .obj C ns ds ∧ cs.contains C = true ∧ lookF ns ds f = some x ∧ Q (.val x) s2) E) E) : wpM (atrM cs f fo) s Q E := by
  unfold atrM
  refine w_bnd (w_imp q (fun w s1 z => w_bnd (w_imp z (fun d s2 z => ?_) fun _ _ _ _ y => y)) fun _ _ _ _ y => y)
  obtain ⟨C, ns, ds, x, rfl, h1, h2, h3⟩ := z
  dsimp only
  rw [if_pos h1]
  exact w_bnd (w_opt h2 (w_eq rfl h3))
theorem w_sat {Q : Fl → S → Prop} {cs : List Str} {f : Str} {fo fe : M W} (q : wpM fe s (fun w s1 => wpM (toD w) s1 (fun d s2 => wpM fo s2 (fun x s3 => wpM (updW x fun cl => (setF cs f d cl).map fun cl' => (cl', ())) s3 (fun _ s4 => Q .next s4) E) E) E) E) : wpM (satM cs f fo fe) s Q E :=
  w_bnd (w_imp q (fun _ _ z => w_bnd (w_imp z (fun _ _ z => w_bnd (w_imp z (fun _ _ z => w_bnd (w_imp z (fun _ _ z => w_eq rfl z) fun _ _ _ _ y => y)) fun _ _ _ _ y => y)) fun _ _ _ _ y => y)) fun _ _ _ _ y => y)
end
/-! ### statements -/
section
variable {s : S} {e : Env} {h : Hh} {Q : Fl → S → Prop} {E : XQ}
def thenQ (g : M Fl) (Q : Fl → S → Prop) (E : XQ) : Fl → S → Prop := fun fl s => match fl with
  | .next => wpM g s Q E
  | fl => Q fl s
theorem w_seq {f g : M Fl} (q : wpM f s (thenQ g Q E) E) : wpM (seqM f g) s Q E := by
  rcases w_cs q with ⟨fl, s1, h1, z⟩ | ⟨C, ns, vs, s1, h1, z⟩
  · cases fl with
    | next =>
      rcases w_cs (show wpM g s1 Q E from z) with ⟨fl, s2, h2, z⟩ | ⟨C, ns, vs, s2, h2, z⟩
      · exact w_eq (by unfold seqM; rw [h1]; exact h2) z
      · exact w_exc (by unfold seqM; rw [h1]; exact h2) z
    | ret w => exact w_eq (a := .ret w) (s1 := s1) (by unfold seqM; rw [h1]) z
    | brk => exact w_eq (a := .brk) (s1 := s1) (by unfold seqM; rw [h1]) z
    | cont => exact w_eq (a := .cont) (s1 := s1) (by unfold seqM; rw [h1]) z
  · exact w_exc (by unfold seqM; rw [h1]) z
theorem t_next {g : M Fl} (q : wpM g s Q E) : thenQ g Q E .next s := q
theorem t_ret {g : M Fl} {w : W} (q : Q (.ret w) s) : thenQ g Q E (.ret w) s := q
theorem t_brk {g : M Fl} (q : Q .brk s) : thenQ g Q E .brk s := q
theorem t_cont {g : M Fl} (q : Q .cont s) : thenQ g Q E .cont s := q
theorem w_next (q : Q .next s) : wpM nextM s Q E := w_eq rfl q
theorem w_expr {f : M W} (q : wpM f s (fun _ s1 => Q .next s1) E) : wpM (exprM f) s Q E := w_bnd (w_imp q (fun _ _ z => w_eq rfl z) fun _ _ _ _ y => y)
theorem w_retS {f : M W} (q : wpM f s (fun w s1 => Q (.ret w) s1) E) : wpM (retM f) s Q E := w_bnd (w_imp q (fun _ _ z => w_eq rfl z) fun _ _ _ _ y => y)
theorem w_if {t : M Bool} {f g : M Fl} (q : wpM t s (fun b s1 => wpM (if b = true then f else g) s1 Q E) E) : wpM (ifM t f g) s Q E := w_bnd q
theorem w_asg {i : Nat} {f : M W} (q : wpM f s (fun w s1 => wpM (setM i w) s1 Q E) E) : wpM (asgM i f) s Q E := w_bnd q
theorem w_setV {i : Nat} {d : D} (hi : Lt i e) (q : Q .next ⟨e.set i (.fz d), h⟩) : wpM (setM i (.val d)) ⟨e, h⟩ Q E := w_eq (by unfold setM; simp only [if_pos (show _ < e.length from hi)]) q
theorem w_setN {i : Nat} {c : Cell} (hi : Lt i e) (q : Q .next ⟨e.set i (.ow c), h⟩) : wpM (setM i (.new c)) ⟨e, h⟩ Q E := w_eq (by unfold setM; simp only [if_pos (show _ < e.length from hi)]) q
theorem w_setF {i j : Nat} {d : D} (hi : Lt i e) (he : At e j (.fz d)) (q : Q .next ⟨e.set i (.fz d), h⟩) : wpM (setM i (.slot j)) ⟨e, h⟩ Q E := w_eq (by unfold setM; simp only [if_pos (show _ < e.length from hi), show e[_]? = _ from he]) q
theorem w_setO {i j : Nat} {c : Cell} (hi : Lt i e) (he : At e j (.ow c)) (q : Q .next ⟨(e.set j (.fz c.toD)).set i (.fz c.toD), h⟩) : wpM (setM i (.slot j)) ⟨e, h⟩ Q E := w_eq (by unfold setM; simp only [if_pos (show _ < e.length from hi), show e[_]? = _ from he]) q
theorem w_augI {i : Nat} {g : D → D → Option W} {fe : M W} {d : D} (he : At e i (.fz d)) (q : wpM fe ⟨e, h⟩ (fun y s1 => wpM (view y) s1 (fun dy s2 => wpM (opt (g d dy)) s2 (fun w s3 => wpM (setM i w) s3 Q E) E) E) E) : wpM (augM i g fe) ⟨e, h⟩ Q E := by
  have z : wpM (bnd fe (fun y => bnd (view y) fun dy => bnd (opt (g d dy)) (setM i))) ⟨e, h⟩ Q E := w_bnd (w_imp q (fun _ _ z => w_bnd (w_imp z (fun _ _ z => w_bnd z) fun _ _ _ _ y => y)) fun _ _ _ _ y => y)
  unfold wpM augM at *
  simp only [show e[_]? = _ from he]
  exact z
theorem w_par {i j : Nat} {fa fb : M W} (q : wpM fa s (fun x s1 => wpM (keepW x) s1 (fun x s2 => wpM fb s2 (fun y s3 => wpM (keepW y) s3 (fun y s4 => wpM (stM fun s => match put i x s with
  | some s1 => put j y s1
  | none => none) s4 Q E) E) E) E) E) : wpM (par2M i j fa fb) s Q E :=
  w_bnd (w_imp q (fun _ _ z => w_bnd (w_imp z (fun _ _ z => w_bnd (w_imp z (fun _ _ z => w_bnd z) fun _ _ _ _ y => y)) fun _ _ _ _ y => y)) fun _ _ _ _ y => y)
theorem w_st {o : S → Option S} {s1 : S} (ho : o s = some s1) (q : Q .next s1) : wpM (stM o) s Q E := w_eq (by unfold stM; rw [ho]) q
theorem w_keepV {Q : W → S → Prop} {d : D} (q : Q (.val d) s) : wpM (keepW (.val d)) s Q E := w_eq rfl q
theorem w_keepN {Q : W → S → Prop} {c : Cell} (q : Q (.new c) s) : wpM (keepW (.new c)) s Q E := w_eq rfl q
theorem w_keepF {Q : W → S → Prop} {i : Nat} {d : D} (he : At e i (.fz d)) (q : Q (.val d) ⟨e, h⟩) : wpM (keepW (.slot i)) ⟨e, h⟩ Q E := w_eq (by unfold keepW; simp only [show e[_]? = _ from he]) q
theorem w_keepO {Q : W → S → Prop} {i : Nat} {c : Cell} (he : At e i (.ow c)) (q : Q (.val c.toD) ⟨e.set i (.fz c.toD), h⟩) : wpM (keepW (.slot i)) ⟨e, h⟩ Q E := w_eq (by unfold keepW; simp only [show e[_]? = _ from he]) q
theorem w_unp {f : M W} {fg : Tgf} (q : wpM f s (fun w s1 => wpM (toD w) s1 (fun d s2 => ∃ s3, fg d s2 = some s3 ∧ Q .next s3) E) E) : wpM (unpM f fg) s Q E :=
  w_bnd (w_imp q (fun _ _ z => w_bnd (w_imp z (fun _ _ ⟨s3, h1, h2⟩ => w_st h1 h2) fun _ _ _ _ y => y)) fun _ _ _ _ y => y)
theorem w_raise {x : Str} {f : M W} (q : wpM f s (fun w s1 => wpM (toD w) s1 (fun d s2 => E x ["given"] [d] s2) E) E) : wpM (raiseM x f) s Q E :=
  w_bnd (w_imp q (fun _ _ z => w_bnd (w_imp z (fun d s2 z => w_exc rfl z) fun _ _ _ _ y => y)) fun _ _ _ _ y => y)
/-- how a def ends -/
def outQ (Q : W → S → Prop) : Fl → S → Prop := fun fl s => match fl with
  | .next => Q (.val .non) ⟨[], s.h⟩
  | .ret (.slot i) => match s.e[i]? with
    | some (.fz d) => Q (.val d) ⟨[], s.h⟩
    | some (.ow c) => Q (.new c) ⟨[], s.h⟩
    | _ => False
  | .ret (.val d) => Q (.val d) ⟨[], s.h⟩
  | .ret (.new c) => Q (.new c) ⟨[], s.h⟩
  | _ => False
theorem w_fn {n : Nat} {body : M Fl} {ds : List D} {e : Env} {Q : W → S → Prop} (q : wpM body ⟨env0 n ds, h⟩ (outQ Q) (fun C ns vs s1 => E C ns vs ⟨[], s1.h⟩)) : wpM (fnM n body ds) ⟨e, h⟩ Q E := by
  unfold wpM fnM at *
  dsimp only
  cases q1 : body ⟨env0 n ds, h⟩ with
  | ok fl s1 =>
    rw [q1] at q
    unfold outF
    cases fl with
    | next => exact q
    | ret w =>
      cases w with
      | slot i =>
        dsimp only [outQ] at q ⊢
        split at q
        · rename_i z; simp only [z]; exact q
        · rename_i z; simp only [z]; exact q
        · exact q.elim
      | val d => exact q
      | new c => exact q
    | brk => exact q
    | cont => exact q
  | exc C ns vs s1 => rw [q1] at q; exact q
  | stuck => rw [q1] at q; exact q
theorem o_next {Q : W → S → Prop} (q : Q (.val .non) ⟨[], h⟩) : outQ Q .next ⟨e, h⟩ := q
theorem o_val {Q : W → S → Prop} {d : D} (q : Q (.val d) ⟨[], h⟩) : outQ Q (.ret (.val d)) ⟨e, h⟩ := q
theorem o_new {Q : W → S → Prop} {c : Cell} (q : Q (.new c) ⟨[], h⟩) : outQ Q (.ret (.new c)) ⟨e, h⟩ := q
theorem o_fz {Q : W → S → Prop} {i : Nat} {d : D} (he : At e i (.fz d)) (q : Q (.val d) ⟨[], h⟩) : outQ Q (.ret (.slot i)) ⟨e, h⟩ := by unfold outQ; simp only [show e[_]? = _ from he]; exact q
theorem o_ow {Q : W → S → Prop} {i : Nat} {c : Cell} (he : At e i (.ow c)) (q : Q (.new c) ⟨[], h⟩) : outQ Q (.ret (.slot i)) ⟨e, h⟩ := by unfold outQ; simp only [show e[_]? = _ from he]; exact q
/-- what is asked behind a turn of a loop -/
def turnQ (I : S → Prop) (Q : Fl → S → Prop) : Fl → S → Prop := fun fl s => match fl with
  | .next => I s
  | .cont => I s
  | .brk => Q .next s
  | .ret w => Q (.ret w) s
theorem u_next {I : S → Prop} (q : I s) : turnQ I Q .next s := q
theorem u_cont {I : S → Prop} (q : I s) : turnQ I Q .cont s := q
theorem u_brk {I : S → Prop} (q : Q .next s) : turnQ I Q .brk s := q
theorem u_ret {I : S → Prop} {w : W} (q : Q (.ret w) s) : turnQ I Q (.ret w) s := q
theorem for_inv {tg : Tgf} {bd : M Fl} (I : Nat → S → Prop) : ∀ (ds : List D) (k : Nat) (s : S), I k s →
    (∀ i d s, ds[i]? = some d → I (k + i) s → ∃ s1, tg d s = some s1 ∧ wpM bd s1 (turnQ (I (k + i + 1)) Q) E) → (∀ s, I (k + ds.length) s → Q .next s) → wpM (forM tg bd ds) s Q E
  | [], k, s, h0, _, he => w_eq rfl (he s h0)
  | d :: ds, k, s, h0, step, he => by
    obtain ⟨s1, h1, h2⟩ := step 0 d s rfl h0
    have next : ∀ s2, I (k + 0 + 1) s2 → wpM (forM tg bd ds) s2 Q E := fun s2 hi => for_inv I ds (k + 1) s2 hi (fun i d' s hd hi => by
      have z := step (i + 1) d' s (by simpa using hd)
      rw [show k + (i + 1) = k + 1 + i by omega] at z
      exact z hi) (fun s hi => he s (by rw [List.length_cons, show k + (ds.length + 1) = k + 1 + ds.length by omega]; exact hi))
    rcases w_cs h2 with ⟨fl, s2, q, z⟩ | ⟨C, ns, vs, s2, q, z⟩
    · have go : wpM (forM tg bd ds) s2 Q E → (forM tg bd (d :: ds) s = forM tg bd ds s2) → wpM (forM tg bd (d :: ds)) s Q E := fun w e => by
        rcases w_cs w with ⟨a, s3, h3, z⟩ | ⟨C, ns, vs, s3, h3, z⟩
        · exact w_eq (e.trans h3) z
        · exact w_exc (e.trans h3) z
      cases fl with
      | next => exact go (next s2 z) (by show (match tg d s with | some s1 => _ | none => _) = _; rw [h1]; dsimp only; rw [q])
      | cont => exact go (next s2 z) (by show (match tg d s with | some s1 => _ | none => _) = _; rw [h1]; dsimp only; rw [q])
      | brk => exact w_eq (a := .next) (s1 := s2) (by unfold forM; rw [h1]; dsimp only; rw [q]) z
      | ret w => exact w_eq (a := .ret w) (s1 := s2) (by unfold forM; rw [h1]; dsimp only; rw [q]) z
    · exact w_exc (by unfold forM; rw [h1]; dsimp only; rw [q]) z
theorem w_for {tg : Tgf} {bd : M Fl} {ds : List D} (I : Nat → S → Prop) (h0 : I 0 s)
    (step : ∀ i d s, ds[i]? = some d → I i s → ∃ s1, tg d s = some s1 ∧ wpM bd s1 (turnQ (I (i + 1)) Q) E) (he : ∀ s, I ds.length s → Q .next s) : wpM (forM tg bd ds) s Q E :=
  for_inv I ds 0 s h0 (fun i d s hd hi => by rw [Nat.zero_add] at hi ⊢; exact step i d s hd hi) (fun s hi => he s (by rw [Nat.zero_add] at hi; exact hi))
/-- a loop whose items are few: turn by turn -/
theorem w_for0 {tg : Tgf} {bd : M Fl} (q : Q .next s) : wpM (forM tg bd []) s Q E := w_eq rfl q
theorem w_for1 {tg : Tgf} {bd : M Fl} {d : D} {ds : List D} {s1 : S} (ht : tg d s = some s1) (q : wpM bd s1 (turnQ (fun s2 => wpM (forM tg bd ds) s2 Q E) Q) E) : wpM (forM tg bd (d :: ds)) s Q E := by
  rcases w_cs q with ⟨fl, s2, q, z⟩ | ⟨C, ns, vs, s2, q, z⟩
  · have go : wpM (forM tg bd ds) s2 Q E → (forM tg bd (d :: ds) s = forM tg bd ds s2) → wpM (forM tg bd (d :: ds)) s Q E := fun w e => by
      rcases w_cs w with ⟨a, s3, h3, z⟩ | ⟨C, ns, vs, s3, h3, z⟩
      · exact w_eq (e.trans h3) z
      · exact w_exc (e.trans h3) z
    cases fl with
    | next => exact go z (by show (match tg d s with | some s1 => _ | none => _) = _; rw [ht]; dsimp only; rw [q])
    | cont => exact go z (by show (match tg d s with | some s1 => _ | none => _) = _; rw [ht]; dsimp only; rw [q])
    | brk => exact w_eq (a := .next) (s1 := s2) (by unfold forM; rw [ht]; dsimp only; rw [q]) z
    | ret w => exact w_eq (a := .ret w) (s1 := s2) (by unfold forM; rw [ht]; dsimp only; rw [q]) z
  · exact w_exc (by unfold forM; rw [ht]; dsimp only; rw [q]) z
/-- a while, by a measure -/
theorem w_while {t : M Bool} {bd : M Fl} (I : S → Prop) (μ : S → Nat) (h0 : I s)
    (step : ∀ s, I s → wpM t s (fun b s1 => if b = true then wpM bd s1 (turnQ (fun s2 => I s2 ∧ μ s2 < μ s) Q) E else Q .next s1) E) : ∀ n, μ s < n → wpM (whileM t bd n) s Q E := by
  intro n
  induction n generalizing s with
  | zero => intro z; omega
  | succ n ih =>
    intro hn
    unfold whileM
    refine w_bnd (w_imp (step s h0) (fun b s1 z => ?_) fun _ _ _ _ y => y)
    cases b with
    | false => exact w_eq (a := .next) (s1 := s1) rfl z
    | true =>
      rw [if_pos rfl] at z ⊢
      rcases w_cs z with ⟨fl, s2, q, z⟩ | ⟨C, ns, vs, s2, q, z⟩
      · have go : I s2 ∧ μ s2 < μ s → wpM (fun s => match bd s with
          | .ok .next s2 => whileM t bd n s2
          | .ok .cont s2 => whileM t bd n s2
          | .ok .brk s2 => .ok .next s2
          | o => o) s1 Q E ∨ (bd s1 ≠ .ok .next s2 ∧ bd s1 ≠ .ok .cont s2) := fun k => by
          rcases w_cs (ih k.1 (by omega)) with ⟨a, s3, h3, z⟩ | ⟨C, ns, vs, s3, h3, z⟩
          · by_cases c : bd s1 = .ok .next s2
            · exact .inl (w_eq (a := a) (s1 := s3) (by rw [c]; exact h3) z)
            · by_cases c2 : bd s1 = .ok .cont s2
              · exact .inl (w_eq (a := a) (s1 := s3) (by rw [c2]; exact h3) z)
              · exact .inr ⟨c, c2⟩
          · by_cases c : bd s1 = .ok .next s2
            · exact .inl (w_exc (by rw [c]; exact h3) z)
            · by_cases c2 : bd s1 = .ok .cont s2
              · exact .inl (w_exc (by rw [c2]; exact h3) z)
              · exact .inr ⟨c, c2⟩
        cases fl with
        | next => exact (go z).elim id fun k => absurd q k.1
        | cont => exact (go z).elim id fun k => absurd q k.2
        | brk => exact w_eq (a := .next) (s1 := s2) (by rw [q]) z
        | ret w => exact w_eq (a := .ret w) (s1 := s2) (by rw [q]) z
      · exact w_exc (by rw [q]) z
end
/-! ### iterables, comprehensions -/
section
variable {s : S} {e : Env} {h : Hh} {E : XQ}
theorem w_seqI {Q : List D → S → Prop} {fa : M W} (q : wpM fa s (fun x s1 => wpM (toD x) s1 (fun d s2 => wpM (opt (seqOf d)) s2 Q E) E) E) : wpM (seqI fa) s Q E := w_bnd (w_imp q (fun _ _ z => w_bnd z) fun _ _ _ _ y => y)
theorem w_strI {Q : List D → S → Prop} {fa : M W} (q : wpM fa s (fun x s1 => wpM (view x) s1 (fun d s2 => ∃ y, d = .str y ∧ Q (signs y) s2) E) E) : wpM (strI fa) s Q E :=
  w_bnd (w_imp q (fun _ _ z => w_bnd (w_imp z (fun _ _ ⟨y, h1, h2⟩ => by subst h1; exact w_eq rfl h2) fun _ _ _ _ y => y)) fun _ _ _ _ y => y)
theorem w_range1 {Q : List D → S → Prop} {fs : M (List W)} (q : wpM fs s (fun ws s1 => wpM (views ws) s1 (fun ds s2 => ∃ j, ds = [.int j] ∧ (-4611686018427387904 ≤ j ∧ j < 4611686018427387904) ∧ Q (rangeL 0 j.toNat) s2) E) E) : wpM (range1I fs) s Q E := by
  unfold range1I
  refine w_bnd (w_imp q (fun _ _ z => w_bnd (w_imp z (fun ds s2 z => ?_) fun _ _ _ _ y => y)) fun _ _ _ _ y => y)
  obtain ⟨j, rfl, h1, h2⟩ := z
  refine w_opt ?_ h2
  show (if _ then _ else _) = _
  rw [if_pos ⟨h1.1, h1.2⟩]
theorem w_range2 {Q : List D → S → Prop} {fs : M (List W)} (q : wpM fs s (fun ws s1 => wpM (views ws) s1 (fun ds s2 => ∃ i j, ds = [.int i, .int j] ∧ (-4611686018427387904 ≤ i ∧ i < 4611686018427387904 ∧ -4611686018427387904 ≤ j ∧ j < 4611686018427387904) ∧ Q (rangeL i (j - i).toNat) s2) E) E) : wpM (range2I fs) s Q E := by
  unfold range2I
  refine w_bnd (w_imp q (fun _ _ z => w_bnd (w_imp z (fun ds s2 z => ?_) fun _ _ _ _ y => y)) fun _ _ _ _ y => y)
  obtain ⟨i, j, rfl, h1, h2⟩ := z
  refine w_opt ?_ h2
  show (if _ then _ else _) = _
  rw [if_pos ⟨h1.1, h1.2.1, h1.2.2.1, h1.2.2.2⟩]
theorem w_enumA {Q : List D → S → Prop} {fs : M (List W)} (q : wpM fs s (fun ws s1 => wpM (toDs ws) s1 (fun ds s2 => ∃ d xs, ds = [d] ∧ seqOf d = some xs ∧ Q (enumL 0 xs) s2) E) E) : wpM (enumAI fs) s Q E := by
  unfold enumAI
  refine w_bnd (w_imp q (fun _ _ z => w_bnd (w_imp z (fun ds s2 z => ?_) fun _ _ _ _ y => y)) fun _ _ _ _ y => y)
  obtain ⟨d, xs, rfl, h1, h2⟩ := z
  refine w_opt ?_ h2
  dsimp only
  rw [h1]
theorem w_zip {Q : List D → S → Prop} {fs : M (List W)} (q : wpM fs s (fun ws s1 => wpM (toDs ws) s1 (fun ds s2 => ∃ d b xs ys, ds = [d, b] ∧ ((lstOf d = some xs ∧ lstOf b = some ys) ∨ (d = .tup xs ∧ b = .tup ys)) ∧ Q (zipL xs ys) s2) E) E) : wpM (zipI fs) s Q E := by
  unfold zipI
  refine w_bnd (w_imp q (fun _ _ z => w_bnd (w_imp z (fun ds s2 z => ?_) fun _ _ _ _ y => y)) fun _ _ _ _ y => y)
  obtain ⟨d, b, xs, ys, rfl, h1, h2⟩ := z
  refine w_opt ?_ h2
  rcases h1 with ⟨h1, h3⟩ | ⟨rfl, rfl⟩
  · dsimp only
    rw [h1, h3]
  · rfl
/-- a comprehension, by what holds behind its turns -/
theorem lc_inv {vs : List Nat} {tg : Tgf} {tt : M Bool} {fe : M W} (I : Nat → List D → S → Prop) {items : List D} {s0 : S} (h0 : I 0 [] s0)
    (step : ∀ i d acc s, items[i]? = some d → I i acc s → ∃ s2, tg d s = some s2 ∧ wpM tt s2 (fun b s3 => if b = true then wpM fe s3 (fun w s4 => wpM (toD w) s4 (fun y s5 => I (i + 1) (acc ++ [y]) ⟨wipeE s5.e vs, s5.h⟩) noX) noX else I (i + 1) acc ⟨wipeE s3.e vs, s3.h⟩) noX) :
    ∃ acc s1, lcLoop vs tg tt fe items [] s0 = some (acc, s1) ∧ I items.length acc s1 := by
  refine lcLoop_run I items s0 h0 fun i d acc s hd hi => ?_
  obtain ⟨s2, h1, h2⟩ := step i d acc s hd hi
  obtain ⟨b, s3, h3, h4⟩ := w_get h2
  unfold lcTurn
  rw [h1]
  dsimp only
  rw [h3]
  cases b with
  | false => exact ⟨_, _, rfl, h4⟩
  | true =>
    rw [if_pos rfl] at h4
    obtain ⟨w, s4, h5, h6⟩ := w_get h4
    obtain ⟨y, s5, h7, h8⟩ := w_get h6
    unfold datM
    dsimp only
    rw [r_bnd h5 h7]
    exact ⟨_, _, rfl, h8⟩
theorem w_lc {Q : W → S → Prop} {vs : List Nat} {fi : M (List D)} {tg : Tgf} {tt : M Bool} {fe : M W} (I : Nat → List D → S → Prop) (q : wpM fi s (fun items s1 => (calmE s1.e vs = true ∧ items.length ≤ sizeLine) ∧ I 0 [] ⟨wipeE s1.e vs, s1.h⟩ ∧
    (∀ i d acc s, items[i]? = some d → I i acc s → ∃ s2, tg d s = some s2 ∧ wpM tt s2 (fun b s3 => if b = true then wpM fe s3 (fun w s4 => wpM (toD w) s4 (fun y s5 => I (i + 1) (acc ++ [y]) ⟨wipeE s5.e vs, s5.h⟩) noX) noX else I (i + 1) acc ⟨wipeE s3.e vs, s3.h⟩) noX) ∧
    ∀ acc s', I items.length acc s' → Q (.new (.lst acc)) ⟨backE s1.e s'.e vs, s'.h⟩) E) : wpM (lcM vs fi tg tt fe) s Q E := by
  unfold lcM
  refine w_bnd (w_imp q (fun items s1 z => ?_) fun _ _ _ _ y => y)
  obtain ⟨h1, h2, h3, h4⟩ := z
  obtain ⟨acc, s', h5, h6⟩ := lc_inv I h2 h3
  unfold wpM
  dsimp only
  rw [if_pos h1]
  rw [h5]
  exact h4 acc s' h6
/-- .. that changes nothing -/
theorem w_lcP {Q : W → S → Prop} {vs : List Nat} {fi : M (List D)} {tg : Tgf} {tt : M Bool} {fe : M W} (p : D → Bool) (g : D → D) (q : wpM fi s (fun items s1 => (calmE s1.e vs = true ∧ items.length ≤ sizeLine) ∧
    (∀ (i : Nat) (d : D), items[i]? = some d → ∃ s2, tg d ⟨wipeE s1.e vs, s1.h⟩ = some s2 ∧ wpM tt s2 (fun b s3 => b = p d ∧ if p d = true then wpM fe s3 (fun w s4 => wpM (toD w) s4 (fun y s5 => y = g d ∧ wipeE s5.e vs = wipeE s1.e vs ∧ s5.h = s1.h) noX) noX else wipeE s3.e vs = wipeE s1.e vs ∧ s3.h = s1.h) noX) ∧
    backE s1.e (wipeE s1.e vs) vs = s1.e ∧ Q (.new (.lst ((items.filter p).map g))) s1) E) : wpM (lcM vs fi tg tt fe) s Q E := by
  unfold lcM
  refine w_bnd (w_imp q (fun items s1 z => ?_) fun _ _ _ _ y => y)
  obtain ⟨h1, h3, h4, h5⟩ := z
  obtain ⟨acc, s', h6, h7⟩ := lc_inv (vs := vs) (tg := tg) (tt := tt) (fe := fe) (items := items) (fun i acc s => acc = ((items.take i).filter p).map g ∧ s = ⟨wipeE s1.e vs, s1.h⟩) (s0 := ⟨wipeE s1.e vs, s1.h⟩) ⟨rfl, rfl⟩ (fun i d acc s hd hi => by
    obtain ⟨rfl, rfl⟩ := hi
    obtain ⟨s2, z1, z2⟩ := h3 i d hd
    have tk : items.take (i + 1) = items.take i ++ [d] := by rw [List.take_succ, hd]; rfl
    refine ⟨s2, z1, w_imp z2 (fun b s3 z => ?_) fun _ _ _ _ y => y⟩
    obtain ⟨rfl, z⟩ := z
    cases hp : p d with
    | true =>
      rw [hp, if_pos rfl] at z
      rw [if_pos rfl]
      refine w_imp z (fun w s4 z => w_imp z (fun y s5 z => ?_) fun _ _ _ _ y => y) fun _ _ _ _ y => y
      obtain ⟨rfl, z1, z2⟩ := z
      refine ⟨?_, by rw [z1, z2]⟩
      rw [tk, List.filter_append, List.map_append, List.filter_cons_of_pos hp]
      rfl
    | false =>
      rw [hp, if_neg (by decide)] at z
      rw [if_neg (by decide)]
      refine ⟨?_, by rw [z.1, z.2]⟩
      rw [tk, List.filter_append, List.filter_cons_of_neg (by rw [hp]; decide)]
      simp)
  obtain ⟨rfl, rfl⟩ := h7
  rw [List.take_length] at h6
  unfold wpM
  dsimp only
  rw [if_pos h1]
  rw [h6]
  dsimp only
  rw [h4]
  exact h5
theorem dc_inv {vs : List Nat} {tg : Tgf} {tt : M Bool} {fk fe : M W} (I : Nat → List Key → List D → S → Prop) : ∀ (items : List D) (k : Nat) (ks : List Key) (acc : List D) (s0 : S), I k ks acc s0 →
    (∀ i d ks acc s, items[i]? = some d → I (k + i) ks acc s → ∃ s2, tg d s = some s2 ∧ wpM tt s2 (fun b s3 => if b = true then wpM fk s3 (fun w s4 => wpM (toD w) s4 (fun y s5 => ∃ q, keyOf y = some q ∧ wpM fe s5 (fun w s6 => wpM (toD w) s6 (fun y s7 => I (k + i + 1) (putKD q y ks acc).1 (putKD q y ks acc).2 ⟨wipeE s7.e vs, s7.h⟩) noX) noX) noX) noX else I (k + i + 1) ks acc ⟨wipeE s3.e vs, s3.h⟩) noX) →
    ∃ ks1 acc1 s1, dcLoop vs tg tt fk fe items ks acc s0 = some (ks1, acc1, s1) ∧ I (k + items.length) ks1 acc1 s1
  | [], k, ks, acc, s0, h0, _ => ⟨ks, acc, s0, rfl, h0⟩
  | d :: items, k, ks, acc, s0, h0, step => by
    have t1 : ∃ ks1 acc1 s1, dcTurn vs tg tt fk fe d ks acc s0 = some (ks1, acc1, s1) ∧ I (k + 0 + 1) ks1 acc1 s1 := by
      obtain ⟨s2, h1, h2⟩ := step 0 d ks acc s0 rfl h0
      obtain ⟨b, s3, h3, h4⟩ := w_get h2
      unfold dcTurn
      rw [h1]
      dsimp only
      rw [h3]
      cases b with
      | false => exact ⟨_, _, _, rfl, h4⟩
      | true =>
        rw [if_pos rfl] at h4
        obtain ⟨w, s4, h5, h6⟩ := w_get h4
        obtain ⟨y, s5, h7, q, h8, h9⟩ := w_get h6
        obtain ⟨w', s6, h10, h11⟩ := w_get h9
        obtain ⟨y', s7, h12, h13⟩ := w_get h11
        unfold datM
        dsimp only
        rw [r_bnd h5 h7]
        dsimp only
        rw [h8]
        dsimp only
        rw [r_bnd h10 h12]
        exact ⟨_, _, _, rfl, h13⟩
    obtain ⟨ks1, acc1, s1, h1, h2⟩ := t1
    obtain ⟨ks2, acc2, s2, h3, h4⟩ := dc_inv I items (k + 1) ks1 acc1 s1 h2 fun i d' ks acc s hd hi => by
      have z := step (i + 1) d' ks acc s (by simpa using hd)
      rw [show k + (i + 1) = k + 1 + i by omega] at z
      exact z hi
    refine ⟨ks2, acc2, s2, ?_, by rw [List.length_cons, show k + (items.length + 1) = k + 1 + items.length by omega]; exact h4⟩
    unfold dcLoop
    rw [h1]
    exact h3
theorem w_dc {Q : W → S → Prop} {vs : List Nat} {fi : M (List D)} {tg : Tgf} {tt : M Bool} {fk fe : M W} (I : Nat → List Key → List D → S → Prop) (q : wpM fi s (fun items s1 => (calmE s1.e vs = true ∧ items.length ≤ sizeLine) ∧ I 0 [] [] ⟨wipeE s1.e vs, s1.h⟩ ∧
    (∀ i d ks acc s, items[i]? = some d → I i ks acc s → ∃ s2, tg d s = some s2 ∧ wpM tt s2 (fun b s3 => if b = true then wpM fk s3 (fun w s4 => wpM (toD w) s4 (fun y s5 => ∃ q, keyOf y = some q ∧ wpM fe s5 (fun w s6 => wpM (toD w) s6 (fun y s7 => I (i + 1) (putKD q y ks acc).1 (putKD q y ks acc).2 ⟨wipeE s7.e vs, s7.h⟩) noX) noX) noX) noX else I (i + 1) ks acc ⟨wipeE s3.e vs, s3.h⟩) noX) ∧
    ∀ ks acc s', I items.length ks acc s' → Q (.new (.dK ks acc)) ⟨backE s1.e s'.e vs, s'.h⟩) E) : wpM (dcM vs fi tg tt fk fe) s Q E := by
  unfold dcM
  refine w_bnd (w_imp q (fun items s1 z => ?_) fun _ _ _ _ y => y)
  obtain ⟨h1, h2, h3, h4⟩ := z
  obtain ⟨ks, acc, s', h5, h6⟩ := dc_inv (vs := vs) (tg := tg) (tt := tt) (fk := fk) (fe := fe) I items 0 [] [] _ h2 (fun i d ks acc s hd hi => by rw [Nat.zero_add] at hi ⊢; exact h3 i d ks acc s hd hi)
  rw [Nat.zero_add] at h6
  unfold wpM
  dsimp only
  rw [if_pos h1]
  rw [h5]
  exact h4 ks acc s' h6
end
/-! ### try -/
theorem w_try {tb : List (Str × Str × Bool)} {f : M Fl} {hs : List Hd} {s : S} {Q : Fl → S → Prop} {E : XQ} (q : wpM f s Q (fun C ns ds s1 => wpM (fun s => disp tb C ns ds s hs) s1 Q E)) : wpM (tryM tb f hs) s Q E := by
  unfold wpM tryM at *
  cases q1 : f s <;> rw [q1] at q <;> exact q
theorem w_dispF {tb : List (Str × Str × Bool)} {C x : Str} {ns : List Str} {ds : List D} {i : Nat} {g : Str → List Str → List D → M W} {r : List Hd} {s : S} {Q : Fl → S → Prop} {E : XQ} (hx : exLook tb C x = some false) (q : wpM (fun s => disp tb C ns ds s r) s Q E) : wpM (fun s => disp tb C ns ds s ((x, i, g) :: r)) s Q E := by
  unfold wpM at *
  dsimp only [disp]
  rw [hx]
  exact q
theorem w_dispT {tb : List (Str × Str × Bool)} {C x : Str} {ns : List Str} {ds : List D} {i : Nat} {g : Str → List Str → List D → M W} {r : List Hd} {e : Env} {h : Hh} {Q : Fl → S → Prop} {E : XQ} (hx : exLook tb C x = some true) (hi : i < e.length) (q : wpM (g C ns ds) ⟨e.set i .un, h⟩ (fun w s => Q (.ret w) s) noX) : wpM (fun s => disp tb C ns ds s ((x, i, g) :: r)) ⟨e, h⟩ Q E := by
  obtain ⟨a, s1, h1, h2⟩ := w_get q
  refine w_eq (a := .ret a) (s1 := s1) ?_ h2
  dsimp only [disp]
  rw [hx]
  dsimp only
  rw [if_pos hi, h1]
theorem w_disp0 {tb : List (Str × Str × Bool)} {C : Str} {ns : List Str} {ds : List D} {s : S} {Q : Fl → S → Prop} {E : XQ} (q : E C ns ds s) : wpM (fun s => disp tb C ns ds s []) s Q E := w_exc rfl q
/-! ### places of names -/
theorem ge0 {a0 : Slot} {r : Env} : At (a0 :: r) 0 a0 := rfl
theorem lt0 {a0 : Slot} {r : Env} : Lt 0 (a0 :: r) := by show _ < List.length _; simp only [List.length_cons]; omega
theorem ge1 {a0 a1 : Slot} {r : Env} : At (a0 :: a1 :: r) 1 a1 := rfl
theorem lt1 {a0 a1 : Slot} {r : Env} : Lt 1 (a0 :: a1 :: r) := by show _ < List.length _; simp only [List.length_cons]; omega
theorem ge2 {a0 a1 a2 : Slot} {r : Env} : At (a0 :: a1 :: a2 :: r) 2 a2 := rfl
theorem lt2 {a0 a1 a2 : Slot} {r : Env} : Lt 2 (a0 :: a1 :: a2 :: r) := by show _ < List.length _; simp only [List.length_cons]; omega
theorem ge3 {a0 a1 a2 a3 : Slot} {r : Env} : At (a0 :: a1 :: a2 :: a3 :: r) 3 a3 := rfl
theorem lt3 {a0 a1 a2 a3 : Slot} {r : Env} : Lt 3 (a0 :: a1 :: a2 :: a3 :: r) := by show _ < List.length _; simp only [List.length_cons]; omega
theorem ge4 {a0 a1 a2 a3 a4 : Slot} {r : Env} : At (a0 :: a1 :: a2 :: a3 :: a4 :: r) 4 a4 := rfl
theorem lt4 {a0 a1 a2 a3 a4 : Slot} {r : Env} : Lt 4 (a0 :: a1 :: a2 :: a3 :: a4 :: r) := by show _ < List.length _; simp only [List.length_cons]; omega
theorem ge5 {a0 a1 a2 a3 a4 a5 : Slot} {r : Env} : At (a0 :: a1 :: a2 :: a3 :: a4 :: a5 :: r) 5 a5 := rfl
theorem lt5 {a0 a1 a2 a3 a4 a5 : Slot} {r : Env} : Lt 5 (a0 :: a1 :: a2 :: a3 :: a4 :: a5 :: r) := by show _ < List.length _; simp only [List.length_cons]; omega
theorem ge6 {a0 a1 a2 a3 a4 a5 a6 : Slot} {r : Env} : At (a0 :: a1 :: a2 :: a3 :: a4 :: a5 :: a6 :: r) 6 a6 := rfl
theorem lt6 {a0 a1 a2 a3 a4 a5 a6 : Slot} {r : Env} : Lt 6 (a0 :: a1 :: a2 :: a3 :: a4 :: a5 :: a6 :: r) := by show _ < List.length _; simp only [List.length_cons]; omega
theorem ge7 {a0 a1 a2 a3 a4 a5 a6 a7 : Slot} {r : Env} : At (a0 :: a1 :: a2 :: a3 :: a4 :: a5 :: a6 :: a7 :: r) 7 a7 := rfl
theorem lt7 {a0 a1 a2 a3 a4 a5 a6 a7 : Slot} {r : Env} : Lt 7 (a0 :: a1 :: a2 :: a3 :: a4 :: a5 :: a6 :: a7 :: r) := by show _ < List.length _; simp only [List.length_cons]; omega
theorem ge8 {a0 a1 a2 a3 a4 a5 a6 a7 a8 : Slot} {r : Env} : At (a0 :: a1 :: a2 :: a3 :: a4 :: a5 :: a6 :: a7 :: a8 :: r) 8 a8 := rfl
theorem lt8 {a0 a1 a2 a3 a4 a5 a6 a7 a8 : Slot} {r : Env} : Lt 8 (a0 :: a1 :: a2 :: a3 :: a4 :: a5 :: a6 :: a7 :: a8 :: r) := by show _ < List.length _; simp only [List.length_cons]; omega
theorem ge9 {a0 a1 a2 a3 a4 a5 a6 a7 a8 a9 : Slot} {r : Env} : At (a0 :: a1 :: a2 :: a3 :: a4 :: a5 :: a6 :: a7 :: a8 :: a9 :: r) 9 a9 := rfl
theorem lt9 {a0 a1 a2 a3 a4 a5 a6 a7 a8 a9 : Slot} {r : Env} : Lt 9 (a0 :: a1 :: a2 :: a3 :: a4 :: a5 :: a6 :: a7 :: a8 :: a9 :: r) := by show _ < List.length _; simp only [List.length_cons]; omega
theorem ge10 {a0 a1 a2 a3 a4 a5 a6 a7 a8 a9 a10 : Slot} {r : Env} : At (a0 :: a1 :: a2 :: a3 :: a4 :: a5 :: a6 :: a7 :: a8 :: a9 :: a10 :: r) 10 a10 := rfl
theorem lt10 {a0 a1 a2 a3 a4 a5 a6 a7 a8 a9 a10 : Slot} {r : Env} : Lt 10 (a0 :: a1 :: a2 :: a3 :: a4 :: a5 :: a6 :: a7 :: a8 :: a9 :: a10 :: r) := by show _ < List.length _; simp only [List.length_cons]; omega
theorem ge11 {a0 a1 a2 a3 a4 a5 a6 a7 a8 a9 a10 a11 : Slot} {r : Env} : At (a0 :: a1 :: a2 :: a3 :: a4 :: a5 :: a6 :: a7 :: a8 :: a9 :: a10 :: a11 :: r) 11 a11 := rfl
theorem lt11 {a0 a1 a2 a3 a4 a5 a6 a7 a8 a9 a10 a11 : Slot} {r : Env} : Lt 11 (a0 :: a1 :: a2 :: a3 :: a4 :: a5 :: a6 :: a7 :: a8 :: a9 :: a10 :: a11 :: r) := by show _ < List.length _; simp only [List.length_cons]; omega
theorem ge12 {a0 a1 a2 a3 a4 a5 a6 a7 a8 a9 a10 a11 a12 : Slot} {r : Env} : At (a0 :: a1 :: a2 :: a3 :: a4 :: a5 :: a6 :: a7 :: a8 :: a9 :: a10 :: a11 :: a12 :: r) 12 a12 := rfl
theorem lt12 {a0 a1 a2 a3 a4 a5 a6 a7 a8 a9 a10 a11 a12 : Slot} {r : Env} : Lt 12 (a0 :: a1 :: a2 :: a3 :: a4 :: a5 :: a6 :: a7 :: a8 :: a9 :: a10 :: a11 :: a12 :: r) := by show _ < List.length _; simp only [List.length_cons]; omega
theorem ge13 {a0 a1 a2 a3 a4 a5 a6 a7 a8 a9 a10 a11 a12 a13 : Slot} {r : Env} : At (a0 :: a1 :: a2 :: a3 :: a4 :: a5 :: a6 :: a7 :: a8 :: a9 :: a10 :: a11 :: a12 :: a13 :: r) 13 a13 := rfl
theorem lt13 {a0 a1 a2 a3 a4 a5 a6 a7 a8 a9 a10 a11 a12 a13 : Slot} {r : Env} : Lt 13 (a0 :: a1 :: a2 :: a3 :: a4 :: a5 :: a6 :: a7 :: a8 :: a9 :: a10 :: a11 :: a12 :: a13 :: r) := by show _ < List.length _; simp only [List.length_cons]; omega
theorem ge14 {a0 a1 a2 a3 a4 a5 a6 a7 a8 a9 a10 a11 a12 a13 a14 : Slot} {r : Env} : At (a0 :: a1 :: a2 :: a3 :: a4 :: a5 :: a6 :: a7 :: a8 :: a9 :: a10 :: a11 :: a12 :: a13 :: a14 :: r) 14 a14 := rfl
theorem lt14 {a0 a1 a2 a3 a4 a5 a6 a7 a8 a9 a10 a11 a12 a13 a14 : Slot} {r : Env} : Lt 14 (a0 :: a1 :: a2 :: a3 :: a4 :: a5 :: a6 :: a7 :: a8 :: a9 :: a10 :: a11 :: a12 :: a13 :: a14 :: r) := by show _ < List.length _; simp only [List.length_cons]; omega
theorem ge15 {a0 a1 a2 a3 a4 a5 a6 a7 a8 a9 a10 a11 a12 a13 a14 a15 : Slot} {r : Env} : At (a0 :: a1 :: a2 :: a3 :: a4 :: a5 :: a6 :: a7 :: a8 :: a9 :: a10 :: a11 :: a12 :: a13 :: a14 :: a15 :: r) 15 a15 := rfl
theorem lt15 {a0 a1 a2 a3 a4 a5 a6 a7 a8 a9 a10 a11 a12 a13 a14 a15 : Slot} {r : Env} : Lt 15 (a0 :: a1 :: a2 :: a3 :: a4 :: a5 :: a6 :: a7 :: a8 :: a9 :: a10 :: a11 :: a12 :: a13 :: a14 :: a15 :: r) := by show _ < List.length _; simp only [List.length_cons]; omega
theorem ge16 {a0 a1 a2 a3 a4 a5 a6 a7 a8 a9 a10 a11 a12 a13 a14 a15 a16 : Slot} {r : Env} : At (a0 :: a1 :: a2 :: a3 :: a4 :: a5 :: a6 :: a7 :: a8 :: a9 :: a10 :: a11 :: a12 :: a13 :: a14 :: a15 :: a16 :: r) 16 a16 := rfl
theorem lt16 {a0 a1 a2 a3 a4 a5 a6 a7 a8 a9 a10 a11 a12 a13 a14 a15 a16 : Slot} {r : Env} : Lt 16 (a0 :: a1 :: a2 :: a3 :: a4 :: a5 :: a6 :: a7 :: a8 :: a9 :: a10 :: a11 :: a12 :: a13 :: a14 :: a15 :: a16 :: r) := by show _ < List.length _; simp only [List.length_cons]; omega
theorem ge17 {a0 a1 a2 a3 a4 a5 a6 a7 a8 a9 a10 a11 a12 a13 a14 a15 a16 a17 : Slot} {r : Env} : At (a0 :: a1 :: a2 :: a3 :: a4 :: a5 :: a6 :: a7 :: a8 :: a9 :: a10 :: a11 :: a12 :: a13 :: a14 :: a15 :: a16 :: a17 :: r) 17 a17 := rfl
theorem lt17 {a0 a1 a2 a3 a4 a5 a6 a7 a8 a9 a10 a11 a12 a13 a14 a15 a16 a17 : Slot} {r : Env} : Lt 17 (a0 :: a1 :: a2 :: a3 :: a4 :: a5 :: a6 :: a7 :: a8 :: a9 :: a10 :: a11 :: a12 :: a13 :: a14 :: a15 :: a16 :: a17 :: r) := by show _ < List.length _; simp only [List.length_cons]; omega
theorem ge18 {a0 a1 a2 a3 a4 a5 a6 a7 a8 a9 a10 a11 a12 a13 a14 a15 a16 a17 a18 : Slot} {r : Env} : At (a0 :: a1 :: a2 :: a3 :: a4 :: a5 :: a6 :: a7 :: a8 :: a9 :: a10 :: a11 :: a12 :: a13 :: a14 :: a15 :: a16 :: a17 :: a18 :: r) 18 a18 := rfl
theorem lt18 {a0 a1 a2 a3 a4 a5 a6 a7 a8 a9 a10 a11 a12 a13 a14 a15 a16 a17 a18 : Slot} {r : Env} : Lt 18 (a0 :: a1 :: a2 :: a3 :: a4 :: a5 :: a6 :: a7 :: a8 :: a9 :: a10 :: a11 :: a12 :: a13 :: a14 :: a15 :: a16 :: a17 :: a18 :: r) := by show _ < List.length _; simp only [List.length_cons]; omega
theorem ge19 {a0 a1 a2 a3 a4 a5 a6 a7 a8 a9 a10 a11 a12 a13 a14 a15 a16 a17 a18 a19 : Slot} {r : Env} : At (a0 :: a1 :: a2 :: a3 :: a4 :: a5 :: a6 :: a7 :: a8 :: a9 :: a10 :: a11 :: a12 :: a13 :: a14 :: a15 :: a16 :: a17 :: a18 :: a19 :: r) 19 a19 := rfl
theorem lt19 {a0 a1 a2 a3 a4 a5 a6 a7 a8 a9 a10 a11 a12 a13 a14 a15 a16 a17 a18 a19 : Slot} {r : Env} : Lt 19 (a0 :: a1 :: a2 :: a3 :: a4 :: a5 :: a6 :: a7 :: a8 :: a9 :: a10 :: a11 :: a12 :: a13 :: a14 :: a15 :: a16 :: a17 :: a18 :: a19 :: r) := by show _ < List.length _; simp only [List.length_cons]; omega
theorem ge20 {a0 a1 a2 a3 a4 a5 a6 a7 a8 a9 a10 a11 a12 a13 a14 a15 a16 a17 a18 a19 a20 : Slot} {r : Env} : At (a0 :: a1 :: a2 :: a3 :: a4 :: a5 :: a6 :: a7 :: a8 :: a9 :: a10 :: a11 :: a12 :: a13 :: a14 :: a15 :: a16 :: a17 :: a18 :: a19 :: a20 :: r) 20 a20 := rfl
theorem lt20 {a0 a1 a2 a3 a4 a5 a6 a7 a8 a9 a10 a11 a12 a13 a14 a15 a16 a17 a18 a19 a20 : Slot} {r : Env} : Lt 20 (a0 :: a1 :: a2 :: a3 :: a4 :: a5 :: a6 :: a7 :: a8 :: a9 :: a10 :: a11 :: a12 :: a13 :: a14 :: a15 :: a16 :: a17 :: a18 :: a19 :: a20 :: r) := by show _ < List.length _; simp only [List.length_cons]; omega
theorem ge21 {a0 a1 a2 a3 a4 a5 a6 a7 a8 a9 a10 a11 a12 a13 a14 a15 a16 a17 a18 a19 a20 a21 : Slot} {r : Env} : At (a0 :: a1 :: a2 :: a3 :: a4 :: a5 :: a6 :: a7 :: a8 :: a9 :: a10 :: a11 :: a12 :: a13 :: a14 :: a15 :: a16 :: a17 :: a18 :: a19 :: a20 :: a21 :: r) 21 a21 := rfl
theorem lt21 {a0 a1 a2 a3 a4 a5 a6 a7 a8 a9 a10 a11 a12 a13 a14 a15 a16 a17 a18 a19 a20 a21 : Slot} {r : Env} : Lt 21 (a0 :: a1 :: a2 :: a3 :: a4 :: a5 :: a6 :: a7 :: a8 :: a9 :: a10 :: a11 :: a12 :: a13 :: a14 :: a15 :: a16 :: a17 :: a18 :: a19 :: a20 :: a21 :: r) := by show _ < List.length _; simp only [List.length_cons]; omega
theorem ge22 {a0 a1 a2 a3 a4 a5 a6 a7 a8 a9 a10 a11 a12 a13 a14 a15 a16 a17 a18 a19 a20 a21 a22 : Slot} {r : Env} : At (a0 :: a1 :: a2 :: a3 :: a4 :: a5 :: a6 :: a7 :: a8 :: a9 :: a10 :: a11 :: a12 :: a13 :: a14 :: a15 :: a16 :: a17 :: a18 :: a19 :: a20 :: a21 :: a22 :: r) 22 a22 := rfl
theorem lt22 {a0 a1 a2 a3 a4 a5 a6 a7 a8 a9 a10 a11 a12 a13 a14 a15 a16 a17 a18 a19 a20 a21 a22 : Slot} {r : Env} : Lt 22 (a0 :: a1 :: a2 :: a3 :: a4 :: a5 :: a6 :: a7 :: a8 :: a9 :: a10 :: a11 :: a12 :: a13 :: a14 :: a15 :: a16 :: a17 :: a18 :: a19 :: a20 :: a21 :: a22 :: r) := by show _ < List.length _; simp only [List.length_cons]; omega
theorem ge23 {a0 a1 a2 a3 a4 a5 a6 a7 a8 a9 a10 a11 a12 a13 a14 a15 a16 a17 a18 a19 a20 a21 a22 a23 : Slot} {r : Env} : At (a0 :: a1 :: a2 :: a3 :: a4 :: a5 :: a6 :: a7 :: a8 :: a9 :: a10 :: a11 :: a12 :: a13 :: a14 :: a15 :: a16 :: a17 :: a18 :: a19 :: a20 :: a21 :: a22 :: a23 :: r) 23 a23 := rfl
theorem lt23 {a0 a1 a2 a3 a4 a5 a6 a7 a8 a9 a10 a11 a12 a13 a14 a15 a16 a17 a18 a19 a20 a21 a22 a23 : Slot} {r : Env} : Lt 23 (a0 :: a1 :: a2 :: a3 :: a4 :: a5 :: a6 :: a7 :: a8 :: a9 :: a10 :: a11 :: a12 :: a13 :: a14 :: a15 :: a16 :: a17 :: a18 :: a19 :: a20 :: a21 :: a22 :: a23 :: r) := by show _ < List.length _; simp only [List.length_cons]; omega
/-! ### small rules -/
section
variable {s : S} {E : XQ}
theorem w_yes {Q : Bool → S → Prop} (q : Q true s) : wpM yesM s Q E := w_eq rfl q
theorem p_iteT {A B : Prop} (a : A) : if true = true then A else B := a
theorem p_iteF {A B : Prop} (b : B) : if false = true then A else B := b
theorem p_iteN {b : Bool} {A B : Prop} (q : if b = true then B else A) : if (!b) = true then A else B := by cases b <;> exact q
theorem p_iteDT {p : Prop} {_ : Decidable p} {A B : Prop} (hp : p) (a : A) : if decide p = true then A else B := by rw [if_pos (decide_eq_true hp)]; exact a
theorem p_iteDF {p : Prop} {_ : Decidable p} {A B : Prop} (hp : ¬ p) (b : B) : if decide p = true then A else B := by rw [if_neg (by rw [decide_eq_false hp]; decide)]; exact b
theorem and_le {n : Nat} {P : Prop} (h : n ≤ sizeLine) (p : P) : n ≤ sizeLine ∧ P := ⟨h, p⟩
theorem and_eq {α : Type} {a b : α} {P : Prop} (h : a = b) (p : P) : a = b ∧ P := ⟨h, p⟩
theorem and_ee {α β : Type} {a b : α} {c d : β} {P : Prop} (h : a = b) (h2 : c = d) (p : P) : (a = b ∧ c = d) ∧ P := ⟨⟨h, h2⟩, p⟩
theorem w_seqP {f g : M Fl} {Q : Fl → S → Prop} (P : S → Prop) (q : wpM f s (fun fl s1 => fl = .next ∧ P s1) E) (r : ∀ s1, P s1 → wpM g s1 Q E) : wpM (seqM f g) s Q E :=
  w_seq (w_imp q (fun fl s1 z => by obtain ⟨rfl, z⟩ := z; exact r s1 z) fun _ _ _ _ y => y)
end
/-! ### operators -/
section
variable {i j : Int} {x y : Str} {a b : Bool} {xs ys : List D}
theorem g_addI : addG (.int i) (.int j) = some (.val (.int (i + j))) := rfl
theorem g_addB : addG (.int i) (.bl a) = some (.val (.int (i + PyProof.Rows.b2i a))) := rfl
theorem g_subI : subG (.int i) (.int j) = some (.val (.int (i - j))) := rfl
theorem g_iaddI : iaddG (.int i) (.int j) = some (.val (.int (i + j))) := rfl
theorem g_mulI (hl : i.natAbs.log2 + j.natAbs.log2 < 1000000) : mulG (.int i) (.int j) = some (.val (.int (i * j))) := if_pos hl
theorem g_fdivI (hj : 0 < j ∧ j.natAbs.log2 < 9000) : fdivG (.int i) (.int j) = some (.val (.int (i / j))) := if_pos hj
theorem g_modI (hj : 0 < j) : modG (.int i) (.int j) = some (.val (.int (i % j))) := if_pos hj
theorem g_addL (hl : xs.length + ys.length ≤ sizeLine) : addG (.lst xs) (.lst ys) = some (.new (.lst (xs ++ ys))) := if_pos hl
theorem g_addT (hl : xs.length + ys.length ≤ sizeLine) : addG (.tup xs) (.tup ys) = some (.val (.tup (xs ++ ys))) := if_pos hl
theorem g_addS (hl : x.length + y.length ≤ sizeLine) : addG (.str x) (.str y) = some (.val (.str (x ++ y))) := if_pos hl
theorem g_ltI : ltG (.int i) (.int j) = some (decide (i < j)) := rfl
theorem g_leI : leG (.int i) (.int j) = some (decide (i ≤ j)) := rfl
theorem g_gtI : gtG (.int i) (.int j) = some (decide (j < i)) := rfl
theorem g_geI : geG (.int i) (.int j) = some (decide (j ≤ i)) := rfl
theorem g_eqI : eqG (.int i) (.int j) = some (decide (i = j)) := rfl
theorem g_neI : neG (.int i) (.int j) = some (!decide (i = j)) := rfl
theorem g_eqS : eqG (.str x) (.str y) = some (decide (x = y)) := rfl
theorem g_neS : neG (.str x) (.str y) = some (!decide (x = y)) := rfl
theorem g_eqB : eqG (.bl a) (.bl b) = some (decide (a = b)) := rfl
theorem g_negI : negG (.int i) = some (.val (.int (-i))) := rfl
theorem g_truI : truD (.int i) = some (i != 0) := rfl
theorem g_truB : truD (.bl a) = some a := rfl
theorem g_truN : truD .non = some false := rfl
theorem g_truL : truD (.lst xs) = some (!xs.isEmpty) := rfl
theorem g_lenL : lenG [.lst xs] = some (.val (.int xs.length)) := rfl
theorem g_lenT : lenG [.tup xs] = some (.val (.int xs.length)) := rfl
theorem g_lenK : lenG [.ktp xs] = some (.val (.int xs.length)) := rfl
theorem g_lenR : lenG [.scr xs] = some (.val (.int xs.length)) := rfl
theorem g_lenS (hl : x.length ≤ sizeLine) : lenG [.str x] = some (.val (.int x.length)) := if_pos hl
theorem g_intI : intG [.int i] = some (.val (.int i)) := rfl
theorem g_intB : intG [.bl a] = some (.val (.int (if a then 1 else 0))) := rfl
theorem g_intOf : intOf (.int i) = some i := rfl
theorem g_seqL : seqOf (.lst xs) = some xs := rfl
theorem g_seqT : seqOf (.tup xs) = some xs := rfl
theorem g_seqK : seqOf (.ktp xs) = some xs := rfl
theorem g_seqR : seqOf (.scr xs) = some xs := rfl
theorem g_listL : listG [.lst xs] = some (.new (.lst xs)) := rfl
theorem g_listT : listG [.tup xs] = some (.new (.lst xs)) := rfl
theorem g_listR : listG [.scr xs] = some (.new (.lst xs)) := rfl
theorem g_tupT : tupleG [.tup xs] = some (.val (.tup xs)) := rfl
theorem g_tupL : tupleG [.lst xs] = some (.val (.tup xs)) := rfl
theorem g_isN {d : D} : isG d .non = some (isNonD d) := rfl
theorem g_isNotN {d : D} : isNotG d .non = some (!isNonD d) := rfl
theorem g_append {d : D} (hl : xs.length < sizeLine) : appendG (.lst xs) [d] = some (.lst (xs ++ [d]), .non) := if_pos hl
theorem g_slL {lo hi : Option Int} : slG (.lst xs) lo hi = some (.new (.lst (cutL xs lo hi))) := rfl
theorem g_slT {lo hi : Option Int} : slG (.tup xs) lo hi = some (.val (.tup (cutL xs lo hi))) := rfl
theorem g_slS {lo hi : Option Int} (hl : x.length ≤ sizeLine) : slG (.str x) lo hi = some (.val (.str (cutS x lo hi))) := if_pos hl
theorem g_ixL {d : D} (hx : atI xs i = some d) : ixG (.lst xs) (.int i) = some (.val d) := by unfold ixG seqOf; dsimp only; rw [hx]
theorem g_ixT {d : D} (hx : atI xs i = some d) : ixG (.tup xs) (.int i) = some (.val d) := by unfold ixG seqOf; dsimp only; rw [hx]
theorem g_ixR {d : D} (hx : atI xs i = some d) : ixG (.scr xs) (.int i) = some (.val d) := by unfold ixG seqOf; dsimp only; rw [hx]
theorem g_ixS {c : Nat} (hl : x.length ≤ sizeLine) (hx : atI x.cps.toList i = some c) : ixG (.str x) (.int i) = some (.val (.str ⟨#[c]⟩)) := by unfold ixG seqOf; dsimp only; rw [if_pos hl, hx]
end
end Z

namespace Z
open PySem L2

/-! ## builtin functions that look into the heap -/
def callHM (g : Hh → List D → Option W) (fs : M (List W)) : M W := bnd fs fun ws => bnd (views ws) fun ds s => match g s.h ds with
  | some w => .ok w s
  | none => .stuck
def CallOkH (X : Cx) (f : Value) (g : Hh → List D → Option W) : Prop :=
  ∃ r, CallR X f r ∧ ∀ c ds vs w Q, Ok (tx X) c → RepVs (tx X) c ds vs → g c.s.h ds = some w → Fin2 (tx X) c w Q → r vs c.H Q
section
variable {X : Cx} {Wx : WX} {e : Expr} {es : List Expr} {pos : Pos} {fs : M (List W)}
theorem callH_of {g : Hh → List D → Option W} {r : List V → Hp → VK → Prop} (hr : ∀ c ds vs w Q, Ok (tx X) c → RepVs (tx X) c ds vs → g c.s.h ds = some w → Fin2 (tx X) c w Q → r vs c.H Q) {σ : St} {H : Hp} {Q : VK} (h : tSE X Wx (callHM g fs) σ H Q) : tCB r (tSA X Wx fs) σ H Q := by
  obtain ⟨c, e1, e2, O, p⟩ := h
  subst e1 e2
  refine ⟨c, rfl, rfl, O, (Post.bnd2 p (Ext.refl c) rfl).imp fun c1 ws hσ1 O1 x1 ⟨_, _, p1⟩ us rr => ?_⟩
  obtain ⟨ds, q, p2⟩ := Post.views O1 x1 hσ1 p1 rr
  cases z : g c1.s.h ds with
  | none => rw [z] at p2; exact p2.elim
  | some w =>
    rw [z] at p2
    exact hr c1 ds us w Q O1 q z (Post.fin O1 x1 hσ1 p2)
theorem se_callH {x : Str} {id : String} {p : Pos} {g : Hh → List D → Option W} (hc : CallOkH X (.builtin id) g) (hg : Gl X x) (hm : X.mg x = none) (hv : bootBuiltins x = some (.builtin id)) (ha : SA X Wx (e :: es) fs) (hn : x ≠ "__name__" := by decide) (hdb : (x == ("__debug__" : Str)) = false := by decide)
    (he : starEach (e :: es) X.env = (false, eval e X.env) :: starEach es X.env := by rfl) (hpl : (backTo pos (starEach es X.env)).any (·.1) = false := by rfl) : SE X Wx (.Call (.Name x p) (e :: es) [] pos) (callHM g fs) := by
  obtain ⟨r, h1, h2⟩ := hc
  exact ⟨PE.imp (pe_callB h1 hg hm hv ha.pa hn hdb he hpl) fun σ H Q h => callH_of h2 h⟩
end
/-! ## repr -/
/-- data with its cells written in -/
def pyH (h : Hh) : Nat → D → Option PyData
  | 0, _ => none
  | n + 1, d => match d with
    | .non => some .none
    | .bl b => some (.bool b)
    | .int i => some (.int i)
    | .str x => some (.str x)
    | .tup ds => (allOf (pyH h n) ds).map .tuple
    | .ktp ds => (allOf (pyH h n) ds).map .tuple
    | .lst ds => (allOf (pyH h n) ds).map .list
    | .scr ds => (allOf (pyH h n) ds).map .list
    | .ref k => match h[k]? with
      | some (.lst ds) => (allOf (pyH h n) ds).map .list
      | _ => none
    | _ => none
def pyF : D → Option PyData
  | .non => some .none
  | .bl b => some (.bool b)
  | .int i => some (.int i)
  | .str x => some (.str x)
  | _ => none
def pyK : Key → PyData
  | .inl i => .int i
  | .inr x => .str x
def reprP (h : Hh) (d : D) : Option Str := match d with
  | .dK ks ds => match allOf pyF ds with
    | some ps => if (PyData.dict ((ks.map pyK).zip ps)).showable = true ∧ ks.length = ds.length ∧ (PyData.dict ((ks.map pyK).zip ps)).depth ≤ 60 ∧ (PyData.dict ((ks.map pyK).zip ps)).shown.length ≤ sizeLine then some (PyData.dict ((ks.map pyK).zip ps)).shown else none
    | none => none
  | d => match pyH h 50 d with
    | some p => if p.showable = true ∧ p.hasDict = false ∧ p.depth ≤ 60 ∧ p.shown.length ≤ sizeLine then some p.shown else none
    | none => none
def reprG (h : Hh) : List D → Option W
  | [d] => match reprP h d with
    | some y => some (.val (.str y))
    | none => none
  | _ => none
theorem allOf_cons {α : Type} {f : D → Option α} {d : D} {ds : List D} {ps : List α} (h : allOf f (d :: ds) = some ps) : ∃ p r, f d = some p ∧ allOf f ds = some r ∧ ps = p :: r := by
  unfold allOf at h
  cases e1 : f d with
  | none => rw [e1] at h; cases h
  | some p =>
    cases e2 : allOf f ds with
    | none => rw [e1, e2] at h; cases h
    | some r => rw [e1, e2] at h; cases h; exact ⟨p, r, rfl, rfl, rfl⟩
theorem dpAll_of {T : Tx} {F H : Hp} {φ : List Addr} {f : D → Option PyData} (k : ∀ d v p, Rep T F φ d v → f d = some p → Dp T.K H v p) : ∀ (ds : List D) (us : List V) (ps : List PyData), Reps T F φ ds us → allOf f ds = some ps → DpAll T.K H us ps
  | [], _, _, r, e => by
    rw [show _ = [] from r]
    cases e
    exact .nil
  | d :: ds, _, _, r, e => by
    obtain ⟨u, us, rfl, r1, r2⟩ := r
    obtain ⟨p, ps, e1, e2, rfl⟩ := allOf_cons e
    exact .cons (k d u p r1 e1) (dpAll_of k ds us ps r2 e2)
theorem map_some {α β : Type} {f : α → β} {o : Option α} {b : β} (h : o.map f = some b) : ∃ a, o = some a ∧ b = f a := by
  cases o with
  | none => cases h
  | some a => cases h; exact ⟨a, rfl, rfl⟩
/-- at a heap that has what F and the cells say -/
theorem dp_of {T : Tx} {c : Cf} (O : Ok T c) : ∀ (n : Nat) (F : Hp) (_ : Le F c.H) (d : D) (v : V) (p : PyData), Rep T F c.φ d v → pyH c.s.h n d = some p → Dp T.K c.H v p
  | 0, _, _, _, _, _, _, e => by cases e
  | n + 1, F, le, d, v, p, r, e => by
    have all : ∀ (F : Hp) (_ : Le F c.H) (ds : List D) (us : List V) (ps : List PyData), Reps T F c.φ ds us → allOf (pyH c.s.h n) ds = some ps → DpAll T.K c.H us ps := fun F le ds us ps => dpAll_of (fun d v p => dp_of O n F le d v p) ds us ps
    cases d with
    | non => cases e; rw [show v = .non from r]; exact .non
    | bl b => cases e; rw [show v = .bl b from r]; exact .bl b
    | int i => cases e; rw [show v = .int i from r]; exact .int i
    | str x => cases e; rw [show v = .str x from r]; exact .str x
    | tup ds =>
      obtain ⟨ps, e1, rfl⟩ := map_some (show (allOf (pyH c.s.h n) ds).map PyData.tuple = some p from e)
      obtain ⟨a, us, rfl, z, rr⟩ := r
      exact .tup (.inl (.inl (le _ _ z))) (all F le ds us ps rr e1)
    | ktp ds =>
      obtain ⟨ps, e1, rfl⟩ := map_some (show (allOf (pyH c.s.h n) ds).map PyData.tuple = some p from e)
      obtain ⟨a, us, rfl, z, rr⟩ := r
      rcases z with z | z
      · exact .tup (.inl (.inl (le _ _ z))) (all F le ds us ps rr e1)
      · exact .tup (.inr z) (all F le ds us ps rr e1)
    | lst ds =>
      obtain ⟨ps, e1, rfl⟩ := map_some (show (allOf (pyH c.s.h n) ds).map PyData.list = some p from e)
      obtain ⟨a, us, rfl, z, rr⟩ := r
      exact .lst (.inl (.inl (le _ _ z))) (all F le ds us ps rr e1)
    | scr ds =>
      obtain ⟨ps, e1, rfl⟩ := map_some (show (allOf (pyH c.s.h n) ds).map PyData.list = some p from e)
      obtain ⟨a, us, rfl, z, rr⟩ := r
      exact .lst (SqL.le le z) (all F le ds us ps rr e1)
    | ref k =>
      obtain ⟨a, hk, rfl⟩ := r
      have e : (match c.s.h[k]? with | some (.lst ds) => (allOf (pyH c.s.h n) ds).map PyData.list | _ => none) = some p := e
      cases q : c.s.h[k]? with
      | none => rw [q] at e; cases e
      | some cl =>
        rw [q] at e
        cases cl with
        | lst ds =>
          obtain ⟨ps, e1, rfl⟩ := map_some e
          obtain ⟨us, z, rr⟩ := O.cell k a _ hk q
          exact .lst (.inl (.inl z)) (all c.F O.le ds us ps rr e1)
        | _ => cases e
    | _ => cases e
/-- the readings of a dict with flat values -/
inductive Flat1 : V → PyData → Prop
  | non : Flat1 .non .none
  | bl (b : Bool) : Flat1 (.bl b) (.bool b)
  | int (i : Int) : Flat1 (.int i) (.int i)
  | str (x : Str) : Flat1 (.str x) (.str x)
theorem flat_of {T : Tx} {F : Hp} {φ : List Addr} {d : D} {v : V} {p : PyData} (r : Rep T F φ d v) (e : pyF d = some p) : Flat1 v p := by
  cases d with
  | non => cases e; rw [show v = .non from r]; exact .non
  | bl b => cases e; rw [show v = .bl b from r]; exact .bl b
  | int i => cases e; rw [show v = .int i from r]; exact .int i
  | str x => cases e; rw [show v = .str x from r]; exact .str x
  | _ => cases e
inductive Flats : List V → List PyData → Prop
  | nil : Flats [] []
  | cons {v p us ps} : Flat1 v p → Flats us ps → Flats (v :: us) (p :: ps)
theorem flats_of {T : Tx} {F : Hp} {φ : List Addr} : ∀ {ds : List D} {us : List V} {ps : List PyData}, Reps T F φ ds us → allOf pyF ds = some ps → Flats us ps
  | [], _, _, r, e => by
    rw [show _ = [] from r]
    cases e
    exact .nil
  | d :: ds, _, _, r, e => by
    obtain ⟨u, us, rfl, r1, r2⟩ := r
    obtain ⟨p, ps, e1, e2, rfl⟩ := allOf_cons e
    exact .cons (flat_of r1 e1) (flats_of r2 e2)
theorem Flat1.reads {h : Heap} {v : V} {p : PyData} {u : Value} (f : Flat1 v p) (r : RelV v u) : Reads h u p [] := by
  cases f with
  | non => rw [show u = .none from r]; exact .none
  | bl b => rw [show u = .bool b from r]; exact .bool b
  | int i => obtain ⟨t, rfl⟩ := r; exact .int i t
  | str x => obtain ⟨t, rfl⟩ := r; exact .str x t
theorem key_reads {h : Heap} {k : Key} {u : Value} (z : keyIs k u = true) : Reads h u (pyK k) [] := by
  rcases keyIs_shape z with ⟨i, t, rfl, rfl⟩ | ⟨x, t, rfl, rfl⟩
  · exact .int i t
  · exact .str x t
theorem dict_reads {P : Program} {w : World} {h : Heap} : ∀ {ks : List Key} {us : List V} {ps : List PyData} {vs : List (Key × Value)} {es : List DictEntry}, us.length = ks.length → Flats us ps → KV (ks.zip us) vs → Pairs (mixKind P w) es vs →
    ReadsAll h (es.map (·.key)) (((ks.map pyK).zip ps).map (·.1)) [] ∧ ReadsAll h (es.map (·.val)) (((ks.map pyK).zip ps).map (·.2)) []
  | [], us, ps, vs, es, l, f, kv, pr => by
    have := List.eq_nil_of_length_eq_zero l
    subst this
    cases f
    cases kv
    cases pr
    exact ⟨.nil, .nil⟩
  | k :: ks, [], _, _, _, l, _, _, _ => by cases l
  | k :: ks, u :: us, ps, vs, es, l, f, kv, pr => by
    cases f with
    | cons f1 f2 =>
    cases kv with
    | @cons a b as bs k1 k2 =>
    cases pr with
    | @cons en _ es2 _ p1 p2 p3 =>
    obtain ⟨z1, z2⟩ := dict_reads (by simpa using l) f2 k2 p3
    obtain ⟨y1, y2⟩ := k1
    have y1 : k = b.1 := y1
    have y2 : RelV u b.2 := y2
    refine ⟨?_, ?_⟩
    · have q : keyIs k en.key = true := by rw [y1]; exact p1
      exact ReadsAll.cons (as := []) (bs := []) (key_reads q) z1
    · have q := f1.reads (h := h) y2
      rw [← p2] at q
      exact ReadsAll.cons (as := []) (bs := []) q z2
section
variable {X : Cx}
open PySem.Spec PyProof.Rows in
theorem call_reprD (g : X.A.guards = some []) (hu : X.A.units + 64 < cLine) : CallR X (.builtin "repr") (fun xs H Q => (∃ (v : V) (p : PyData), xs = [v] ∧ Dp X.K H v p ∧ p.showable = true ∧ p.hasDict = false ∧ p.depth ≤ 60 ∧ p.shown.length ≤ sizeLine ∧ Q (.str p.shown) H) ∨
    ∃ (a : Addr) (ks : List Key) (us : List V) (ps : List PyData), xs = [.ref a] ∧ H a = some (.dK (ks.zip us)) ∧ us.length = ks.length ∧ Flats us ps ∧ (PyData.dict ((ks.map pyK).zip ps)).showable = true ∧ (PyData.dict ((ks.map pyK).zip ps)).depth ≤ 60 ∧ (PyData.dict ((ks.map pyK).zip ps)).shown.length ≤ sizeLine ∧ Q (.str (PyData.dict ((ks.map pyK).zip ps)).shown) H) := by
  intro pins s σ H xs us Q I r h
  rcases h with ⟨v, p, rfl, dp, sh, nd, dep, sz, q⟩ | ⟨a, ks, vs, ps, rfl, hd, hl, fl, sh, dep, sz, q⟩
  · obtain ⟨u, rfl, rx⟩ := vals1 r
    have kept : ∀ (y : Str), Q (.str y) H → ∀ (h2 : Heap) (t : Tok) (tk : Nat), (∀ b o, s.heap.get? b = some o → h2.get? b = some o) → EP X pins σ Q (.str y t) { s with heap := h2, toks := tk } := fun y qy h2 t tk k => ⟨.str y, H, I.kept k, ⟨_, rfl⟩, qy⟩
    cases dp with
    | non =>
      rw [show u = Value.none from rx]
      exact PySem.P.repr_of_none (kept _ q s.heap _ _ fun _ _ z => z)
    | bl b =>
      rw [show u = Value.bool b from rx]
      exact PySem.P.repr_of_bool (kept _ q s.heap _ _ fun _ _ z => z)
    | int i =>
      obtain ⟨t, rfl⟩ := rx
      exact PySem.P.repr_of_int (of_decide_eq_true sh) (kept _ q s.heap _ _ fun _ _ z => z)
    | str x =>
      obtain ⟨t, rfl⟩ := rx
      exact PySem.P.repr_of_str (kept _ q s.heap _ _ fun _ _ z => z) sz
    | lst hs ha =>
      obtain ⟨as, rd⟩ := Dp.reads I _ _ _ (.lst hs ha) rx
      rw [show u = _ from rx] at rd ⊢
      exact repr_of_reads' rd sh (PyData.noDict_hsm nd) g (by omega) (fun _ _ z => z) (fun h2 t tk k => kept _ q h2 t tk k) sz
    | tup hs ha =>
      obtain ⟨as, rd⟩ := Dp.reads I _ _ _ (.tup hs ha) rx
      rw [show u = _ from rx] at rd ⊢
      exact repr_of_reads' rd sh (PyData.noDict_hsm nd) g (by omega) (fun _ _ z => z) (fun h2 t tk k => kept _ q h2 t tk k) sz
  · obtain ⟨u, rfl, rx⟩ := vals1 r
    rw [show u = _ from rx]
    obtain ⟨_, no, ws, kv, o, es, ep, h1, h2, h3, _, h4, _⟩ := dk_of I.hok hd
    obtain ⟨z1, z2⟩ := dict_reads (h := s.heap) hl fl kv h4
    have rd : Reads s.heap (.ref a) (.dict ((ks.map pyK).zip ps)) (a :: [] ++ []) := .dict h1 h2.1 h3 z1 z2
    refine repr_of_reads' rd sh (fun _ m => ?_) g (by omega) (fun _ _ z => z) (fun h2 t tk k => ⟨.str _, H, I.kept k, ⟨_, rfl⟩, q⟩) sz
    have e : sysModules = a := by simpa using m
    rw [e] at no
    simp at no
theorem oc_repr (g : X.A.guards = some []) (hu : X.A.units + 64 < cLine) : CallOkH X (.builtin "repr") reprG := by
  refine ⟨_, call_reprD g hu, fun c ds vs w Q O rs e fin => ?_⟩
  match ds, rs with
  | [d], rs =>
    obtain ⟨v, r, rfl, rv, rn⟩ := rs
    rw [show r = [] from rn]
    unfold reprG at e
    dsimp only at e
    cases er : reprP c.s.h d with
    | none => rw [er] at e; cases e
    | some y =>
    rw [er] at e
    cases e
    by_cases isd : ∃ ks ds, d = .dK ks ds
    · obtain ⟨ks, ds, rfl⟩ := isd
      have er : (match allOf pyF ds with
        | some ps => if (PyData.dict ((ks.map pyK).zip ps)).showable = true ∧ ks.length = ds.length ∧ (PyData.dict ((ks.map pyK).zip ps)).depth ≤ 60 ∧ (PyData.dict ((ks.map pyK).zip ps)).shown.length ≤ sizeLine then some (PyData.dict ((ks.map pyK).zip ps)).shown else none
        | none => none) = some y := er
      cases ea : allOf pyF ds with
      | none => rw [ea] at er; cases er
      | some ps =>
        rw [ea] at er
        dsimp only at er
        split at er
        · rename_i q
          cases er
          have up : Rep (tx X) c.H c.φ (.dK ks ds) v := rv.up O
          obtain ⟨a, us, rfl, hl, ha, rr⟩ := up
          exact .inr ⟨a, ks, us, ps, rfl, ha, hl, flats_of rr ea, q.1, q.2.2.1, q.2.2.2, fin.sc O (v := .str _) rfl⟩
        · cases er
    · have er : (match pyH c.s.h 50 d with
        | some p => if p.showable = true ∧ p.hasDict = false ∧ p.depth ≤ 60 ∧ p.shown.length ≤ sizeLine then some p.shown else none
        | none => none) = some y := by
        rw [← er]
        cases d <;> first | rfl | exact absurd ⟨_, _, rfl⟩ isd
      cases ep : pyH c.s.h 50 d with
      | none => rw [ep] at er; cases er
      | some p =>
        rw [ep] at er
        dsimp only at er
        split at er
        · rename_i q
          cases er
          exact .inl ⟨v, p, rfl, dp_of O 50 c.H (fun _ _ z => z) d v p (rv.up O) ep, q.1, q.2.1, q.2.2.1, q.2.2.2, fin.sc O (v := .str _) rfl⟩
        · cases er
  | [], _ => cases e
  | _ :: _ :: _, _ => cases e
end
end Z

namespace Z
open PySem L2

/-! ## x, *xs = a tuple -/
section
open PySem.Spec PyProof.Rows PySem.W
variable {X : Cx}
theorem star_items {s : Shared} {a : Addr} {x : Value} {xs : List Value} {Q : List Value → Shared → Prop} {E : Value → Shared → Prop} (hh : X.A.handled = none) (t : IsTup s.heap a (x :: xs).toArray) (z : xs.length ≤ 16000)
    (q : ∀ (g : Heap) (tk : Nat), (∀ b o, s.heap.get? b = some o → g.get? b = some o) → Q [x, .ref g.objs.size] { s with heap := g.push { cls := .type "list", data := .seq xs.toArray }, toks := tk }) :
    wpAny (model X.prog X.w) X.A (unpackItems (.ref a) 2 (some 1)) Q E s := by
  have sz : (x :: xs).toArray.size = xs.length + 1 := by simp
  have t0 := t
  obtain ⟨oa, ga, _⟩ := t0
  have below : a < s.heap.objs.size := Heap.lt_size ga
  have apart : a ≠ s.heap.objs.size := Nat.ne_of_lt below
  unfold unpackItems notIterableAtAll
  refine wpAny_bind (wpAny_bind (wpAny_specialOf t.typeIs slot_tuple_iter.lookup (wpAny_pure ?_)))
  rw [if_neg Bool.false_ne_true]
  refine wpAny_bind (wpAny_holding (iter_tuple t (wpAny_bind (wpAny_holding (draw_tuple apart 1 0 _ _ ⟨_, Heap.get?_push_size _ rfl, rfl, rfl⟩ (t.push _) (by omega) fun g1 it1 same => ?_)))))
  have t1 : IsTup g1 a (x :: xs).toArray := (t.push _).extBut same.extBut apart
  have it2 := it1
  obtain ⟨oi, gi, _⟩ := it2
  have t2 := t1
  obtain ⟨ob, gb, _⟩ := t2
  refine wpAny_bind (wpAny_holding (kun_collect (s := { s with heap := g1 }) (k := 1) (T := "tuple_iterator") (.inr (.inr (.inr rfl))) (Walks.tuple (A := X.A.in1) hh s.heap.objs.size a apart _) (fun _ u st => st.1.typeIs) (by omega) ⟨it1, t1⟩ (Heap.lt_size gi) (Heap.lt_size gb) (fun g2 tk kp => ?_) (by rw [sizeLine_eq]; omega)))
  have keep : ∀ b o, s.heap.get? b = some o → g2.get? b = some o := fun b o e => kp b o (Nat.ne_of_lt (Heap.lt_size e)) (same.extBut b o (Nat.ne_of_lt (Heap.lt_size e)) (Heap.get?_push_of_some _ e))
  show wpAny _ _ (newList (xs.take (xs.length - 0)) >>= fun d => pure ([x] ++ [d] ++ xs.drop (xs.length - 0))) _ _ _
  rw [Nat.sub_zero, List.take_length, List.drop_length]
  exact wpAny_bind (wpAny_newList (wpAny_pure (q g2 tk keep)) (by rw [sizeLine_eq]; omega))
def gStar (K : PySem.W.Frag) (i j : Nat) : TG := fun v σ H Q => ∃ a x us, v = .ref a ∧ SqT K H a (x :: us) ∧ us.length ≤ 16000 ∧ ∀ p, H p = none → Q ((σ.set i (some x)).set j (some (.ref p))) (upd H p (.lst us))
theorem pg_star (i j : Nat) {x y : Str} {k : Nat} {p1 p2 pos : Pos} {tg : List Expr} (hc : X.calm = true) (hN : X.N.Nodup) (hi : X.N[i]? = some x) (hx : Loc X.env.scope x) (hf : X.fn x = true ∨ X.env.scope.names.lookup x = some .local)
    (hj : X.N[j]? = some y) (hy : Loc X.env.scope y) (hg : X.fn y = true ∨ X.env.scope.names.lookup y = some .local) (h2 : (assignEach tg X.env).length = 2) (h1 : (assignEach tg X.env).findIdx? (·.1) = some 1)
    (hs : (assignEach tg X.env).map (·.2) = [assign (.Name x p1) X.env, assign (.Name y p2) X.env]) : PG X (.Tuple tg k pos) (gStar X.K i j) := by
  refine ⟨fun pins s σ H v u Q I r hw => ?_⟩
  obtain ⟨a, w, us, e1, hq, hl, hw⟩ := hw
  subst e1
  cases r
  obtain ⟨its, rv, ht, hz⟩ := I.tuple hq
  cases rv with
  | @cons _ v1 _ vs r1 rr =>
  rw [assign_Tuple]
  refine wpAny_bind (wpAny_standAt ?_)
  unfold unpack
  rw [h2, h1, hs]
  have lv : vs.length = us.length := rr.length.symm
  refine wpAny_bind (wpAny_holding (star_items (I.ok.hd hc) ht (by omega) fun g tk keep => ?_))
  have hn : H g.objs.size = none := (I.hok.kept keep).fresh (Nat.le_refl _)
  have gn : s.heap.get? g.objs.size = none := by
    cases e : s.heap.get? g.objs.size with
    | none => rfl
    | some o => exact absurd (Heap.lt_size (keep _ _ e)) (Nat.lt_irrefl _)
  have I1 : Inv X pins σ (upd H g.objs.size (.lst us)) { s with heap := g.push { cls := .type "list", data := .seq vs.toArray }, toks := tk } := I.laidN (fun b u e => Heap.get?_push_of_some _ (keep b u e)) gn hn ⟨by rw [sizeLine_eq]; omega, vs, 0, rr, Heap.get?_push_size _ rfl⟩
  have a1 : PG X (.Name x p1) (gName i) := pg_name hN hi hx hf
  have a2 : PG X (.Name y p2) (gName j) := pg_name hN hj hy hg
  refine assignInOrder_cons (thn (a1.run pins _ σ _ _ _ (fun σ1 H1 => σ1 = σ.set i (some w) ∧ H1 = upd H g.objs.size (.lst us)) I1 r1 ⟨rfl, rfl⟩) fun _ s1 ⟨σ1, H1, J1, e1, e2⟩ => ?_)
  subst e1 e2
  refine assignInOrder_cons (thn (a2.run pins s1 _ _ (.ref g.objs.size) _ Q J1 rfl (hw _ hn)) fun _ s2 q => ?_)
  exact assignInOrder_nil q
def starM (i j : Nat) (f : M W) : M Fl := bnd f fun w => bnd (toD w) fun d => match d with
  | .tup (x :: r) | .ktp (x :: r) => if r.length ≤ 16000 then bnd (stM (tg1 i x)) fun _ => setM j (.new (.lst r)) else fun _ => .stuck
  | _ => fun _ => .stuck
theorem star_go {c0 c2 : Cf} {x : D} {r : List D} {i j : Nat} {v : V} {D0 : Ends} {E : WX} (O2 : Ok (tx X) c2) (x2 : Ext c0 c2) (h : ∃ a us, v = .ref a ∧ SqT X.K c2.F a us ∧ Reps (tx X) c2.F c2.φ (x :: r) us)
    (p : PostS (tx X) c0 ((if r.length ≤ 16000 then bnd (stM (tg1 i x)) fun _ => setM j (.new (.lst r)) else fun _ => Out.stuck) c2.s) D0 E) : gStar X.K i j v c2.σ c2.H D0.nx := by
  obtain ⟨a, us, rfl, ht, rr⟩ := h
  obtain ⟨u, us, rfl, r1, r2⟩ := rr
  have ll : us.length = r.length := r2.len
  split at p
  · rename_i hz
    refine ⟨a, u, us, rfl, SqT.le O2.le ht, by omega, fun q hq => ?_⟩
    have p := p
    unfold Z.bnd Z.stM tg1 at p
    by_cases hi : i < c2.s.e.length
    · rw [if_pos hi] at p
      obtain ⟨O3, x3⟩ := set_fz O2 hi r1
      obtain ⟨O4, x4⟩ := O3.alloc (p := q) (o := .lst us) hq
      have x5 := (x2.trans x3).trans x4
      refine post_set (c := ⟨c2.F, c2.φ, { c2.s with e := c2.s.e.set i (.fz x) }, c2.σ.set i (some u), upd c2.H q (.lst us)⟩) O4 x5 ?_ p
      refine RepW.early ((x2.trans x3)) ?_
      have nm := Mu.none O3 hq
      exact ⟨q, rfl, ⟨us, upd_same, r2⟩, F_none (c := c2) O2 hq, nm, hq⟩
    · rw [if_neg hi] at p
      exact p.elim
  · exact p.elim
variable {Wx : WX} {e : Expr} {fa : M W}
theorem ss_star (i j : Nat) {x y : Str} {k : Nat} {p p1 p2 pos : Pos} {tg : List Expr} (he : SE X Wx e fa) (hN : X.N.Nodup) (hi : X.N[i]? = some x := by rfl) (hx : Loc X.env.scope x := by first | exact Or.inl rfl | exact Or.inr rfl) (hf : X.fn x = true ∨ X.env.scope.names.lookup x = some .local := by first | exact .inl rfl | exact .inr rfl | assumption)
    (hj : X.N[j]? = some y := by rfl) (hy : Loc X.env.scope y := by first | exact Or.inl rfl | exact Or.inr rfl) (hg : X.fn y = true ∨ X.env.scope.names.lookup y = some .local := by first | exact .inl rfl | exact .inr rfl | assumption)
    (hc : X.calm = true := by rfl) (h2 : (assignEach tg X.env).length = 2 := by rfl) (h3 : (assignEach tg X.env).findIdx? (·.1) = some 1 := by rfl)
    (h4 : (assignEach tg X.env).map (·.2) = [assign (.Name x p1) X.env, assign (.Name y p2) X.env] := by rfl)
    (hs : swapsWithSole [.Tuple tg k p] e pos.line X.env = pure false := by rfl) (hw : swappedStores [.Tuple tg k p] e X.env = pure none := by rfl)
    (h1 : (assignEach [.Tuple tg k p] X.env).map (·.2) = [assign (.Tuple tg k p) X.env] := by rfl) : SS X Wx (.Assign [.Tuple tg k p] e pos) (starM i j fa) := ⟨PS.imp (ps_asg he.pe (pg_star i j hc hN hi hx hf hj hy hg h2 h3 h4) hs hw h1) fun D σ H ⟨c, e1, e2, O, p⟩ => by
  subst e1 e2
  refine ⟨c, rfl, rfl, O, (PostS.bnd p).imp fun c1 w hσ O1 x p1 v r => ?_⟩
  obtain ⟨c2, d, h1, h2, O2, x2, r2, p2⟩ := p1.toD O1 x r
  rw [← hσ, ← h1, ← h2]
  cases d with
  | tup ds =>
    cases ds with
    | nil => exact p2.elim
    | cons a ds =>
      obtain ⟨b, us, e, z, rr⟩ := r2
      exact star_go O2 x2 ⟨b, us, e, .of z, rr⟩ p2
  | ktp ds =>
    cases ds with
    | nil => exact p2.elim
    | cons a ds =>
      obtain ⟨b, us, e, z, rr⟩ := r2
      exact star_go O2 x2 ⟨b, us, e, (z.elim (fun z => .of z) fun z => .inr z), rr⟩ p2
  | _ => exact p2.elim⟩
end
end Z

namespace Z
open PySem L2

/-! ## NAME = {"a": 1, ..} at the top of the module: y in NAME, NAME[y] -/
def DTab (K : PySem.W.Frag) (w : World) (mg : Str → Option Value) (x : Str) (tbl : List (Str × Int)) : Prop :=
  ∃ a es n, mg x = some (.ref a) ∧ KDict K w a es n ∧ ∀ z : Str, match tbl.lookup z with
    | some i => ∃ t, PySem.W.nsIn K a z = some (some (.int i t))
    | none => PySem.W.nsIn K a z = some none
theorem DTab.cls {K : PySem.W.Frag} {w : World} {mg : Str → Option Value} {x : Str} {tbl : List (Str × Int)} (h : DTab K w mg x tbl) : ∃ A, mg x = some (.ref A) := by
  obtain ⟨a, es, n, h1, _⟩ := h
  exact ⟨a, h1⟩
def tabIn (x : Str) (tbl : List (Str × Int)) : D → D → Option Bool
  | .str z, .cls y => if y = x then some (tbl.lookup z).isSome else none
  | _, _ => none
def tabIx (x : Str) (tbl : List (Str × Int)) : D → D → Option W
  | .cls y, .str z => if y = x then (tbl.lookup z).map (fun i => .val (.int i)) else none
  | _, _ => none
section
variable {X : Cx} {Wx : WX} {a b : Expr} {fa fb : M W} {pos : Pos} {x : Str} {tbl : List (Str × Int)}
theorem co_tab (h : DTab X.K X.w X.mg x tbl) : CmpOk X (compareOp .In) (tabIn x tbl) := by
  obtain ⟨a, es, n, hm, kd, hz⟩ := h
  refine ⟨_, op_in_kd kd, fun c d1 d2 v1 v2 b Q O r1 r2 q f => ?_⟩
  unfold tabIn at q
  split at q
  · rename_i z y
    split at q
    · rename_i e
      cases q
      obtain ⟨A, e1, rfl⟩ := r2.up O
      have e1 : X.mg y = some (.ref A) := e1
      rw [e, hm] at e1
      cases e1
      rw [r1.str]
      have k := hz z
      cases e2 : tbl.lookup z with
      | some i =>
        rw [e2] at k f
        obtain ⟨t, k⟩ := k
        exact ⟨z, _, rfl, rfl, k, f⟩
      | none =>
        rw [e2] at k f
        exact ⟨z, _, rfl, rfl, k, f⟩
    · cases q
  · cases q
theorem se_tabIx (h : DTab X.K X.w X.mg x tbl) (ha : SE X Wx a fa) (hb : SE X Wx b fb) (hs : PlainIx b := by exact fun _ _ => rfl) : SE X Wx (.Subscript a b pos) (opM (tabIx x tbl) fa fb) := by
  obtain ⟨A, es, n, hm, kd, hz⟩ := h
  refine ⟨PE.imp (pe_ix ix_kdict ha.pe hb.pe hs) fun σ H Q h => two_of (fun c d1 d2 v1 v2 w Q O r1 r2 q f => ?_) h⟩
  unfold tabIx at q
  split at q
  · rename_i y z
    split at q
    · rename_i e
      obtain ⟨B, e1, rfl⟩ := r1.up O
      have e1 : X.mg y = some (.ref B) := e1
      rw [e, hm] at e1
      cases e1
      rw [r2.str]
      have k := hz z
      cases e2 : tbl.lookup z with
      | some i =>
        rw [e2] at k q
        cases q
        obtain ⟨t, k⟩ := k
        exact ⟨A, z, .int i, rfl, rfl, ⟨es, n, _, kd.at_, kd.lit, k, ⟨t, rfl⟩⟩, f.sc O rfl⟩
      | none =>
        rw [e2] at q
        cases q
    · cases q
  · cases q
end
inductive IntEs : List (Str × Int) → List DictEntry → Prop
  | nil : IntEs [] []
  | cons {x : Str} {i hs : Int} {t u : Tok} {tbl : List (Str × Int)} {es : List DictEntry} : IntEs tbl es → IntEs ((x, i) :: tbl) (⟨hs, .str x t, .int i u⟩ :: es)
theorem IntEs.find {tbl : List (Str × Int)} {es : List DictEntry} (h : IntEs tbl es) (z : Str) : es.any (·.refKey) = false ∧ match tbl.lookup z with
    | some i => ∃ e t, es.find? (·.key.isStr z) = some e ∧ e.val = .int i t
    | none => es.find? (·.key.isStr z) = none := by
  induction h with
  | nil => exact ⟨rfl, rfl⟩
  | @cons x i hs t u tbl es h ih =>
    obtain ⟨i1, i2⟩ := ih
    refine ⟨by simpa [DictEntry.refKey] using i1, ?_⟩
    rw [List.lookup_cons, List.find?_cons]
    by_cases e : x = z
    · subst e
      simp [Value.isStr]
    · have e1 : (z == x) = false := by simpa using fun q => e q.symm
      have e2 : (Value.str x t).isStr z = false := by simpa [Value.isStr] using e
      rw [e1]
      simp only [e2]
      exact i2
theorem dtab_mk {K : PySem.W.Frag} {w : World} {mg : Str → Option Value} {h : Heap} {x : Str} {A : Addr} {es : List DictEntry} {n : Nat} {tbl : List (Str × Int)} (X : K.In h) (G : h.Ns mainGlobals mg) (a : PySem.W.nsIn K mainGlobals x = some (some (.ref A)))
    (l : K.lookup A = some ⟨.type "dict", none, .dict es.toArray n, #[]⟩) (k : PySem.W.KeysLit w.params es) (r : IntEs tbl es) (o : (A == sysModules) = false) : DTab K w mg x tbl := by
  refine ⟨A, es.toArray, n, PySem.W.mg_of X G a, ⟨l, by simpa using k, o⟩, fun z => ?_⟩
  obtain ⟨f1, f2⟩ := r.find z
  unfold PySem.W.nsIn
  rw [l]
  dsimp only
  cases e : tbl.lookup z with
  | some i =>
    rw [e] at f2
    obtain ⟨en, t, f2, f3⟩ := f2
    exact ⟨t, by rw [f2]; simp [f3]⟩
  | none =>
    rw [e] at f2
    show (match es.find? _ with | some e => _ | none => _) = _
    rw [f2]
    simp only [f1]
    rfl
end Z

namespace Z
open PySem L2

/-! ## t[::-1] -/
section
open PySem.Spec PyProof.Rows
variable {prog : Program} {w : World} {A : Around} {E : Value → Shared → Prop} {s : Shared}
theorem rev_places (n : Nat) : Builtin.Slice.slicePlaces ((n : Int) - 1) (-1) (-1) = n := by
  have h1 : ¬ ((-1 : Int) > 0) := by decide
  unfold Builtin.Slice.slicePlaces
  simp only [h1, if_false]
  rw [show (-(-1 : Int)) = 1 by decide, Int.ediv_one]
  split <;> omega
theorem rev_adjust (n : Nat) : Builtin.Slice.sliceAdjust none none (-1) (n : Int) = ((n : Int) - 1, -1) := by
  unfold Builtin.Slice.sliceAdjust
  simp
theorem rev_pick (xs : Array Value) : ((List.range xs.size).filterMap fun (k : Nat) => xs[((xs.size : Int) - 1 + (k : Int) * (-1)).toNat]?) = xs.toList.reverse := by
  have e : ∀ k ∈ List.range xs.size, ((xs.size : Int) - 1 + (k : Int) * (-1)).toNat = xs.size - 1 - k := fun k hk => by
    have := List.mem_range.mp hk
    omega
  have e2 : ((List.range xs.size).filterMap fun (k : Nat) => xs[((xs.size : Int) - 1 + (k : Int) * (-1)).toNat]?) = ((List.range xs.size).map fun k => xs.size - 1 - k).filterMap (xs[·]?) := by
    rw [List.filterMap_map]
    have cg : ∀ (l : List Nat) (f g : Nat → Option Value), (∀ k ∈ l, f k = g k) → l.filterMap f = l.filterMap g := fun l f g h => by
      induction l with
      | nil => rfl
      | cons a l ih =>
        rw [List.filterMap_cons, List.filterMap_cons, h a List.mem_cons_self, ih fun k hk => h k (List.mem_cons_of_mem _ hk)]
    exact cg _ _ _ fun k hk => congrArg (fun (i : Nat) => xs[i]?) (e k hk)
  rw [e2, PySem.W.krv_range, List.filterMap_reverse, PySem.W.krv_all]
theorem rev_applied {sl : Addr} {n : Nat} {vk : Value} {Q : Int × Int × Nat → Shared → Prop} (hs : s.heap.IsSliceOf sl .none .none vk) (pk : IsPart vk (some (-1)))
    (h : Q ((n : Int) - 1, -1, n) s) : wpAny (model prog w) A (Builtin.Slice.sliceApplied (.ref sl) (pure (n : Int))) Q E s := by
  obtain ⟨os, g1, _, g2⟩ := hs
  unfold Builtin.Slice.sliceApplied Builtin.Slice.sliceFields
  refine wpAny_bind (wpAny_bind (wpAny_field g1 g2 (x := .none) rfl (wpAny_bind (wpAny_field g1 g2 (x := .none) rfl (wpAny_bind (wpAny_field g1 g2 (x := vk) rfl (wpAny_pure ?_)))))))
  refine wpAny_bind (HT.slicePart_ pk ?_)
  show wpAny _ _ (if ((-1 : Int) == 0) = true then _ else _) _ _ s
  rw [if_neg (by decide)]
  refine wpAny_bind (slicePart_none (wpAny_bind (slicePart_none (wpAny_bind (wpAny_pure ?_)))))
  show wpAny _ _ (match Builtin.Slice.sliceAdjust none none (-1) (n : Int) with | (lo, hi) => pure (lo, (-1 : Int), Builtin.Slice.slicePlaces lo hi (-1))) _ _ s
  rw [rev_adjust n]
  show wpAny _ _ (pure ((n : Int) - 1, (-1 : Int), Builtin.Slice.slicePlaces ((n : Int) - 1) (-1) (-1))) _ _ s
  rw [rev_places]
  exact wpAny_pure h
theorem rev_item {t sl : Addr} {items : Array Value} {vk : Value} {Q : Value → Shared → Prop} (ht : IsTup s.heap t items) (hs : s.heap.IsSliceOf sl .none .none vk) (pk : IsPart vk (some (-1)))
    (h : Q (.ref s.heap.objs.size) { s with heap := s.heap.push { cls := .type "tuple", data := .seq items.toList.reverse.toArray } }) (hsz : items.size ≤ sizeLine) : wpAny (model prog w) A (getItem (.ref t) (.ref sl)) Q E s := by
  have fits : sizeOk (.seq items.toList.reverse.toArray) := by
    show items.toList.reverse.toArray.size ≤ sizeLine
    simpa using hsz
  obtain ⟨os, g1, g3, g2⟩ := id hs
  have ty : s.TypeIs (.ref sl) "slice" := ⟨os, g1, g3⟩
  unfold getItem
  try with_reducible refine wpAny_holding ?_
  first | refine wpAny_bind (wpAny_pure ?_) | skip
  refine wpAny_bind (wpAny_sequenceKey ht.typeIs (by decide) ?_)
  refine wpAny_bind (wpAny_callSpecial?_slot (name := Str.ofString "__getitem__") ht.typeIs PyProof.Rows.slot_tuple_getitem (wpAny_call_entry PyProof.Rows.slot_tuple_getitem ht.typeIs entry_tuple_getitem ?_ (args_tuple_getitem _ _)))
  show wpAny _ _ (Builtin.Tuple.tupleItemsOf (.ref t) >>= _) _ _ s
  refine wpAny_bind (tupleItemsOf_ ht (wpAny_bind (wpAny_typeOf ty ?_)))
  rw [if_pos (by decide)]
  refine wpAny_bind (rev_applied hs pk ?_)
  have no : ¬ ((((items.size : Int) - 1) == 0 && (-1 : Int) == 1 && items.size == items.size) = true) := by
    simp
  show wpAny _ _ (if (((items.size : Int) - 1) == 0 && (-1 : Int) == 1 && items.size == items.size) = true then _ else _) _ _ s
  rw [if_neg no, rev_pick]
  first
    | exact wpAny_bind (m := Builtin.Tuple.tupleExact _) (wpAny_newObj_type (wpAny_pure ⟨_, rfl, wpAny_pure h⟩) fits)
    | exact wpAny_bind (m := Builtin.Tuple.tupleExact _) (wpAny_newObj_type (wpAny_bind (wpAny_pure (wpAny_pure ⟨_, rfl, wpAny_pure h⟩))) fits)
    | exact wpAny_bind (wpAny_bind (m := Builtin.Tuple.tupleExact _) (wpAny_newObj_type (wpAny_pure (wpAny_pure ⟨_, rfl, wpAny_pure h⟩)) fits))
    | exact wpAny_bind (wpAny_bind (m := Builtin.Tuple.tupleExact _) (wpAny_newObj_type (wpAny_pure ⟨_, rfl, wpAny_pure h⟩) fits))
end
section
open PySem.Spec PyProof.Rows
variable {X : Cx} {Wx : WX} {e : Expr} {te : TE} {fa : M W} {k : Nat} {p1 p2 p3 pos : Pos}
def tRevA (K : PySem.W.Frag) (te : TE) : TE := fun σ H Q => te σ H fun x H1 => ∃ a xs, x = .ref a ∧ ((SqL K H1 a xs ∧ ∀ p, H1 p = none → Q (.ref p) (upd H1 p (.lst xs.reverse))) ∨ (SqT K H1 a xs ∧ ∀ p, H1 p = none → Q (.ref p) (upd H1 p (.tup xs.reverse))))
theorem pe_revA (he : PE X e te) : PE X (.Subscript e (.Slice none none (some (.UnaryOp .USub (.Constant (.int 1) k p1) p2)) p3) pos) (tRevA X.K te) := by
  refine ⟨fun pins s σ H Q I h => Subscript_ (thn (he.run pins s σ H _ I h) fun v s1 ⟨x, H1, I1, r1, q1⟩ => ?_)⟩
  obtain ⟨a, xs, rfl, q1⟩ := q1
  cases r1
  have step : PO X (some (.UnaryOp .USub (.Constant (.int 1) k p1) p2)) (tPart (tUn (rU fun i => .int (-i)) (tC (.int 1)))) := po_some (pe_un un_neg pe_int)
  refine wpAny_Slice (thn (po_none.run pins s1 σ H1 (fun o H2 => o = none ∧ H2 = H1) I1 ⟨rfl, rfl⟩) fun vl s2 ⟨l, H2, I2, pl, el, e2⟩ => ?_)
  subst el e2
  refine thn (po_none.run pins s2 σ H2 (fun o H3 => o = none ∧ H3 = H2) I2 ⟨rfl, rfl⟩) fun vu s3 ⟨u, H3, I3, pu, eu, e3⟩ => ?_
  subst eu e3
  refine thn (step.run pins s3 σ H3 (fun o H4 => o = some (-1) ∧ H4 = H3) I3 ⟨1, rfl, -1, rfl, rfl, rfl⟩) fun vs s4 ⟨o, H4, I4, ps, eo, e4⟩ => ?_
  subst eo e4
  cases pl
  cases pu
  have I5 : Inv X pins σ H4 { s4 with heap := s4.heap.push { cls := .type "slice", data := .fields #[.none, .none, vs] } } := I4.kept (t' := s4.toks) fun b ob q => Heap.get?_push_of_some _ q
  show wpAny (model X.prog X.w) X.A (subscriptTail e (.Slice none none (some (.UnaryOp .USub (.Constant (.int 1) k p1) p2)) p3) (.ref a) (.ref s4.heap.objs.size)) (EP X pins σ Q) X.xe { s4 with heap := s4.heap.push { cls := .type "slice", data := .fields #[.none, .none, vs] } }
  rcases q1 with ⟨hx, q⟩ | ⟨hx, q⟩
  · obtain ⟨its, r, ht, hz⟩ := I5.list hx
    have len := r.length
    refine tail_any (ops := [.ref a, .ref s4.heap.objs.size]) ht.isList.typeIs PySem.slot_list_getitem.lookup (wpAny_getItem_list_slice ht.isList (Heap.IsSliceOf.new _ .none .none vs) .none .none ps (by decide) ?_ (by rw [List.size_toArray]; omega)) (by with_unfolding_all rfl)
    rw [PySem.W.krv_pick]
    exact ⟨.ref _, _, I5.laid (t' := s4.toks) (o := .lst xs.reverse) (fun b ob q => Heap.get?_push_of_some _ q) (Nat.le_refl _) ⟨by rw [List.length_reverse]; exact hz, _, 0, r.reverse, Heap.get?_push_size _ rfl⟩, rfl, q _ (I5.hok.fresh (Nat.le_refl _))⟩
  · obtain ⟨its, r, ht, hz⟩ := I5.tuple hx
    have len := r.length
    refine tail_any (ops := [.ref a, .ref s4.heap.objs.size]) ht.typeIs PyProof.Rows.slot_tuple_getitem.lookup (rev_item ht (Heap.IsSliceOf.new _ .none .none vs) ps ?_ (by rw [List.size_toArray]; omega)) (by with_unfolding_all rfl)
    exact ⟨.ref _, _, I5.laid (t' := s4.toks) (o := .tup xs.reverse) (fun b ob q => Heap.get?_push_of_some _ q) (Nat.le_refl _) ⟨by rw [List.length_reverse]; exact hz, _, r.reverse, IsTup.new _ _⟩, rfl, q _ (I5.hok.fresh (Nat.le_refl _))⟩
def revG (d : D) : Option W := match d with
  | .tup ds => some (.val (.tup ds.reverse))
  | _ => match lstOf d with
    | some ds => some (.new (.lst ds.reverse))
    | none => none
def revM (fa : M W) : M W := bnd fa fun x => bnd (view x) fun d => opt (revG d)
theorem Reps.rev {T : Tx} {F : Hp} {φ : List Addr} : ∀ {ds : List D} {us : List V}, Reps T F φ ds us → Reps T F φ ds.reverse us.reverse
  | [], us, r => by rw [show us = [] from r]; rfl
  | d :: ds, us, r => by
    obtain ⟨u, us, rfl, r1, r2⟩ := r
    rw [List.reverse_cons, List.reverse_cons]
    exact (Reps.rev r2).append ⟨u, [], rfl, r1, rfl⟩
theorem se_rev (ha : SE X Wx e fa) : SE X Wx (.Subscript e (.Slice none none (some (.UnaryOp .USub (.Constant (.int 1) k p1) p2)) p3) pos) (revM fa) := by
  refine ⟨PE.imp (pe_revA ha.pe) fun σ H Q ⟨c, e1, e2, O, p⟩ => ?_⟩
  subst e1 e2
  refine ⟨c, rfl, rfl, O, (Post.bnd2 p (Ext.refl c) rfl).imp fun c1 w hσ1 O1 x1 ⟨_, _, p1⟩ v r1 => ?_⟩
  obtain ⟨d, q, p4⟩ := p1.view O1 x1 hσ1 r1
  obtain ⟨w2, e, p5⟩ := p4.opt1
  have f := p5.fin O1 x1 hσ1
  unfold revG at e
  split at e
  · cases e
    obtain ⟨a, us, rfl, h1, r⟩ := q.tup O1
    exact ⟨a, us, rfl, .inr ⟨.of h1, fun p hp => f.tup O1 r.rev hp⟩⟩
  · split at e
    · cases e
      obtain ⟨a, us, rfl, h1, r⟩ := q.lstOf O1 (by assumption)
      exact ⟨a, us, rfl, .inl ⟨h1, fun p hp => f.lst O1 r.rev hp⟩⟩
    · cases e
def indexG (d : D) (ds : List D) : Option W := match lstOf d, ds with
  | some xs, [.str y] => match allOf strOf xs with
    | some ys => match ys.findIdx? (· == y) with
      | some j => some (.val (.int (j : Nat)))
      | none => none
    | none => none
  | _, _ => none
theorem mo_index : MtOk X "list.index" indexG := ⟨_, mt_index, fun c d ds v vs w Q O r rs q f => by
  unfold indexG at q
  split at q
  · rename_i xs y e0
    obtain ⟨u, rfl, r2⟩ := rs.one
    split at q
    · rename_i ys e2
      split at q
      · rename_i j e3
        cases q
        obtain ⟨a, us, rfl, h1, rr⟩ := r.lstOf O e0
        rw [allOf_str e2] at rr
        rw [rr.strs] at h1
        obtain ⟨hj, h3, h4⟩ := List.findIdx?_eq_some_iff_getElem.mp e3
        refine ⟨a, ys.map V.str, .str y, j, .str ys[j], rfl, by rw [r2.str], h1, rfl, ?_, ?_, ?_, ?_, f.sc O (v := .int _) rfl⟩
        · simp [List.all_map, flatV, Function.comp_def]
        · simp [hj]
        · simpa [eqV] using h3
        · intro m z' hm hz
          have hm' : m < ys.length := by omega
          have : z' = .str ys[m] := by simpa [hm'] using hz.symm
          subst this
          simpa [eqV] using h4 m hm
      · cases q
    · cases q
  · cases q⟩
end
end Z

namespace Z
open PySem L2

/-! ## repr, dicts (with flat values) at any place -/
mutual
inductive Dq (K : PySem.W.Frag) (H : Hp) : V → PyData → Prop
  | flat {v : V} {p : PyData} : Dp K H v p → p.hasDict = false → Dq K H v p
  | dict {a : Addr} {ks : List Key} {us : List V} {ps : List PyData} : H a = some (.dK (ks.zip us)) → us.length = ks.length → Flats us ps → Dq K H (.ref a) (.dict ((ks.map pyK).zip ps))
  | lst {a : Addr} {xs : List V} {ds : List PyData} : SqL K H a xs → DqAll K H xs ds → Dq K H (.ref a) (.list ds)
  | tup {a : Addr} {xs : List V} {ds : List PyData} : SqT K H a xs → DqAll K H xs ds → Dq K H (.ref a) (.tuple ds)
inductive DqAll (K : PySem.W.Frag) (H : Hp) : List V → List PyData → Prop
  | nil : DqAll K H [] []
  | cons {v : V} {vs : List V} {d : PyData} {ds : List PyData} : Dq K H v d → DqAll K H vs ds → DqAll K H (v :: vs) (d :: ds)
end
section
variable {X : Cx} {pins : List (Addr × Obj)} {σ : St} {H : Hp} {s : Shared}
def Rk (P : Program) (w : World) (h : Heap) (u : Value) (d : PyData) : Prop := (∃ as, Reads h u d as) ∧ (d.showable = true → d.shown.length ≤ sizeLine → ∃ bs, ReadAtMost h d.depth bs ∧ ReprK P w bs h d.depth u d.shown)
def RkAll (P : Program) (w : World) (h : Heap) (us : List Value) (ds : List PyData) : Prop := (∃ as, ReadsAll h us ds as) ∧ (PyData.showableAll ds = true → (∀ t ∈ PyData.shownAll ds, t.length ≤ sizeLine) → ∃ bs, ReadAtMost h (PyData.depthAll ds) bs ∧ ReprAllK P w bs h (PyData.depthAll ds) us (PyData.shownAll ds))
theorem dict_at (I : Inv X pins σ H s) {a : Addr} {ks : List Key} {us : List V} {ps : List PyData} (hd : H a = some (.dK (ks.zip us))) (hl : us.length = ks.length) (fl : Flats us ps) :
    Reads s.heap (.ref a) (.dict ((ks.map pyK).zip ps)) (a :: [] ++ []) ∧ ((PyData.dict ((ks.map pyK).zip ps)).hasDict = true → sysModules ∉ (a :: [] ++ [])) := by
  obtain ⟨_, no, ws, kv, o, es, ep, h1, h2, h3, _, h4, _⟩ := dk_of I.hok hd
  obtain ⟨z1, z2⟩ := dict_reads (h := s.heap) hl fl kv h4
  refine ⟨.dict h1 h2.1 h3 z1 z2, fun _ m => ?_⟩
  have e : sysModules = a := by simpa using m
  rw [e] at no
  simp at no
theorem rk_list {P : Program} {w : World} {h : Heap} {a : Addr} {o : Obj} {l : List Value} {n : Nat} {ds : List PyData} (h1 : h.get? a = some o) (h2 : o.cls = .type "list") (h3 : o.data = .seq l.toArray n) (k : RkAll P w h l ds) : Rk P w h (.ref a) (.list ds) := by
  obtain ⟨⟨as, r0⟩, k⟩ := k
  have r : Reads h (.ref a) (.list ds) _ := .list h1 h2 h3 r0
  refine ⟨⟨_, r⟩, fun hs hz => ?_⟩
  have z : (listText (PyData.shownAll ds)).length ≤ sizeLine := by simpa only [PyData.shown] using hz
  obtain ⟨bs, b1, b2⟩ := k (by simpa [PyData.showable] using hs) fun t m => Nat.le_trans (listText_mem_le m) z
  have out : a ∉ bs := not_mem_of_deeper r (by simp only [PyData.depth]; omega) b1
  refine ⟨a :: bs, ReadAtMost.cons r (by simp only [PyData.depth]; omega) b1, ?_⟩
  simp only [PyData.depth, PyData.shown]
  cases l with
  | nil =>
    have r0 : ReadsAll h [] ds _ := r0
    cases r0
    simp only [PyData.shownAll, listText_nil]
    exact ReprK.listEmpty h1 h2 h3
  | cons x l => exact ReprK.list h1 h2 h3 out (by simpa using b2.length_eq) fun i y e => b2.item i y (by simpa using e)
theorem rk_tup {P : Program} {w : World} {h : Heap} {a : Addr} {o : Obj} {l : List Value} {n : Nat} {ds : List PyData} (h1 : h.get? a = some o) (h2 : o.cls = .type "tuple") (h3 : o.data = .seq l.toArray n) (k : RkAll P w h l ds) : Rk P w h (.ref a) (.tuple ds) := by
  obtain ⟨⟨as, r0⟩, k⟩ := k
  have r : Reads h (.ref a) (.tuple ds) _ := .tuple h1 h2 h3 r0
  refine ⟨⟨_, r⟩, fun hs hz => ?_⟩
  have z : (tupleText (PyData.shownAll ds)).length ≤ sizeLine := by simpa only [PyData.shown] using hz
  obtain ⟨bs, b1, b2⟩ := k (by simpa [PyData.showable] using hs) fun t m => Nat.le_trans (tupleText_mem_le m) z
  have out : a ∉ bs := not_mem_of_deeper r (by simp only [PyData.depth]; omega) b1
  refine ⟨a :: bs, ReadAtMost.cons r (by simp only [PyData.depth]; omega) b1, ?_⟩
  simp only [PyData.depth, PyData.shown]
  exact ReprK.tuple h1 h2 h3 out b2
mutual
theorem Dq.rk (I : Inv X pins σ H s) : ∀ (d : PyData) (v : V) (u : Value), Dq X.K H v d → RelV v u → Rk X.prog X.w s.heap u d
  | .none, v, u, h, r => by
    cases h with
    | flat k n =>
      obtain ⟨as, rd⟩ := Dp.reads I _ _ _ k r
      exact ⟨⟨as, rd⟩, fun hs hz => ReprK.of_reads rd hs (PyData.noDict_hsm n) hz⟩
  | .bool b, v, u, h, r => by
    cases h with
    | flat k n =>
      obtain ⟨as, rd⟩ := Dp.reads I _ _ _ k r
      exact ⟨⟨as, rd⟩, fun hs hz => ReprK.of_reads rd hs (PyData.noDict_hsm n) hz⟩
  | .int i, v, u, h, r => by
    cases h with
    | flat k n =>
      obtain ⟨as, rd⟩ := Dp.reads I _ _ _ k r
      exact ⟨⟨as, rd⟩, fun hs hz => ReprK.of_reads rd hs (PyData.noDict_hsm n) hz⟩
  | .str x, v, u, h, r => by
    cases h with
    | flat k n =>
      obtain ⟨as, rd⟩ := Dp.reads I _ _ _ k r
      exact ⟨⟨as, rd⟩, fun hs hz => ReprK.of_reads rd hs (PyData.noDict_hsm n) hz⟩
  | .list ds, v, u, h, r => by
    cases h with
    | flat k n =>
      obtain ⟨as, rd⟩ := Dp.reads I _ _ _ k r
      exact ⟨⟨as, rd⟩, fun hs hz => ReprK.of_reads rd hs (PyData.noDict_hsm n) hz⟩
    | lst hs ha =>
      cases r
      obtain ⟨its, rv, ⟨o, n, ho, hc, _, hd⟩, _⟩ := I.list hs
      exact rk_list ho hc hd (DqAll.rk I ds _ its ha rv)
  | .tuple ds, v, u, h, r => by
    cases h with
    | flat k n =>
      obtain ⟨as, rd⟩ := Dp.reads I _ _ _ k r
      exact ⟨⟨as, rd⟩, fun hs hz => ReprK.of_reads rd hs (PyData.noDict_hsm n) hz⟩
    | tup hs ha =>
      cases r
      obtain ⟨its, rv, ⟨o, ho, hc, n, hd⟩, _⟩ := I.tuple hs
      exact rk_tup ho hc hd (DqAll.rk I ds _ its ha rv)
  | .dict _, v, u, h, r => by
    cases h with
    | flat k n =>
      obtain ⟨as, rd⟩ := Dp.reads I _ _ _ k r
      exact ⟨⟨as, rd⟩, fun hs hz => ReprK.of_reads rd hs (PyData.noDict_hsm n) hz⟩
    | dict hd hl fl =>
      cases r
      obtain ⟨rd, hm⟩ := dict_at I hd hl fl
      exact ⟨⟨_, rd⟩, fun hs hz => ReprK.of_reads rd hs hm hz⟩
theorem DqAll.rk (I : Inv X pins σ H s) : ∀ (ds : List PyData) (vs : List V) (us : List Value), DqAll X.K H vs ds → Vals vs us → RkAll X.prog X.w s.heap us ds
  | [], _, _, h, r => by
    cases h
    cases r
    exact ⟨⟨_, .nil⟩, fun _ _ => ⟨[], (fun _ m => nomatch m), by simp only [PyData.shownAll]; exact .nil⟩⟩
  | d :: ds, _, _, h, r => by
    cases h with
    | cons h1 h2 =>
      cases r with
      | cons r1 r2 =>
        obtain ⟨⟨as, q1⟩, k1⟩ := Dq.rk I d _ _ h1 r1
        obtain ⟨⟨bs, q2⟩, k2⟩ := DqAll.rk I ds _ _ h2 r2
        refine ⟨⟨_, .cons q1 q2⟩, fun hs hz => ?_⟩
        obtain ⟨s1, s2⟩ : d.showable = true ∧ PyData.showableAll ds = true := by simpa [PyData.showableAll] using hs
        obtain ⟨b1, m1, e1⟩ := k1 s1 (hz _ (by simp only [PyData.shownAll]; exact List.mem_cons_self))
        obtain ⟨b2, m2, e2⟩ := k2 s2 fun t ht => hz t (by simp only [PyData.shownAll]; exact List.mem_cons_of_mem _ ht)
        simp only [PyData.depthAll, PyData.shownAll]
        exact ⟨b1 ++ b2, (m1.mono (Nat.le_max_left _ _)).append (m2.mono (Nat.le_max_right _ _)), .cons ((e1.more fun b hb => List.mem_append_left _ hb).level_le (Nat.le_max_left _ _)) (e2.more_le (fun b hb => List.mem_append_right _ hb) (Nat.le_max_right _ _))⟩
end
open PySem.Spec PyProof.Rows in
theorem call_reprQ (g : X.A.guards = some []) (hu : X.A.units + 64 < cLine) : CallR X (.builtin "repr") (fun xs H Q => ∃ (v : V) (p : PyData), xs = [v] ∧ Dq X.K H v p ∧ p.showable = true ∧ p.depth ≤ 60 ∧ p.shown.length ≤ sizeLine ∧ Q (.str p.shown) H) := by
  intro pins s σ H xs us Q I r h
  obtain ⟨v, p, rfl, dq, sh, dep, sz, q⟩ := h
  cases dq with
  | flat k n => exact call_reprD g hu pins s σ H _ _ Q I r (.inl ⟨v, p, rfl, k, sh, n, dep, sz, q⟩)
  | dict hd hl fl => exact call_reprD g hu pins s σ H _ _ Q I r (.inr ⟨_, _, _, _, rfl, hd, hl, fl, sh, dep, sz, q⟩)
  | @lst a xs ds hs ha =>
    obtain ⟨u, rfl, rx⟩ := vals1 r
    rw [show u = _ from rx]
    obtain ⟨its, rv, ⟨o, n, ho, hc, hdn, hd⟩, _⟩ := I.list hs
    obtain ⟨⟨as, rd⟩, k⟩ := DqAll.rk I ds _ its ha rv
    have z : (listText (PyData.shownAll ds)).length ≤ sizeLine := by simpa only [PyData.shown] using sz
    have dep : PyData.depthAll ds + 1 ≤ 60 := by simpa only [PyData.depth] using dep
    obtain ⟨bs, m1, m2⟩ := k (by simpa [PyData.showable] using sh) fun t m => Nat.le_trans (listText_mem_le m) z
    have out : a ∉ bs := not_mem_of_deeper (.list ho hc hd rd) (by simp only [PyData.depth]; omega) m1
    have ty : s.TypeIs (.ref a) "list" := ⟨o, ho, hc⟩
    have fin : ∀ (h' : Heap) (t : Tok) (tk : Nat), (∀ b o, s.heap.get? b = some o → h'.get? b = some o) → EP X pins σ Q (.str (listText (PyData.shownAll ds)) t) { s with heap := h', toks := tk } := fun h' t tk kp =>
      ⟨.str _, H, I.kept kp, ⟨_, rfl⟩, by simpa only [PyData.shown] using q⟩
    refine call_repr_slot (by omega) ty PySem.F.slot_list_repr.toG ?_
    cases its with
    | nil =>
      have rd : ReadsAll s.heap [] ds _ := rd
      cases rd
      simp only [PyData.shownAll, listText_nil] at fin
      exact call_list_repr_empty ty ho hd ⟨_, _, rfl, fin s.heap _ _ fun _ _ e => e⟩
    | cons x l =>
      exact call_list_reprK ho hc hd out (by simpa using m2.length_eq) (fun i y e => m2.item i y (by simpa using e)) g (fun b _ => Clear.nil b) (by show X.A.units + 1 + _ < cLine; omega) (fun _ _ e => e) (fun h' t tk kp => ⟨_, _, rfl, fin h' t tk kp⟩) z
  | @tup a xs ds hs ha =>
    obtain ⟨u, rfl, rx⟩ := vals1 r
    rw [show u = _ from rx]
    obtain ⟨its, rv, ⟨o, ho, hc, n, hd⟩, _⟩ := I.tuple hs
    obtain ⟨⟨as, rd⟩, k⟩ := DqAll.rk I ds _ its ha rv
    have z : (tupleText (PyData.shownAll ds)).length ≤ sizeLine := by simpa only [PyData.shown] using sz
    have dep : PyData.depthAll ds + 1 ≤ 60 := by simpa only [PyData.depth] using dep
    obtain ⟨bs, m1, m2⟩ := k (by simpa [PyData.showable] using sh) fun t m => Nat.le_trans (tupleText_mem_le m) z
    have out : a ∉ bs := not_mem_of_deeper (.tuple ho hc hd rd) (by simp only [PyData.depth]; omega) m1
    have fin : ∀ (h' : Heap) (t : Tok) (tk : Nat), (∀ b o, s.heap.get? b = some o → h'.get? b = some o) → EP X pins σ Q (.str (tupleText (PyData.shownAll ds)) t) { s with heap := h', toks := tk } := fun h' t tk kp =>
      ⟨.str _, H, I.kept kp, ⟨_, rfl⟩, by simpa only [PyData.shown] using q⟩
    refine call_repr_slot (by omega) ⟨o, ho, hc⟩ PySem.F.slot_tuple_repr ?_
    exact call_tuple_reprK ho hc hd out m2 g (fun b _ => Clear.nil b) (by show X.A.units + 1 + _ < cLine; omega) (fun _ _ e => e) (fun h' t tk kp => ⟨_, _, rfl, fin h' t tk kp⟩) z
end
/-! ### over our data -/
def pyQ (h : Hh) : Nat → D → Option PyData
  | 0, _ => none
  | n + 1, d => match d with
    | .non => some .none
    | .bl b => some (.bool b)
    | .int i => some (.int i)
    | .str x => some (.str x)
    | .tup ds => (allOf (pyQ h n) ds).map .tuple
    | .ktp ds => (allOf (pyQ h n) ds).map .tuple
    | .lst ds => (allOf (pyQ h n) ds).map .list
    | .scr ds => (allOf (pyQ h n) ds).map .list
    | .dK ks ds => if ks.length = ds.length then (allOf pyF ds).map fun ps => .dict ((ks.map pyK).zip ps) else none
    | .ref k => match h[k]? with
      | some (.lst ds) => (allOf (pyQ h n) ds).map .list
      | some (.dK ks ds) => if ks.length = ds.length then (allOf pyF ds).map fun ps => .dict ((ks.map pyK).zip ps) else none
      | _ => none
    | _ => none
def reprQ (h : Hh) : List D → Option W
  | [d] => match pyQ h 50 d with
    | some p => if p.showable = true ∧ p.depth ≤ 60 ∧ p.shown.length ≤ sizeLine then some (.val (.str p.shown)) else none
    | none => none
  | _ => none
theorem dqAll_of {T : Tx} {F H : Hp} {φ : List Addr} {f : D → Option PyData} (k : ∀ d v p, Rep T F φ d v → f d = some p → Dq T.K H v p) : ∀ (ds : List D) (us : List V) (ps : List PyData), Reps T F φ ds us → allOf f ds = some ps → DqAll T.K H us ps
  | [], _, _, r, e => by
    rw [show _ = [] from r]
    cases e
    exact .nil
  | d :: ds, _, _, r, e => by
    obtain ⟨u, us, rfl, r1, r2⟩ := r
    obtain ⟨p, ps, e1, e2, rfl⟩ := allOf_cons e
    exact .cons (k d u p r1 e1) (dqAll_of k ds us ps r2 e2)
theorem dq_of {T : Tx} {c : Cf} (O : Ok T c) : ∀ (n : Nat) (F : Hp) (_ : Le F c.H) (d : D) (v : V) (p : PyData), Rep T F c.φ d v → pyQ c.s.h n d = some p → Dq T.K c.H v p
  | 0, _, _, _, _, _, _, e => by cases e
  | n + 1, F, le, d, v, p, r, e => by
    have all : ∀ (F : Hp) (_ : Le F c.H) (ds : List D) (us : List V) (ps : List PyData), Reps T F c.φ ds us → allOf (pyQ c.s.h n) ds = some ps → DqAll T.K c.H us ps := fun F le ds us ps => dqAll_of (fun d v p => dq_of O n F le d v p) ds us ps
    cases d with
    | non => cases e; rw [show v = .non from r]; exact .flat .non rfl
    | bl b => cases e; rw [show v = .bl b from r]; exact .flat (.bl b) rfl
    | int i => cases e; rw [show v = .int i from r]; exact .flat (.int i) rfl
    | str x => cases e; rw [show v = .str x from r]; exact .flat (.str x) rfl
    | tup ds =>
      obtain ⟨ps, e1, rfl⟩ := map_some (show (allOf (pyQ c.s.h n) ds).map PyData.tuple = some p from e)
      obtain ⟨a, us, rfl, z, rr⟩ := r
      exact .tup (.inl (.inl (le _ _ z))) (all F le ds us ps rr e1)
    | ktp ds =>
      obtain ⟨ps, e1, rfl⟩ := map_some (show (allOf (pyQ c.s.h n) ds).map PyData.tuple = some p from e)
      obtain ⟨a, us, rfl, z, rr⟩ := r
      rcases z with z | z
      · exact .tup (.inl (.inl (le _ _ z))) (all F le ds us ps rr e1)
      · exact .tup (.inr z) (all F le ds us ps rr e1)
    | lst ds =>
      obtain ⟨ps, e1, rfl⟩ := map_some (show (allOf (pyQ c.s.h n) ds).map PyData.list = some p from e)
      obtain ⟨a, us, rfl, z, rr⟩ := r
      exact .lst (.inl (.inl (le _ _ z))) (all F le ds us ps rr e1)
    | scr ds =>
      obtain ⟨ps, e1, rfl⟩ := map_some (show (allOf (pyQ c.s.h n) ds).map PyData.list = some p from e)
      obtain ⟨a, us, rfl, z, rr⟩ := r
      exact .lst (SqL.le le z) (all F le ds us ps rr e1)
    | dK ks ds =>
      have e : (if ks.length = ds.length then (allOf pyF ds).map (fun ps => PyData.dict ((ks.map pyK).zip ps)) else none) = some p := e
      split at e
      · obtain ⟨ps, e1, rfl⟩ := map_some e
        obtain ⟨a, us, rfl, hl, ha, rr⟩ := r
        exact .dict (le _ _ ha) hl (flats_of rr e1)
      · cases e
    | ref k =>
      obtain ⟨a, hk, rfl⟩ := r
      have e : (match c.s.h[k]? with
        | some (.lst ds) => (allOf (pyQ c.s.h n) ds).map PyData.list
        | some (.dK ks ds) => if ks.length = ds.length then (allOf pyF ds).map (fun ps => PyData.dict ((ks.map pyK).zip ps)) else none
        | _ => none) = some p := e
      cases q : c.s.h[k]? with
      | none => rw [q] at e; cases e
      | some cl =>
        rw [q] at e
        cases cl with
        | lst ds =>
          obtain ⟨ps, e1, rfl⟩ := map_some e
          obtain ⟨us, z, rr⟩ := O.cell k a _ hk q
          exact .lst (.inl (.inl z)) (all c.F O.le ds us ps rr e1)
        | dK ks ds =>
          dsimp only at e
          split at e
          · obtain ⟨ps, e1, rfl⟩ := map_some e
            obtain ⟨us, hl, z, rr⟩ := O.cell k a _ hk q
            exact .dict z hl (flats_of rr e1)
          · cases e
        | _ => cases e
    | _ => cases e
theorem oc_reprQ {X : Cx} (g : X.A.guards = some []) (hu : X.A.units + 64 < cLine) : CallOkH X (.builtin "repr") reprQ := by
  refine ⟨_, call_reprQ g hu, fun c ds vs w Q O rs e fin => ?_⟩
  match ds, rs with
  | [d], rs =>
    obtain ⟨v, r, rfl, rv, rn⟩ := rs
    rw [show r = [] from rn]
    have e : (match pyQ c.s.h 50 d with
      | some p => if p.showable = true ∧ p.depth ≤ 60 ∧ p.shown.length ≤ sizeLine then some (W.val (.str p.shown)) else none
      | none => none) = some w := e
    cases ep : pyQ c.s.h 50 d with
    | none => rw [ep] at e; cases e
    | some p =>
      rw [ep] at e
      dsimp only at e
      split at e
      · rename_i q
        cases e
        exact ⟨v, p, rfl, dq_of O 50 c.H (fun _ _ z => z) d v p (rv.up O) ep, q.1, q.2.1, q.2.2, fin.sc O (v := .str _) rfl⟩
      · cases e
  | [], _ => cases e
  | _ :: _ :: _, _ => cases e
/-! ## a list and [] -/
section
variable {X : Cx}
def rLen (K : PySem.W.Frag) (r : Bool) : R2 := fun x y H Q => ∃ a b xs ys, x = .ref a ∧ y = .ref b ∧ SqL K H a xs ∧ SqL K H b ys ∧ xs.length ≠ ys.length ∧ Q (.bl r) H
theorem op_eqLen (hu : X.A.units + 64 < cLine) : OpR X (compareOp .Eq) (rLen X.K false) := by
  intro pins s σ H x y v u Q I rx ry h
  obtain ⟨a, b, xs, ys, rfl, rfl, ha, hb, hl, q⟩ := h
  cases rx
  cases ry
  obtain ⟨is, r1, p1, _⟩ := I.list ha
  obtain ⟨js, r2, p2, _⟩ := I.list hb
  have l1 := r1.length
  have l2 := r2.length
  exact SeqAt.eq_list_lengthsAt p1.isList p2.isList (by simp; omega) (by omega) ⟨.bl false, H, I, rfl, q⟩
theorem op_neLen (hu : X.A.units + 64 < cLine) : OpR X (compareOp .NotEq) (rLen X.K true) := by
  intro pins s σ H x y v u Q I rx ry h
  obtain ⟨a, b, xs, ys, rfl, rfl, ha, hb, hl, q⟩ := h
  cases rx
  cases ry
  obtain ⟨is, r1, p1, _⟩ := I.list ha
  obtain ⟨js, r2, p2, _⟩ := I.list hb
  have l1 := r1.length
  have l2 := r2.length
  exact SeqAt.RcNeAt.lists_lengths p1.isList p2.isList (by simp; omega) (by omega) _ _ _ _ ⟨.bl true, H, I, rfl, q⟩
def eqE (d1 d2 : D) : Option Bool := match lstOf d1, d2 with
  | some (_ :: _), .lst [] => some false
  | _, _ => eqG d1 d2
def neE (d1 d2 : D) : Option Bool := match lstOf d1, d2 with
  | some (_ :: _), .lst [] => some true
  | _, _ => neG d1 d2
theorem co_eqE (hu : X.A.units + 64 < cLine) : CmpOk X (compareOp .Eq) eqE := by
  obtain ⟨r, h1, h2⟩ := co_eq (X := X) hu
  refine ⟨_, h1.or (op_eqLen hu), fun c d1 d2 v1 v2 b Q O r1 r2 q f => ?_⟩
  unfold eqE at q
  split at q
  · rename_i x1 x2 e
    cases q
    obtain ⟨a, us, rfl, z1, rr⟩ := r1.lstOf O e
    have r2 : RepV (tx X) c (.lst []) v2 := r2
    obtain ⟨a2, us2, rfl, z2, rr2⟩ := r2.lstOf O (ds := []) rfl
    refine .inr ⟨a, a2, us, us2, rfl, rfl, z1, z2, ?_, f⟩
    rw [rr.len, rr2.len]
    simp
  · exact .inl (h2 c _ _ v1 v2 b Q O r1 r2 q f)
theorem co_neE (hu : X.A.units + 64 < cLine) : CmpOk X (compareOp .NotEq) neE := by
  obtain ⟨r, h1, h2⟩ := co_ne (X := X) hu
  refine ⟨_, h1.or (op_neLen hu), fun c d1 d2 v1 v2 b Q O r1 r2 q f => ?_⟩
  unfold neE at q
  split at q
  · rename_i x1 x2 e
    cases q
    obtain ⟨a, us, rfl, z1, rr⟩ := r1.lstOf O e
    have r2 : RepV (tx X) c (.lst []) v2 := r2
    obtain ⟨a2, us2, rfl, z2, rr2⟩ := r2.lstOf O (ds := []) rfl
    refine .inr ⟨a, a2, us, us2, rfl, rfl, z1, z2, ?_, f⟩
    rw [rr.len, rr2.len]
    simp
  · exact .inl (h2 c _ _ v1 v2 b Q O r1 r2 q f)
end
end Z

namespace Z
open PySem L2

theorem g_eqE {ds : List D} : eqE (.lst ds) (.lst []) = some ds.isEmpty := by
  cases ds with
  | nil => rfl
  | cons a r => rfl
theorem g_neE {ds : List D} : neE (.lst ds) (.lst []) = some (!ds.isEmpty) := by
  cases ds with
  | nil => rfl
  | cons a r => rfl
theorem g_isi {d : D} {t n : String} {b : Bool} (h1 : tyD d = some t) (h2 : isTy t n = some b) : isiG [d, .ty n] = some (.val (.bl b)) := by
  unfold isiG
  dsimp only
  rw [h1]
  dsimp only
  rw [h2]
theorem g_isp {d : D} {t n m : String} {b : Bool} (h1 : tyD d = some t) (h2 : anyTy t [n, m] = some b) : isiG [d, .tup [.ty n, .ty m]] = some (.val (.bl b)) := by
  unfold isiG
  dsimp only
  rw [h1]
  show (match anyTy t [n, m] with | some b => _ | none => _) = _
  rw [h2]
theorem g_isT {d : D} {t n : String} (h1 : tyD d = some t) (h2 : isTy t n = some true) : isiG [d, .ty n] = some (.val (.bl true)) := g_isi h1 h2
theorem g_isF {d : D} {t n : String} (h1 : tyD d = some t) (h2 : isTy t n = some false) : isiG [d, .ty n] = some (.val (.bl false)) := g_isi h1 h2
theorem g_ipT {d : D} {t n m : String} (h1 : tyD d = some t) (h2 : anyTy t [n, m] = some true) : isiG [d, .tup [.ty n, .ty m]] = some (.val (.bl true)) := g_isp h1 h2
theorem g_ipF {d : D} {t n m : String} (h1 : tyD d = some t) (h2 : anyTy t [n, m] = some false) : isiG [d, .tup [.ty n, .ty m]] = some (.val (.bl false)) := g_isp h1 h2
section
variable {s : S} {E : XQ}
theorem w_callH {Q : W → S → Prop} {g : Hh → List D → Option W} {fs : M (List W)} (q : wpM fs s (fun ws s1 => wpM (views ws) s1 (fun ds s2 => ∃ w, g s2.h ds = some w ∧ Q w s2) E) E) : wpM (callHM g fs) s Q E :=
  w_bnd (w_imp q (fun ws s1 z => w_bnd (w_imp z (fun ds s2 ⟨w, e, q⟩ => w_eq (by show (match g s2.h ds with | some w => Out.ok w s2 | none => .stuck) = _; rw [e]) q) fun _ _ _ _ y => y)) fun _ _ _ _ y => y)
theorem w_rev {Q : W → S → Prop} {fa : M W} (q : wpM fa s (fun x s1 => wpM (view x) s1 (fun d s2 => wpM (opt (revG d)) s2 Q E) E) E) : wpM (revM fa) s Q E := w_bnd (w_imp q (fun _ _ z => w_bnd z) fun _ _ _ _ y => y)
theorem w_meth {Q : W → S → Prop} {x m : Str} {n : Nat} {F : List D → M W} {fo : M W} {fs : M (List W)} (q : wpM fo s (fun o s1 => wpM (toD o) s1 (fun d s2 => wpM (viewD d) s2 (fun dv s3 => (∃ ns vs, dv = .obj x ns vs ∧ ns.contains m = false) ∧
    wpM fs s3 (fun ws s4 => wpM (toDs ws) s4 (fun ds s5 => ds.length + 1 = n ∧ wpM (F (d :: ds)) ⟨[], s5.h⟩ (fun w s6 => Q w ⟨s5.e, s6.h⟩) (fun C ns vs s6 => E C ns vs ⟨s5.e, s6.h⟩)) E) E) E) E) E) : wpM (methM x m n F fo fs) s Q E := by
  refine w_bnd (w_imp q (fun o s1 q => w_bnd (w_imp q (fun d s2 q => w_bnd (w_imp q (fun dv s3 ⟨⟨ns, vs, e1, e2⟩, q⟩ => w_bnd (w_guardD ?_ (w_bnd (w_imp q (fun ws s4 q => w_bnd (w_imp q (fun ds s5 ⟨hl, q⟩ => ?_) fun _ _ _ _ y => y)) fun _ _ _ _ y => y)))) fun _ _ _ _ y => y)) fun _ _ _ _ y => y)) fun _ _ _ _ y => y)
  · subst e1
    show (decide (x = x) && !ns.contains m) = true
    rw [e2]
    simp
  · rcases w_cs q with ⟨a, s6, e, q⟩ | ⟨C, ns, vs, s6, e, q⟩
    · exact w_eq (by rw [if_pos hl, e]) q
    · exact w_exc (by rw [if_pos hl, e]) q
theorem w_star {Q : Fl → S → Prop} {i j : Nat} {f : M W} (q : wpM f s (fun w s1 => wpM (toD w) s1 (fun d s2 => ∃ x r, (d = .tup (x :: r) ∨ d = .ktp (x :: r)) ∧ r.length ≤ 16000 ∧ i < s2.e.length ∧ wpM (setM j (.new (.lst r))) { s2 with e := s2.e.set i (.fz x) } Q E) E) E) : wpM (starM i j f) s Q E := by
  refine w_bnd (w_imp q (fun w s1 q => w_bnd (w_imp q (fun d s2 ⟨x, r, hd, hl, hi, q⟩ => ?_) fun _ _ _ _ y => y)) fun _ _ _ _ y => y)
  have go : wpM (if r.length ≤ 16000 then bnd (stM (tg1 i x)) fun _ => setM j (.new (.lst r)) else fun _ => Out.stuck) s2 Q E := by
    rw [if_pos hl]
    exact w_bnd (w_st (s1 := { s2 with e := s2.e.set i (.fz x) }) (by unfold tg1; rw [if_pos hi]) q)
  rcases hd with rfl | rfl <;> exact go
end
end Z

namespace Z
open PySem L2

/-! ## Steps found by class: St goal new-goal -/
class St (P : Prop) (R : outParam Prop) : Prop where h : R → P
theorem st_go {P R : Prop} [i : St P R] (r : R) : P := i.h r
class AtC (e : Env) (i : Nat) (x : outParam Slot) : Prop where h : At e i x
class SetC (e : Env) (i : Nat) (x : Slot) (e1 : outParam Env) : Prop where
  h : e.set i x = e1
  lt : Lt i e
class ToC (c : Cell) (d : outParam D) : Prop where h : c.toD = d
class EvC {α : Type} (o : Option α) (a : outParam α) : Prop where h : o = some a
class LenC (ds : List D) (n : Nat) : Prop where h : ds.length = n
instance toL {xs : List D} : ToC (.lst xs) (.lst xs) := ⟨rfl⟩
instance toK {ks : List Key} {vs : List D} : ToC (.dK ks vs) (.dK ks vs) := ⟨rfl⟩
instance toT {ks : List (List Key)} {vs : List D} : ToC (.dT ks vs) (.dT ks vs) := ⟨rfl⟩
instance toI {C : Str} {ns : List Str} {vs : List D} : ToC (.ins C ns vs) (.obj C ns vs) := ⟨rfl⟩
instance (priority := low) toX {c : Cell} : ToC c c.toD := ⟨rfl⟩
instance at0 {a0 : Slot} {r : Env} : AtC (a0 :: r) 0 a0 := ⟨ge0⟩
instance se0 {a0 x : Slot} {r : Env} : SetC (a0 :: r) 0 x (x :: r) := ⟨rfl, lt0⟩
instance at1 {a0 a1 : Slot} {r : Env} : AtC (a0 :: a1 :: r) 1 a1 := ⟨ge1⟩
instance se1 {a0 a1 x : Slot} {r : Env} : SetC (a0 :: a1 :: r) 1 x (a0 :: x :: r) := ⟨rfl, lt1⟩
instance at2 {a0 a1 a2 : Slot} {r : Env} : AtC (a0 :: a1 :: a2 :: r) 2 a2 := ⟨ge2⟩
instance se2 {a0 a1 a2 x : Slot} {r : Env} : SetC (a0 :: a1 :: a2 :: r) 2 x (a0 :: a1 :: x :: r) := ⟨rfl, lt2⟩
instance at3 {a0 a1 a2 a3 : Slot} {r : Env} : AtC (a0 :: a1 :: a2 :: a3 :: r) 3 a3 := ⟨ge3⟩
instance se3 {a0 a1 a2 a3 x : Slot} {r : Env} : SetC (a0 :: a1 :: a2 :: a3 :: r) 3 x (a0 :: a1 :: a2 :: x :: r) := ⟨rfl, lt3⟩
instance at4 {a0 a1 a2 a3 a4 : Slot} {r : Env} : AtC (a0 :: a1 :: a2 :: a3 :: a4 :: r) 4 a4 := ⟨ge4⟩
instance se4 {a0 a1 a2 a3 a4 x : Slot} {r : Env} : SetC (a0 :: a1 :: a2 :: a3 :: a4 :: r) 4 x (a0 :: a1 :: a2 :: a3 :: x :: r) := ⟨rfl, lt4⟩
instance at5 {a0 a1 a2 a3 a4 a5 : Slot} {r : Env} : AtC (a0 :: a1 :: a2 :: a3 :: a4 :: a5 :: r) 5 a5 := ⟨ge5⟩
instance se5 {a0 a1 a2 a3 a4 a5 x : Slot} {r : Env} : SetC (a0 :: a1 :: a2 :: a3 :: a4 :: a5 :: r) 5 x (a0 :: a1 :: a2 :: a3 :: a4 :: x :: r) := ⟨rfl, lt5⟩
instance at6 {a0 a1 a2 a3 a4 a5 a6 : Slot} {r : Env} : AtC (a0 :: a1 :: a2 :: a3 :: a4 :: a5 :: a6 :: r) 6 a6 := ⟨ge6⟩
instance se6 {a0 a1 a2 a3 a4 a5 a6 x : Slot} {r : Env} : SetC (a0 :: a1 :: a2 :: a3 :: a4 :: a5 :: a6 :: r) 6 x (a0 :: a1 :: a2 :: a3 :: a4 :: a5 :: x :: r) := ⟨rfl, lt6⟩
instance at7 {a0 a1 a2 a3 a4 a5 a6 a7 : Slot} {r : Env} : AtC (a0 :: a1 :: a2 :: a3 :: a4 :: a5 :: a6 :: a7 :: r) 7 a7 := ⟨ge7⟩
instance se7 {a0 a1 a2 a3 a4 a5 a6 a7 x : Slot} {r : Env} : SetC (a0 :: a1 :: a2 :: a3 :: a4 :: a5 :: a6 :: a7 :: r) 7 x (a0 :: a1 :: a2 :: a3 :: a4 :: a5 :: a6 :: x :: r) := ⟨rfl, lt7⟩
instance at8 {a0 a1 a2 a3 a4 a5 a6 a7 a8 : Slot} {r : Env} : AtC (a0 :: a1 :: a2 :: a3 :: a4 :: a5 :: a6 :: a7 :: a8 :: r) 8 a8 := ⟨ge8⟩
instance se8 {a0 a1 a2 a3 a4 a5 a6 a7 a8 x : Slot} {r : Env} : SetC (a0 :: a1 :: a2 :: a3 :: a4 :: a5 :: a6 :: a7 :: a8 :: r) 8 x (a0 :: a1 :: a2 :: a3 :: a4 :: a5 :: a6 :: a7 :: x :: r) := ⟨rfl, lt8⟩
instance at9 {a0 a1 a2 a3 a4 a5 a6 a7 a8 a9 : Slot} {r : Env} : AtC (a0 :: a1 :: a2 :: a3 :: a4 :: a5 :: a6 :: a7 :: a8 :: a9 :: r) 9 a9 := ⟨ge9⟩
instance se9 {a0 a1 a2 a3 a4 a5 a6 a7 a8 a9 x : Slot} {r : Env} : SetC (a0 :: a1 :: a2 :: a3 :: a4 :: a5 :: a6 :: a7 :: a8 :: a9 :: r) 9 x (a0 :: a1 :: a2 :: a3 :: a4 :: a5 :: a6 :: a7 :: a8 :: x :: r) := ⟨rfl, lt9⟩
instance at10 {a0 a1 a2 a3 a4 a5 a6 a7 a8 a9 a10 : Slot} {r : Env} : AtC (a0 :: a1 :: a2 :: a3 :: a4 :: a5 :: a6 :: a7 :: a8 :: a9 :: a10 :: r) 10 a10 := ⟨ge10⟩
instance se10 {a0 a1 a2 a3 a4 a5 a6 a7 a8 a9 a10 x : Slot} {r : Env} : SetC (a0 :: a1 :: a2 :: a3 :: a4 :: a5 :: a6 :: a7 :: a8 :: a9 :: a10 :: r) 10 x (a0 :: a1 :: a2 :: a3 :: a4 :: a5 :: a6 :: a7 :: a8 :: a9 :: x :: r) := ⟨rfl, lt10⟩
instance at11 {a0 a1 a2 a3 a4 a5 a6 a7 a8 a9 a10 a11 : Slot} {r : Env} : AtC (a0 :: a1 :: a2 :: a3 :: a4 :: a5 :: a6 :: a7 :: a8 :: a9 :: a10 :: a11 :: r) 11 a11 := ⟨ge11⟩
instance se11 {a0 a1 a2 a3 a4 a5 a6 a7 a8 a9 a10 a11 x : Slot} {r : Env} : SetC (a0 :: a1 :: a2 :: a3 :: a4 :: a5 :: a6 :: a7 :: a8 :: a9 :: a10 :: a11 :: r) 11 x (a0 :: a1 :: a2 :: a3 :: a4 :: a5 :: a6 :: a7 :: a8 :: a9 :: a10 :: x :: r) := ⟨rfl, lt11⟩
instance at12 {a0 a1 a2 a3 a4 a5 a6 a7 a8 a9 a10 a11 a12 : Slot} {r : Env} : AtC (a0 :: a1 :: a2 :: a3 :: a4 :: a5 :: a6 :: a7 :: a8 :: a9 :: a10 :: a11 :: a12 :: r) 12 a12 := ⟨ge12⟩
instance se12 {a0 a1 a2 a3 a4 a5 a6 a7 a8 a9 a10 a11 a12 x : Slot} {r : Env} : SetC (a0 :: a1 :: a2 :: a3 :: a4 :: a5 :: a6 :: a7 :: a8 :: a9 :: a10 :: a11 :: a12 :: r) 12 x (a0 :: a1 :: a2 :: a3 :: a4 :: a5 :: a6 :: a7 :: a8 :: a9 :: a10 :: a11 :: x :: r) := ⟨rfl, lt12⟩
instance at13 {a0 a1 a2 a3 a4 a5 a6 a7 a8 a9 a10 a11 a12 a13 : Slot} {r : Env} : AtC (a0 :: a1 :: a2 :: a3 :: a4 :: a5 :: a6 :: a7 :: a8 :: a9 :: a10 :: a11 :: a12 :: a13 :: r) 13 a13 := ⟨ge13⟩
instance se13 {a0 a1 a2 a3 a4 a5 a6 a7 a8 a9 a10 a11 a12 a13 x : Slot} {r : Env} : SetC (a0 :: a1 :: a2 :: a3 :: a4 :: a5 :: a6 :: a7 :: a8 :: a9 :: a10 :: a11 :: a12 :: a13 :: r) 13 x (a0 :: a1 :: a2 :: a3 :: a4 :: a5 :: a6 :: a7 :: a8 :: a9 :: a10 :: a11 :: a12 :: x :: r) := ⟨rfl, lt13⟩
instance at14 {a0 a1 a2 a3 a4 a5 a6 a7 a8 a9 a10 a11 a12 a13 a14 : Slot} {r : Env} : AtC (a0 :: a1 :: a2 :: a3 :: a4 :: a5 :: a6 :: a7 :: a8 :: a9 :: a10 :: a11 :: a12 :: a13 :: a14 :: r) 14 a14 := ⟨ge14⟩
instance se14 {a0 a1 a2 a3 a4 a5 a6 a7 a8 a9 a10 a11 a12 a13 a14 x : Slot} {r : Env} : SetC (a0 :: a1 :: a2 :: a3 :: a4 :: a5 :: a6 :: a7 :: a8 :: a9 :: a10 :: a11 :: a12 :: a13 :: a14 :: r) 14 x (a0 :: a1 :: a2 :: a3 :: a4 :: a5 :: a6 :: a7 :: a8 :: a9 :: a10 :: a11 :: a12 :: a13 :: x :: r) := ⟨rfl, lt14⟩
instance at15 {a0 a1 a2 a3 a4 a5 a6 a7 a8 a9 a10 a11 a12 a13 a14 a15 : Slot} {r : Env} : AtC (a0 :: a1 :: a2 :: a3 :: a4 :: a5 :: a6 :: a7 :: a8 :: a9 :: a10 :: a11 :: a12 :: a13 :: a14 :: a15 :: r) 15 a15 := ⟨ge15⟩
instance se15 {a0 a1 a2 a3 a4 a5 a6 a7 a8 a9 a10 a11 a12 a13 a14 a15 x : Slot} {r : Env} : SetC (a0 :: a1 :: a2 :: a3 :: a4 :: a5 :: a6 :: a7 :: a8 :: a9 :: a10 :: a11 :: a12 :: a13 :: a14 :: a15 :: r) 15 x (a0 :: a1 :: a2 :: a3 :: a4 :: a5 :: a6 :: a7 :: a8 :: a9 :: a10 :: a11 :: a12 :: a13 :: a14 :: x :: r) := ⟨rfl, lt15⟩
instance at16 {a0 a1 a2 a3 a4 a5 a6 a7 a8 a9 a10 a11 a12 a13 a14 a15 a16 : Slot} {r : Env} : AtC (a0 :: a1 :: a2 :: a3 :: a4 :: a5 :: a6 :: a7 :: a8 :: a9 :: a10 :: a11 :: a12 :: a13 :: a14 :: a15 :: a16 :: r) 16 a16 := ⟨ge16⟩
instance se16 {a0 a1 a2 a3 a4 a5 a6 a7 a8 a9 a10 a11 a12 a13 a14 a15 a16 x : Slot} {r : Env} : SetC (a0 :: a1 :: a2 :: a3 :: a4 :: a5 :: a6 :: a7 :: a8 :: a9 :: a10 :: a11 :: a12 :: a13 :: a14 :: a15 :: a16 :: r) 16 x (a0 :: a1 :: a2 :: a3 :: a4 :: a5 :: a6 :: a7 :: a8 :: a9 :: a10 :: a11 :: a12 :: a13 :: a14 :: a15 :: x :: r) := ⟨rfl, lt16⟩
instance at17 {a0 a1 a2 a3 a4 a5 a6 a7 a8 a9 a10 a11 a12 a13 a14 a15 a16 a17 : Slot} {r : Env} : AtC (a0 :: a1 :: a2 :: a3 :: a4 :: a5 :: a6 :: a7 :: a8 :: a9 :: a10 :: a11 :: a12 :: a13 :: a14 :: a15 :: a16 :: a17 :: r) 17 a17 := ⟨ge17⟩
instance se17 {a0 a1 a2 a3 a4 a5 a6 a7 a8 a9 a10 a11 a12 a13 a14 a15 a16 a17 x : Slot} {r : Env} : SetC (a0 :: a1 :: a2 :: a3 :: a4 :: a5 :: a6 :: a7 :: a8 :: a9 :: a10 :: a11 :: a12 :: a13 :: a14 :: a15 :: a16 :: a17 :: r) 17 x (a0 :: a1 :: a2 :: a3 :: a4 :: a5 :: a6 :: a7 :: a8 :: a9 :: a10 :: a11 :: a12 :: a13 :: a14 :: a15 :: a16 :: x :: r) := ⟨rfl, lt17⟩
instance at18 {a0 a1 a2 a3 a4 a5 a6 a7 a8 a9 a10 a11 a12 a13 a14 a15 a16 a17 a18 : Slot} {r : Env} : AtC (a0 :: a1 :: a2 :: a3 :: a4 :: a5 :: a6 :: a7 :: a8 :: a9 :: a10 :: a11 :: a12 :: a13 :: a14 :: a15 :: a16 :: a17 :: a18 :: r) 18 a18 := ⟨ge18⟩
instance se18 {a0 a1 a2 a3 a4 a5 a6 a7 a8 a9 a10 a11 a12 a13 a14 a15 a16 a17 a18 x : Slot} {r : Env} : SetC (a0 :: a1 :: a2 :: a3 :: a4 :: a5 :: a6 :: a7 :: a8 :: a9 :: a10 :: a11 :: a12 :: a13 :: a14 :: a15 :: a16 :: a17 :: a18 :: r) 18 x (a0 :: a1 :: a2 :: a3 :: a4 :: a5 :: a6 :: a7 :: a8 :: a9 :: a10 :: a11 :: a12 :: a13 :: a14 :: a15 :: a16 :: a17 :: x :: r) := ⟨rfl, lt18⟩
instance at19 {a0 a1 a2 a3 a4 a5 a6 a7 a8 a9 a10 a11 a12 a13 a14 a15 a16 a17 a18 a19 : Slot} {r : Env} : AtC (a0 :: a1 :: a2 :: a3 :: a4 :: a5 :: a6 :: a7 :: a8 :: a9 :: a10 :: a11 :: a12 :: a13 :: a14 :: a15 :: a16 :: a17 :: a18 :: a19 :: r) 19 a19 := ⟨ge19⟩
instance se19 {a0 a1 a2 a3 a4 a5 a6 a7 a8 a9 a10 a11 a12 a13 a14 a15 a16 a17 a18 a19 x : Slot} {r : Env} : SetC (a0 :: a1 :: a2 :: a3 :: a4 :: a5 :: a6 :: a7 :: a8 :: a9 :: a10 :: a11 :: a12 :: a13 :: a14 :: a15 :: a16 :: a17 :: a18 :: a19 :: r) 19 x (a0 :: a1 :: a2 :: a3 :: a4 :: a5 :: a6 :: a7 :: a8 :: a9 :: a10 :: a11 :: a12 :: a13 :: a14 :: a15 :: a16 :: a17 :: a18 :: x :: r) := ⟨rfl, lt19⟩
instance at20 {a0 a1 a2 a3 a4 a5 a6 a7 a8 a9 a10 a11 a12 a13 a14 a15 a16 a17 a18 a19 a20 : Slot} {r : Env} : AtC (a0 :: a1 :: a2 :: a3 :: a4 :: a5 :: a6 :: a7 :: a8 :: a9 :: a10 :: a11 :: a12 :: a13 :: a14 :: a15 :: a16 :: a17 :: a18 :: a19 :: a20 :: r) 20 a20 := ⟨ge20⟩
instance se20 {a0 a1 a2 a3 a4 a5 a6 a7 a8 a9 a10 a11 a12 a13 a14 a15 a16 a17 a18 a19 a20 x : Slot} {r : Env} : SetC (a0 :: a1 :: a2 :: a3 :: a4 :: a5 :: a6 :: a7 :: a8 :: a9 :: a10 :: a11 :: a12 :: a13 :: a14 :: a15 :: a16 :: a17 :: a18 :: a19 :: a20 :: r) 20 x (a0 :: a1 :: a2 :: a3 :: a4 :: a5 :: a6 :: a7 :: a8 :: a9 :: a10 :: a11 :: a12 :: a13 :: a14 :: a15 :: a16 :: a17 :: a18 :: a19 :: x :: r) := ⟨rfl, lt20⟩
instance at21 {a0 a1 a2 a3 a4 a5 a6 a7 a8 a9 a10 a11 a12 a13 a14 a15 a16 a17 a18 a19 a20 a21 : Slot} {r : Env} : AtC (a0 :: a1 :: a2 :: a3 :: a4 :: a5 :: a6 :: a7 :: a8 :: a9 :: a10 :: a11 :: a12 :: a13 :: a14 :: a15 :: a16 :: a17 :: a18 :: a19 :: a20 :: a21 :: r) 21 a21 := ⟨ge21⟩
instance se21 {a0 a1 a2 a3 a4 a5 a6 a7 a8 a9 a10 a11 a12 a13 a14 a15 a16 a17 a18 a19 a20 a21 x : Slot} {r : Env} : SetC (a0 :: a1 :: a2 :: a3 :: a4 :: a5 :: a6 :: a7 :: a8 :: a9 :: a10 :: a11 :: a12 :: a13 :: a14 :: a15 :: a16 :: a17 :: a18 :: a19 :: a20 :: a21 :: r) 21 x (a0 :: a1 :: a2 :: a3 :: a4 :: a5 :: a6 :: a7 :: a8 :: a9 :: a10 :: a11 :: a12 :: a13 :: a14 :: a15 :: a16 :: a17 :: a18 :: a19 :: a20 :: x :: r) := ⟨rfl, lt21⟩
instance at22 {a0 a1 a2 a3 a4 a5 a6 a7 a8 a9 a10 a11 a12 a13 a14 a15 a16 a17 a18 a19 a20 a21 a22 : Slot} {r : Env} : AtC (a0 :: a1 :: a2 :: a3 :: a4 :: a5 :: a6 :: a7 :: a8 :: a9 :: a10 :: a11 :: a12 :: a13 :: a14 :: a15 :: a16 :: a17 :: a18 :: a19 :: a20 :: a21 :: a22 :: r) 22 a22 := ⟨ge22⟩
instance se22 {a0 a1 a2 a3 a4 a5 a6 a7 a8 a9 a10 a11 a12 a13 a14 a15 a16 a17 a18 a19 a20 a21 a22 x : Slot} {r : Env} : SetC (a0 :: a1 :: a2 :: a3 :: a4 :: a5 :: a6 :: a7 :: a8 :: a9 :: a10 :: a11 :: a12 :: a13 :: a14 :: a15 :: a16 :: a17 :: a18 :: a19 :: a20 :: a21 :: a22 :: r) 22 x (a0 :: a1 :: a2 :: a3 :: a4 :: a5 :: a6 :: a7 :: a8 :: a9 :: a10 :: a11 :: a12 :: a13 :: a14 :: a15 :: a16 :: a17 :: a18 :: a19 :: a20 :: a21 :: x :: r) := ⟨rfl, lt22⟩
instance at23 {a0 a1 a2 a3 a4 a5 a6 a7 a8 a9 a10 a11 a12 a13 a14 a15 a16 a17 a18 a19 a20 a21 a22 a23 : Slot} {r : Env} : AtC (a0 :: a1 :: a2 :: a3 :: a4 :: a5 :: a6 :: a7 :: a8 :: a9 :: a10 :: a11 :: a12 :: a13 :: a14 :: a15 :: a16 :: a17 :: a18 :: a19 :: a20 :: a21 :: a22 :: a23 :: r) 23 a23 := ⟨ge23⟩
instance se23 {a0 a1 a2 a3 a4 a5 a6 a7 a8 a9 a10 a11 a12 a13 a14 a15 a16 a17 a18 a19 a20 a21 a22 a23 x : Slot} {r : Env} : SetC (a0 :: a1 :: a2 :: a3 :: a4 :: a5 :: a6 :: a7 :: a8 :: a9 :: a10 :: a11 :: a12 :: a13 :: a14 :: a15 :: a16 :: a17 :: a18 :: a19 :: a20 :: a21 :: a22 :: a23 :: r) 23 x (a0 :: a1 :: a2 :: a3 :: a4 :: a5 :: a6 :: a7 :: a8 :: a9 :: a10 :: a11 :: a12 :: a13 :: a14 :: a15 :: a16 :: a17 :: a18 :: a19 :: a20 :: a21 :: a22 :: x :: r) := ⟨rfl, lt23⟩
section
variable {i j : Int} {x y : Str} {a b : Bool} {xs ys : List D}
instance i_g_addI  : EvC (addG (.int i) (.int j)) (.val (.int (i + j))) := ⟨g_addI⟩
instance i_g_addB  : EvC (addG (.int i) (.bl a)) (.val (.int (i + PyProof.Rows.b2i a))) := ⟨g_addB⟩
instance i_g_subI  : EvC (subG (.int i) (.int j)) (.val (.int (i - j))) := ⟨g_subI⟩
instance i_g_iaddI  : EvC (iaddG (.int i) (.int j)) (.val (.int (i + j))) := ⟨g_iaddI⟩
instance i_g_ltI  : EvC (ltG (.int i) (.int j)) (decide (i < j)) := ⟨g_ltI⟩
instance i_g_leI  : EvC (leG (.int i) (.int j)) (decide (i ≤ j)) := ⟨g_leI⟩
instance i_g_gtI  : EvC (gtG (.int i) (.int j)) (decide (j < i)) := ⟨g_gtI⟩
instance i_g_geI  : EvC (geG (.int i) (.int j)) (decide (j ≤ i)) := ⟨g_geI⟩
instance i_g_eqI  : EvC (eqG (.int i) (.int j)) (decide (i = j)) := ⟨g_eqI⟩
instance i_g_neI  : EvC (neG (.int i) (.int j)) (!decide (i = j)) := ⟨g_neI⟩
instance i_g_eqS  : EvC (eqG (.str x) (.str y)) (decide (x = y)) := ⟨g_eqS⟩
instance i_g_neS  : EvC (neG (.str x) (.str y)) (!decide (x = y)) := ⟨g_neS⟩
instance i_g_eqB  : EvC (eqG (.bl a) (.bl b)) (decide (a = b)) := ⟨g_eqB⟩
instance i_g_negI  : EvC (negG (.int i)) (.val (.int (-i))) := ⟨g_negI⟩
instance i_g_truI  : EvC (truD (.int i)) (i != 0) := ⟨g_truI⟩
instance i_g_truB  : EvC (truD (.bl a)) a := ⟨g_truB⟩
instance i_g_truN  : EvC (truD .non) false := ⟨g_truN⟩
instance i_g_truL  : EvC (truD (.lst xs)) (!xs.isEmpty) := ⟨g_truL⟩
instance i_g_lenL  : EvC (lenG [.lst xs]) (.val (.int xs.length)) := ⟨g_lenL⟩
instance i_g_lenT  : EvC (lenG [.tup xs]) (.val (.int xs.length)) := ⟨g_lenT⟩
instance i_g_lenK  : EvC (lenG [.ktp xs]) (.val (.int xs.length)) := ⟨g_lenK⟩
instance i_g_lenR  : EvC (lenG [.scr xs]) (.val (.int xs.length)) := ⟨g_lenR⟩
instance i_g_intI  : EvC (intG [.int i]) (.val (.int i)) := ⟨g_intI⟩
instance i_g_intB  : EvC (intG [.bl a]) (.val (.int (if a then 1 else 0))) := ⟨g_intB⟩
instance i_g_intOf  : EvC (intOf (.int i)) i := ⟨g_intOf⟩
instance i_g_seqL  : EvC (seqOf (.lst xs)) xs := ⟨g_seqL⟩
instance i_g_seqT  : EvC (seqOf (.tup xs)) xs := ⟨g_seqT⟩
instance i_g_seqK  : EvC (seqOf (.ktp xs)) xs := ⟨g_seqK⟩
instance i_g_seqR  : EvC (seqOf (.scr xs)) xs := ⟨g_seqR⟩
instance i_g_listL  : EvC (listG [.lst xs]) (.new (.lst xs)) := ⟨g_listL⟩
instance i_g_listT  : EvC (listG [.tup xs]) (.new (.lst xs)) := ⟨g_listT⟩
instance i_g_listR  : EvC (listG [.scr xs]) (.new (.lst xs)) := ⟨g_listR⟩
instance i_g_tupT  : EvC (tupleG [.tup xs]) (.val (.tup xs)) := ⟨g_tupT⟩
instance i_g_tupL  : EvC (tupleG [.lst xs]) (.val (.tup xs)) := ⟨g_tupL⟩
instance i_g_isN {d : D} : EvC (isG d .non) (isNonD d) := ⟨g_isN⟩
instance i_g_isNotN {d : D} : EvC (isNotG d .non) (!isNonD d) := ⟨g_isNotN⟩
instance i_g_slL {lo hi : Option Int} : EvC (slG (.lst xs) lo hi) (.new (.lst (cutL xs lo hi))) := ⟨g_slL⟩
instance i_g_slT {lo hi : Option Int} : EvC (slG (.tup xs) lo hi) (.val (.tup (cutL xs lo hi))) := ⟨g_slT⟩
end
instance i_g_eqE {ds : List D} : EvC (eqE (.lst ds) (.lst [])) ds.isEmpty := ⟨g_eqE⟩
instance i_g_neE {ds : List D} : EvC (neE (.lst ds) (.lst [])) (!ds.isEmpty) := ⟨g_neE⟩
instance is_non_bool  : EvC (isiG [.non, .ty "bool"]) (.val (.bl false)) := ⟨g_isi rfl (by decide)⟩
instance is_non_int  : EvC (isiG [.non, .ty "int"]) (.val (.bl false)) := ⟨g_isi rfl (by decide)⟩
instance is_non_str  : EvC (isiG [.non, .ty "str"]) (.val (.bl false)) := ⟨g_isi rfl (by decide)⟩
instance is_non_tuple  : EvC (isiG [.non, .ty "tuple"]) (.val (.bl false)) := ⟨g_isi rfl (by decide)⟩
instance is_non_list  : EvC (isiG [.non, .ty "list"]) (.val (.bl false)) := ⟨g_isi rfl (by decide)⟩
instance is_non_dict  : EvC (isiG [.non, .ty "dict"]) (.val (.bl false)) := ⟨g_isi rfl (by decide)⟩
instance ip_non_list_tuple  : EvC (isiG [.non, .tup [.ty "list", .ty "tuple"]]) (.val (.bl false)) := ⟨g_isp rfl (by decide)⟩
instance ip_non_tuple_list  : EvC (isiG [.non, .tup [.ty "tuple", .ty "list"]]) (.val (.bl false)) := ⟨g_isp rfl (by decide)⟩
instance ip_non_int_str  : EvC (isiG [.non, .tup [.ty "int", .ty "str"]]) (.val (.bl false)) := ⟨g_isp rfl (by decide)⟩
instance ip_non_str_int  : EvC (isiG [.non, .tup [.ty "str", .ty "int"]]) (.val (.bl false)) := ⟨g_isp rfl (by decide)⟩
instance is_bl_bool {v : Bool} : EvC (isiG [(.bl v), .ty "bool"]) (.val (.bl true)) := ⟨g_isi rfl (by decide)⟩
instance is_bl_int {v : Bool} : EvC (isiG [(.bl v), .ty "int"]) (.val (.bl true)) := ⟨g_isi rfl (by decide)⟩
instance is_bl_str {v : Bool} : EvC (isiG [(.bl v), .ty "str"]) (.val (.bl false)) := ⟨g_isi rfl (by decide)⟩
instance is_bl_tuple {v : Bool} : EvC (isiG [(.bl v), .ty "tuple"]) (.val (.bl false)) := ⟨g_isi rfl (by decide)⟩
instance is_bl_list {v : Bool} : EvC (isiG [(.bl v), .ty "list"]) (.val (.bl false)) := ⟨g_isi rfl (by decide)⟩
instance is_bl_dict {v : Bool} : EvC (isiG [(.bl v), .ty "dict"]) (.val (.bl false)) := ⟨g_isi rfl (by decide)⟩
instance ip_bl_list_tuple {v : Bool} : EvC (isiG [(.bl v), .tup [.ty "list", .ty "tuple"]]) (.val (.bl false)) := ⟨g_isp rfl (by decide)⟩
instance ip_bl_tuple_list {v : Bool} : EvC (isiG [(.bl v), .tup [.ty "tuple", .ty "list"]]) (.val (.bl false)) := ⟨g_isp rfl (by decide)⟩
instance ip_bl_int_str {v : Bool} : EvC (isiG [(.bl v), .tup [.ty "int", .ty "str"]]) (.val (.bl true)) := ⟨g_isp rfl (by decide)⟩
instance ip_bl_str_int {v : Bool} : EvC (isiG [(.bl v), .tup [.ty "str", .ty "int"]]) (.val (.bl true)) := ⟨g_isp rfl (by decide)⟩
instance is_int_bool {v : Int} : EvC (isiG [(.int v), .ty "bool"]) (.val (.bl false)) := ⟨g_isi rfl (by decide)⟩
instance is_int_int {v : Int} : EvC (isiG [(.int v), .ty "int"]) (.val (.bl true)) := ⟨g_isi rfl (by decide)⟩
instance is_int_str {v : Int} : EvC (isiG [(.int v), .ty "str"]) (.val (.bl false)) := ⟨g_isi rfl (by decide)⟩
instance is_int_tuple {v : Int} : EvC (isiG [(.int v), .ty "tuple"]) (.val (.bl false)) := ⟨g_isi rfl (by decide)⟩
instance is_int_list {v : Int} : EvC (isiG [(.int v), .ty "list"]) (.val (.bl false)) := ⟨g_isi rfl (by decide)⟩
instance is_int_dict {v : Int} : EvC (isiG [(.int v), .ty "dict"]) (.val (.bl false)) := ⟨g_isi rfl (by decide)⟩
instance ip_int_list_tuple {v : Int} : EvC (isiG [(.int v), .tup [.ty "list", .ty "tuple"]]) (.val (.bl false)) := ⟨g_isp rfl (by decide)⟩
instance ip_int_tuple_list {v : Int} : EvC (isiG [(.int v), .tup [.ty "tuple", .ty "list"]]) (.val (.bl false)) := ⟨g_isp rfl (by decide)⟩
instance ip_int_int_str {v : Int} : EvC (isiG [(.int v), .tup [.ty "int", .ty "str"]]) (.val (.bl true)) := ⟨g_isp rfl (by decide)⟩
instance ip_int_str_int {v : Int} : EvC (isiG [(.int v), .tup [.ty "str", .ty "int"]]) (.val (.bl true)) := ⟨g_isp rfl (by decide)⟩
instance is_str_bool {v : Str} : EvC (isiG [(.str v), .ty "bool"]) (.val (.bl false)) := ⟨g_isi rfl (by decide)⟩
instance is_str_int {v : Str} : EvC (isiG [(.str v), .ty "int"]) (.val (.bl false)) := ⟨g_isi rfl (by decide)⟩
instance is_str_str {v : Str} : EvC (isiG [(.str v), .ty "str"]) (.val (.bl true)) := ⟨g_isi rfl (by decide)⟩
instance is_str_tuple {v : Str} : EvC (isiG [(.str v), .ty "tuple"]) (.val (.bl false)) := ⟨g_isi rfl (by decide)⟩
instance is_str_list {v : Str} : EvC (isiG [(.str v), .ty "list"]) (.val (.bl false)) := ⟨g_isi rfl (by decide)⟩
instance is_str_dict {v : Str} : EvC (isiG [(.str v), .ty "dict"]) (.val (.bl false)) := ⟨g_isi rfl (by decide)⟩
instance ip_str_list_tuple {v : Str} : EvC (isiG [(.str v), .tup [.ty "list", .ty "tuple"]]) (.val (.bl false)) := ⟨g_isp rfl (by decide)⟩
instance ip_str_tuple_list {v : Str} : EvC (isiG [(.str v), .tup [.ty "tuple", .ty "list"]]) (.val (.bl false)) := ⟨g_isp rfl (by decide)⟩
instance ip_str_int_str {v : Str} : EvC (isiG [(.str v), .tup [.ty "int", .ty "str"]]) (.val (.bl true)) := ⟨g_isp rfl (by decide)⟩
instance ip_str_str_int {v : Str} : EvC (isiG [(.str v), .tup [.ty "str", .ty "int"]]) (.val (.bl true)) := ⟨g_isp rfl (by decide)⟩
instance is_tup_bool {v : List D} : EvC (isiG [(.tup v), .ty "bool"]) (.val (.bl false)) := ⟨g_isi rfl (by decide)⟩
instance is_tup_int {v : List D} : EvC (isiG [(.tup v), .ty "int"]) (.val (.bl false)) := ⟨g_isi rfl (by decide)⟩
instance is_tup_str {v : List D} : EvC (isiG [(.tup v), .ty "str"]) (.val (.bl false)) := ⟨g_isi rfl (by decide)⟩
instance is_tup_tuple {v : List D} : EvC (isiG [(.tup v), .ty "tuple"]) (.val (.bl true)) := ⟨g_isi rfl (by decide)⟩
instance is_tup_list {v : List D} : EvC (isiG [(.tup v), .ty "list"]) (.val (.bl false)) := ⟨g_isi rfl (by decide)⟩
instance is_tup_dict {v : List D} : EvC (isiG [(.tup v), .ty "dict"]) (.val (.bl false)) := ⟨g_isi rfl (by decide)⟩
instance ip_tup_list_tuple {v : List D} : EvC (isiG [(.tup v), .tup [.ty "list", .ty "tuple"]]) (.val (.bl true)) := ⟨g_isp rfl (by decide)⟩
instance ip_tup_tuple_list {v : List D} : EvC (isiG [(.tup v), .tup [.ty "tuple", .ty "list"]]) (.val (.bl true)) := ⟨g_isp rfl (by decide)⟩
instance ip_tup_int_str {v : List D} : EvC (isiG [(.tup v), .tup [.ty "int", .ty "str"]]) (.val (.bl false)) := ⟨g_isp rfl (by decide)⟩
instance ip_tup_str_int {v : List D} : EvC (isiG [(.tup v), .tup [.ty "str", .ty "int"]]) (.val (.bl false)) := ⟨g_isp rfl (by decide)⟩
instance is_ktp_bool {v : List D} : EvC (isiG [(.ktp v), .ty "bool"]) (.val (.bl false)) := ⟨g_isi rfl (by decide)⟩
instance is_ktp_int {v : List D} : EvC (isiG [(.ktp v), .ty "int"]) (.val (.bl false)) := ⟨g_isi rfl (by decide)⟩
instance is_ktp_str {v : List D} : EvC (isiG [(.ktp v), .ty "str"]) (.val (.bl false)) := ⟨g_isi rfl (by decide)⟩
instance is_ktp_tuple {v : List D} : EvC (isiG [(.ktp v), .ty "tuple"]) (.val (.bl true)) := ⟨g_isi rfl (by decide)⟩
instance is_ktp_list {v : List D} : EvC (isiG [(.ktp v), .ty "list"]) (.val (.bl false)) := ⟨g_isi rfl (by decide)⟩
instance is_ktp_dict {v : List D} : EvC (isiG [(.ktp v), .ty "dict"]) (.val (.bl false)) := ⟨g_isi rfl (by decide)⟩
instance ip_ktp_list_tuple {v : List D} : EvC (isiG [(.ktp v), .tup [.ty "list", .ty "tuple"]]) (.val (.bl true)) := ⟨g_isp rfl (by decide)⟩
instance ip_ktp_tuple_list {v : List D} : EvC (isiG [(.ktp v), .tup [.ty "tuple", .ty "list"]]) (.val (.bl true)) := ⟨g_isp rfl (by decide)⟩
instance ip_ktp_int_str {v : List D} : EvC (isiG [(.ktp v), .tup [.ty "int", .ty "str"]]) (.val (.bl false)) := ⟨g_isp rfl (by decide)⟩
instance ip_ktp_str_int {v : List D} : EvC (isiG [(.ktp v), .tup [.ty "str", .ty "int"]]) (.val (.bl false)) := ⟨g_isp rfl (by decide)⟩
instance is_lst_bool {v : List D} : EvC (isiG [(.lst v), .ty "bool"]) (.val (.bl false)) := ⟨g_isi rfl (by decide)⟩
instance is_lst_int {v : List D} : EvC (isiG [(.lst v), .ty "int"]) (.val (.bl false)) := ⟨g_isi rfl (by decide)⟩
instance is_lst_str {v : List D} : EvC (isiG [(.lst v), .ty "str"]) (.val (.bl false)) := ⟨g_isi rfl (by decide)⟩
instance is_lst_tuple {v : List D} : EvC (isiG [(.lst v), .ty "tuple"]) (.val (.bl false)) := ⟨g_isi rfl (by decide)⟩
instance is_lst_list {v : List D} : EvC (isiG [(.lst v), .ty "list"]) (.val (.bl true)) := ⟨g_isi rfl (by decide)⟩
instance is_lst_dict {v : List D} : EvC (isiG [(.lst v), .ty "dict"]) (.val (.bl false)) := ⟨g_isi rfl (by decide)⟩
instance ip_lst_list_tuple {v : List D} : EvC (isiG [(.lst v), .tup [.ty "list", .ty "tuple"]]) (.val (.bl true)) := ⟨g_isp rfl (by decide)⟩
instance ip_lst_tuple_list {v : List D} : EvC (isiG [(.lst v), .tup [.ty "tuple", .ty "list"]]) (.val (.bl true)) := ⟨g_isp rfl (by decide)⟩
instance ip_lst_int_str {v : List D} : EvC (isiG [(.lst v), .tup [.ty "int", .ty "str"]]) (.val (.bl false)) := ⟨g_isp rfl (by decide)⟩
instance ip_lst_str_int {v : List D} : EvC (isiG [(.lst v), .tup [.ty "str", .ty "int"]]) (.val (.bl false)) := ⟨g_isp rfl (by decide)⟩
instance is_scr_bool {v : List D} : EvC (isiG [(.scr v), .ty "bool"]) (.val (.bl false)) := ⟨g_isi rfl (by decide)⟩
instance is_scr_int {v : List D} : EvC (isiG [(.scr v), .ty "int"]) (.val (.bl false)) := ⟨g_isi rfl (by decide)⟩
instance is_scr_str {v : List D} : EvC (isiG [(.scr v), .ty "str"]) (.val (.bl false)) := ⟨g_isi rfl (by decide)⟩
instance is_scr_tuple {v : List D} : EvC (isiG [(.scr v), .ty "tuple"]) (.val (.bl false)) := ⟨g_isi rfl (by decide)⟩
instance is_scr_list {v : List D} : EvC (isiG [(.scr v), .ty "list"]) (.val (.bl true)) := ⟨g_isi rfl (by decide)⟩
instance is_scr_dict {v : List D} : EvC (isiG [(.scr v), .ty "dict"]) (.val (.bl false)) := ⟨g_isi rfl (by decide)⟩
instance ip_scr_list_tuple {v : List D} : EvC (isiG [(.scr v), .tup [.ty "list", .ty "tuple"]]) (.val (.bl true)) := ⟨g_isp rfl (by decide)⟩
instance ip_scr_tuple_list {v : List D} : EvC (isiG [(.scr v), .tup [.ty "tuple", .ty "list"]]) (.val (.bl true)) := ⟨g_isp rfl (by decide)⟩
instance ip_scr_int_str {v : List D} : EvC (isiG [(.scr v), .tup [.ty "int", .ty "str"]]) (.val (.bl false)) := ⟨g_isp rfl (by decide)⟩
instance ip_scr_str_int {v : List D} : EvC (isiG [(.scr v), .tup [.ty "str", .ty "int"]]) (.val (.bl false)) := ⟨g_isp rfl (by decide)⟩
instance is_dK_bool {k : List Key} {v : List D} : EvC (isiG [(.dK k v), .ty "bool"]) (.val (.bl false)) := ⟨g_isi rfl (by decide)⟩
instance is_dK_int {k : List Key} {v : List D} : EvC (isiG [(.dK k v), .ty "int"]) (.val (.bl false)) := ⟨g_isi rfl (by decide)⟩
instance is_dK_str {k : List Key} {v : List D} : EvC (isiG [(.dK k v), .ty "str"]) (.val (.bl false)) := ⟨g_isi rfl (by decide)⟩
instance is_dK_tuple {k : List Key} {v : List D} : EvC (isiG [(.dK k v), .ty "tuple"]) (.val (.bl false)) := ⟨g_isi rfl (by decide)⟩
instance is_dK_list {k : List Key} {v : List D} : EvC (isiG [(.dK k v), .ty "list"]) (.val (.bl false)) := ⟨g_isi rfl (by decide)⟩
instance is_dK_dict {k : List Key} {v : List D} : EvC (isiG [(.dK k v), .ty "dict"]) (.val (.bl true)) := ⟨g_isi rfl (by decide)⟩
instance ip_dK_list_tuple {k : List Key} {v : List D} : EvC (isiG [(.dK k v), .tup [.ty "list", .ty "tuple"]]) (.val (.bl false)) := ⟨g_isp rfl (by decide)⟩
instance ip_dK_tuple_list {k : List Key} {v : List D} : EvC (isiG [(.dK k v), .tup [.ty "tuple", .ty "list"]]) (.val (.bl false)) := ⟨g_isp rfl (by decide)⟩
instance ip_dK_int_str {k : List Key} {v : List D} : EvC (isiG [(.dK k v), .tup [.ty "int", .ty "str"]]) (.val (.bl false)) := ⟨g_isp rfl (by decide)⟩
instance ip_dK_str_int {k : List Key} {v : List D} : EvC (isiG [(.dK k v), .tup [.ty "str", .ty "int"]]) (.val (.bl false)) := ⟨g_isp rfl (by decide)⟩
instance is_dT_bool {k : List (List Key)} {v : List D} : EvC (isiG [(.dT k v), .ty "bool"]) (.val (.bl false)) := ⟨g_isi rfl (by decide)⟩
instance is_dT_int {k : List (List Key)} {v : List D} : EvC (isiG [(.dT k v), .ty "int"]) (.val (.bl false)) := ⟨g_isi rfl (by decide)⟩
instance is_dT_str {k : List (List Key)} {v : List D} : EvC (isiG [(.dT k v), .ty "str"]) (.val (.bl false)) := ⟨g_isi rfl (by decide)⟩
instance is_dT_tuple {k : List (List Key)} {v : List D} : EvC (isiG [(.dT k v), .ty "tuple"]) (.val (.bl false)) := ⟨g_isi rfl (by decide)⟩
instance is_dT_list {k : List (List Key)} {v : List D} : EvC (isiG [(.dT k v), .ty "list"]) (.val (.bl false)) := ⟨g_isi rfl (by decide)⟩
instance is_dT_dict {k : List (List Key)} {v : List D} : EvC (isiG [(.dT k v), .ty "dict"]) (.val (.bl true)) := ⟨g_isi rfl (by decide)⟩
instance ip_dT_list_tuple {k : List (List Key)} {v : List D} : EvC (isiG [(.dT k v), .tup [.ty "list", .ty "tuple"]]) (.val (.bl false)) := ⟨g_isp rfl (by decide)⟩
instance ip_dT_tuple_list {k : List (List Key)} {v : List D} : EvC (isiG [(.dT k v), .tup [.ty "tuple", .ty "list"]]) (.val (.bl false)) := ⟨g_isp rfl (by decide)⟩
instance ip_dT_int_str {k : List (List Key)} {v : List D} : EvC (isiG [(.dT k v), .tup [.ty "int", .ty "str"]]) (.val (.bl false)) := ⟨g_isp rfl (by decide)⟩
instance ip_dT_str_int {k : List (List Key)} {v : List D} : EvC (isiG [(.dT k v), .tup [.ty "str", .ty "int"]]) (.val (.bl false)) := ⟨g_isp rfl (by decide)⟩
section
variable {α β : Type} {s s1 : S} {e : Env} {h : Hh} {Q : α → S → Prop} {E : XQ}
instance i_w_bnd {f : M β} {k : β → M α}   : St (wpM (bnd f k) s Q E) (wpM f s (fun a s1 => wpM (k a) s1 Q E) E) := ⟨fun q => w_bnd  q⟩
instance i_w_ret {a : α}   : St (wpM (ret a) s Q E) (Q a s) := ⟨fun q => w_ret  q⟩
instance i_w_opt {o : Option α} {a : α} [c_ho : EvC o a]  : St (wpM (opt o) s Q E) (Q a s) := ⟨fun q => w_opt c_ho.h q⟩
instance i_w_iteT {f g : M α}   : St (wpM (if true = true then f else g) s Q E) (wpM f s Q E) := ⟨fun q => w_iteT  q⟩
instance i_w_iteF {f g : M α}   : St (wpM (if false = true then f else g) s Q E) (wpM g s Q E) := ⟨fun q => w_iteF  q⟩
instance i_w_iteN {b : Bool} {f g : M α}   : St (wpM (if (!b) = true then f else g) s Q E) (wpM (if b = true then g else f) s Q E) := ⟨fun q => w_iteN  q⟩
instance i_w_guardT {Q : Unit → S → Prop}   : St (wpM (guard true) s Q E) (Q () s) := ⟨fun q => w_guardT  q⟩
end
section
variable {s : S} {e : Env} {h : Hh} {Q : W → S → Prop} {E : XQ} {d : D} {c : Cell} {i n : Nat}
instance i_w_kI {j : Int}   : St (wpM (kI j) s Q E) (Q (.val (.int j)) s) := ⟨fun q => w_kI  q⟩
instance i_w_kB {b : Bool}   : St (wpM (kB b) s Q E) (Q (.val (.bl b)) s) := ⟨fun q => w_kB  q⟩
instance i_w_kN    : St (wpM kN s Q E) (Q (.val .non) s) := ⟨fun q => w_kN  q⟩
instance i_w_kS {x : Str}   : St (wpM (kS x) s Q E) (Q (.val (.str x)) s) := ⟨fun q => w_kS  q⟩
instance i_w_kD    : St (wpM (kD d) s Q E) (Q (.val d) s) := ⟨fun q => w_kD  q⟩
instance i_w_nameF  [c_he : AtC e i (.fz d)]  : St (wpM (nameM i) ⟨e, h⟩ Q E) (Q (.slot i) ⟨e, h⟩) := ⟨fun q => w_nameF c_he.h q⟩
instance i_w_nameO  [c_he : AtC e i (.ow c)]  : St (wpM (nameM i) ⟨e, h⟩ Q E) (Q (.slot i) ⟨e, h⟩) := ⟨fun q => w_nameO c_he.h q⟩
instance i_w_fixV    : St (wpM (fix (.val d)) s Q E) (Q (.val d) s) := ⟨fun q => w_fixV  q⟩
instance i_w_fixS    : St (wpM (fix (.slot i)) s Q E) (Q (.slot i) s) := ⟨fun q => w_fixS  q⟩
instance i_w_fixN {xs : List D}   : St (wpM (fix (.new (.lst xs))) s Q E) (Q (.val (.lst xs)) s) := ⟨fun q => w_fixN  q⟩
end
section
variable {s : S} {e : Env} {h : Hh} {Q : D → S → Prop} {E : XQ} {d : D} {c : Cell} {i n : Nat}
instance i_w_toDV    : St (wpM (toD (.val d)) s Q E) (Q d s) := ⟨fun q => w_toDV  q⟩
instance i_w_toDN   {dc : D} [ct : ToC c dc] : St (wpM (toD (.new c)) s Q E) (Q dc s) := ⟨fun q => by
  refine w_toDN  ?_
  rw [ct.h]
  exact q⟩
instance i_w_toDF  [c_he : AtC e i (.fz d)]  : St (wpM (toD (.slot i)) ⟨e, h⟩ Q E) (Q d ⟨e, h⟩) := ⟨fun q => w_toDF c_he.h q⟩
instance i_w_toDO  [c_he : AtC e i (.ow c)] {dc : D} [ct : ToC c dc] {e1 : Env} [s1 : SetC e i (.fz dc) e1] : St (wpM (toD (.slot i)) ⟨e, h⟩ Q E) (Q dc ⟨e1, h⟩) := ⟨fun q => by
  refine w_toDO c_he.h ?_
  rw [ct.h]
  rw [s1.h]
  exact q⟩
instance i_w_vdN_    : St (wpM (viewD (.non)) s Q E) (Q (.non) s) := ⟨fun q => w_vdN_  q⟩
instance i_w_vdB_ {b : Bool}   : St (wpM (viewD (.bl b)) s Q E) (Q (.bl b) s) := ⟨fun q => w_vdB_  q⟩
instance i_w_vdI_ {j : Int}   : St (wpM (viewD (.int j)) s Q E) (Q (.int j) s) := ⟨fun q => w_vdI_  q⟩
instance i_w_vdS_ {x : Str}   : St (wpM (viewD (.str x)) s Q E) (Q (.str x) s) := ⟨fun q => w_vdS_  q⟩
instance i_w_vdY_ {x : String}   : St (wpM (viewD (.ty x)) s Q E) (Q (.ty x) s) := ⟨fun q => w_vdY_  q⟩
instance i_w_vdT_ {xs : List D}   : St (wpM (viewD (.tup xs)) s Q E) (Q (.tup xs) s) := ⟨fun q => w_vdT_  q⟩
instance i_w_vdK_ {xs : List D}   : St (wpM (viewD (.ktp xs)) s Q E) (Q (.ktp xs) s) := ⟨fun q => w_vdK_  q⟩
instance i_w_vdL_ {xs : List D}   : St (wpM (viewD (.lst xs)) s Q E) (Q (.lst xs) s) := ⟨fun q => w_vdL_  q⟩
instance i_w_vdR_ {xs : List D}   : St (wpM (viewD (.scr xs)) s Q E) (Q (.scr xs) s) := ⟨fun q => w_vdR_  q⟩
instance i_w_vdD_ {ks : List Key} {vs : List D}   : St (wpM (viewD (.dK ks vs)) s Q E) (Q (.dK ks vs) s) := ⟨fun q => w_vdD_  q⟩
instance i_w_vdE_ {ks : List (List Key)} {vs : List D}   : St (wpM (viewD (.dT ks vs)) s Q E) (Q (.dT ks vs) s) := ⟨fun q => w_vdE_  q⟩
instance i_w_vdO_ {C : Str} {ns : List Str} {vs : List D}   : St (wpM (viewD (.obj C ns vs)) s Q E) (Q (.obj C ns vs) s) := ⟨fun q => w_vdO_  q⟩
instance i_w_vdC_ {C : Str}   : St (wpM (viewD (.cls C)) s Q E) (Q (.cls C) s) := ⟨fun q => w_vdC_  q⟩
instance i_w_viewV    : St (wpM (view (.val d)) s Q E) (wpM (viewD d) s Q E) := ⟨fun q => w_viewV  q⟩
instance i_w_viewN   {dc : D} [ct : ToC c dc] : St (wpM (view (.new c)) s Q E) (Q dc s) := ⟨fun q => by
  refine w_viewN  ?_
  rw [ct.h]
  exact q⟩
instance i_w_viewF  [c_he : AtC e i (.fz d)]  : St (wpM (view (.slot i)) ⟨e, h⟩ Q E) (wpM (viewD d) ⟨e, h⟩ Q E) := ⟨fun q => w_viewF c_he.h q⟩
instance i_w_viewO  [c_he : AtC e i (.ow c)] {dc : D} [ct : ToC c dc] : St (wpM (view (.slot i)) ⟨e, h⟩ Q E) (Q dc ⟨e, h⟩) := ⟨fun q => by
  refine w_viewO c_he.h ?_
  rw [ct.h]
  exact q⟩
end
section
variable {s : S} {e : Env} {h : Hh} {Q : List D → S → Prop} {E : XQ} {w : W} {ws : List W}
instance i_w_toDs0    : St (wpM (toDs []) s Q E) (Q [] s) := ⟨fun q => w_toDs0  q⟩
instance i_w_toDs1    : St (wpM (toDs (w :: ws)) s Q E) (wpM (toD w) s (fun d s1 => wpM (toDs ws) s1 (fun ds s2 => Q (d :: ds) s2) E) E) := ⟨fun q => w_toDs1  q⟩
instance i_w_views0    : St (wpM (views []) s Q E) (Q [] s) := ⟨fun q => w_views0  q⟩
instance i_w_views1    : St (wpM (views (w :: ws)) s Q E) (wpM (view w) s (fun d s1 => wpM (views ws) s1 (fun ds s2 => Q (d :: ds) s2) E) E) := ⟨fun q => w_views1  q⟩
end
section
variable {s : S} {Q : List W → S → Prop} {E : XQ} {f : M W} {g : M (List W)}
instance i_w_nilA    : St (wpM nilA s Q E) (Q [] s) := ⟨fun q => w_nilA  q⟩
instance i_w_consA    : St (wpM (consA f g) s Q E) (wpM f s (fun x s1 => wpM (fix x) s1 (fun x s2 => wpM g s2 (fun r s3 => Q (x :: r) s3) E) E) E) := ⟨fun q => w_consA  q⟩
end
section
variable {s : S} {e : Env} {h : Hh} {Q : W → S → Prop} {E : XQ}
instance i_w_op {g : D → D → Option W} {fa fb : M W}   : St (wpM (opM g fa fb) s Q E) (wpM fa s (fun x s1 => wpM fb s1 (fun y s2 => wpM (view x) s2 (fun dx s3 => wpM (view y) s3 (fun dy s4 => wpM (opt (g dx dy)) s4 Q E) E) E) E) E) := ⟨fun q => w_op  q⟩
instance i_w_cmp {Q : Bool → S → Prop} {g : D → D → Option Bool} {fa fb : M W}   : St (wpM (cmpM g fa fb) s Q E) (wpM fa s (fun x s1 => wpM fb s1 (fun y s2 => wpM (view x) s2 (fun dx s3 => wpM (view y) s3 (fun dy s4 => wpM (opt (g dx dy)) s4 Q E) E) E) E) E) := ⟨fun q => w_cmp  q⟩
instance i_w_bW {o : Option Bool} {b : Bool} [c_hb : EvC o b]  : St (wpM (opt (bW o)) s Q E) (Q (.val (.bl b)) s) := ⟨fun q => w_bW c_hb.h q⟩
instance i_w_cmpV {g : D → D → Option Bool} {fa fb : M W}   : St (wpM (cmpV g fa fb) s Q E) (wpM (cmpM g fa fb) s (fun b s1 => Q (.val (.bl b)) s1) E) := ⟨fun q => w_cmpV  q⟩
instance i_w_blM {f : M Bool}   : St (wpM (blM f) s Q E) (wpM f s (fun b s1 => Q (.val (.bl b)) s1) E) := ⟨fun q => w_blM  q⟩
instance i_w_un {g : D → Option W} {fa : M W}   : St (wpM (unM g fa) s Q E) (wpM fa s (fun x s1 => wpM (view x) s1 (fun d s2 => wpM (opt (g d)) s2 Q E) E) E) := ⟨fun q => w_un  q⟩
instance i_w_tru {Q : Bool → S → Prop} {fa : M W}   : St (wpM (truM fa) s Q E) (wpM fa s (fun x s1 => wpM (view x) s1 (fun d s2 => wpM (opt (truD d)) s2 Q E) E) E) := ⟨fun q => w_tru  q⟩
instance i_w_not {fa : M W}   : St (wpM (notV fa) s Q E) (wpM (truM fa) s (fun b s1 => Q (.val (.bl (!b))) s1) E) := ⟨fun q => w_not  q⟩
instance i_w_ite {ft : M Bool} {fa fb : M W}   : St (wpM (iteM ft fa fb) s Q E) (wpM ft s (fun b s1 => wpM (if b = true then fa else fb) s1 Q E) E) := ⟨fun q => w_ite  q⟩
instance i_w_and {Q : Bool → S → Prop} {f g : M Bool}   : St (wpM (andM f g) s Q E) (wpM f s (fun b s1 => wpM (if b = true then g else ret false) s1 Q E) E) := ⟨fun q => w_and  q⟩
instance i_w_or {Q : Bool → S → Prop} {f g : M Bool}   : St (wpM (orM f g) s Q E) (wpM f s (fun b s1 => wpM (if b = true then ret true else g) s1 Q E) E) := ⟨fun q => w_or  q⟩
instance i_w_andV {fa fb : M W}   : St (wpM (andV fa fb) s Q E) (wpM fa s (fun x s1 => wpM (view x) s1 (fun d s2 => wpM (opt (truD d)) s2 (fun b s3 => wpM (if b = true then fb else ret x) s3 Q E) E) E) E) := ⟨fun q => w_andV  q⟩
instance i_w_orV {fa fb : M W}   : St (wpM (orV fa fb) s Q E) (wpM fa s (fun x s1 => wpM (view x) s1 (fun d s2 => wpM (opt (truD d)) s2 (fun b s3 => wpM (if b = true then ret x else fb) s3 Q E) E) E) E) := ⟨fun q => w_orV  q⟩
instance i_w_chain {Q : Bool → S → Prop} {g g2 : D → D → Option Bool} {fa fb fc : M W}   : St (wpM (chainM g g2 fa fb fc) s Q E) (wpM fa s (fun x s1 => wpM fb s1 (fun y s2 => wpM (view x) s2 (fun dx s3 => wpM (view y) s3 (fun dy s4 => wpM (opt (g dx dy)) s4 (fun k s5 => wpM (if k = true then bnd fc fun z => bnd (view y) fun dy => bnd (view z) fun dz => opt (g2 dy dz) else ret false) s5 Q E) E) E) E) E) E) := ⟨fun q => w_chain  q⟩
instance i_w_tup {f : M (List W)}   : St (wpM (tupM f) s Q E) (wpM f s (fun ws s1 => wpM (toDs ws) s1 (fun ds s2 => ds.length ≤ sizeLine ∧ Q (.val (.tup ds)) s2) E) E) := ⟨fun q => w_tup  q⟩
instance i_w_lst {f : M (List W)}   : St (wpM (lstM f) s Q E) (wpM f s (fun ws s1 => wpM (toDs ws) s1 (fun ds s2 => ds.length ≤ sizeLine ∧ Q (.new (.lst ds)) s2) E) E) := ⟨fun q => w_lst  q⟩
instance i_w_callM {g : List D → Option W} {fs : M (List W)}   : St (wpM (callM g fs) s Q E) (wpM fs s (fun ws s1 => wpM (views ws) s1 (fun ds s2 => wpM (opt (g ds)) s2 Q E) E) E) := ⟨fun q => w_callM  q⟩
instance i_w_intM {Q : Int → S → Prop} {fa : M W}   : St (wpM (intM fa) s Q E) (wpM fa s (fun x s1 => wpM (view x) s1 (fun d s2 => wpM (opt (intOf d)) s2 Q E) E) E) := ⟨fun q => w_intM  q⟩
instance i_w_sl {fa : M W} {fl fh : M (Option Int)}   : St (wpM (slM fa fl fh) s Q E) (wpM fa s (fun x s1 => wpM fl s1 (fun lo s2 => wpM fh s2 (fun hi s3 => wpM (view x) s3 (fun d s4 => wpM (opt (slG d lo hi)) s4 Q E) E) E) E) E) := ⟨fun q => w_sl  q⟩
instance i_w_mt {t : String} {g : D → List D → Option W} {fa : M W} {fs : M (List W)}   : St (wpM (mtM t g fa fs) s Q E) (wpM fa s (fun x s1 => wpM (fix x) s1 (fun x s2 => wpM (view x) s2 (fun d s3 => wpM (guard (decide (mtyD d = some t))) s3 (fun _ s4 => wpM fs s4 (fun ws s5 => wpM (view x) s5 (fun d s6 => wpM (views ws) s6 (fun ds s7 => wpM (opt (g d ds)) s7 Q E) E) E) E) E) E) E) E) := ⟨fun q => w_mt  q⟩
instance i_w_mu {t : String} {g : Cell → List D → Option (Cell × D)} {fa : M W} {fs : M (List W)}   : St (wpM (muM t g fa fs) s Q E) (wpM fa s (fun x s1 => wpM (fix x) s1 (fun x s2 => wpM (view x) s2 (fun d s3 => wpM (guard (decide (mtyD d = some t))) s3 (fun _ s4 => wpM fs s4 (fun ws s5 => wpM (toDs ws) s5 (fun ds s6 => wpM (updW x fun cl => g cl ds) s6 (fun y s7 => Q (.val y) s7) E) E) E) E) E) E) E) := ⟨fun q => w_mu  q⟩
instance i_w_updO {α : Type} {Q : α → S → Prop} {k : Cell → Option (Cell × α)} {i : Nat} {cl cl' : Cell} {a : α} [c_he : AtC e i (.ow cl)] [c_hk : EvC (k cl) (cl', a)] {e1 : Env} [s1 : SetC e i (.ow cl') e1] : St (wpM (updW (.slot i) k) ⟨e, h⟩ Q E) (Q a ⟨e1, h⟩) := ⟨fun q => by
  refine w_updO c_he.h c_hk.h ?_
  rw [s1.h]
  exact q⟩
instance i_w_sub {Q : Fl → S → Prop} {g : D → D → Cell → Option Cell} {fo fi fe : M W}   : St (wpM (subM g fo fi fe) s Q E) (wpM fe s (fun w s1 => wpM (toD w) s1 (fun d s2 => wpM fo s2 (fun x s3 => wpM fi s3 (fun y s4 => wpM (view y) s4 (fun k s5 => wpM (updW x fun cl => (g k d cl).map fun cl' => (cl', ())) s5 (fun _ s6 => Q .next s6) E) E) E) E) E) E) := ⟨fun q => w_sub  q⟩
instance i_w_callF {n : Nat} {F : List D → M W} {fs : M (List W)}   : St (wpM (callF n F fs) s Q E) (wpM fs s (fun ws s1 => wpM (toDs ws) s1 (fun ds s2 => ds.length = n ∧ wpM (F ds) ⟨[], s2.h⟩ (fun w s3 => Q w ⟨s2.e, s3.h⟩) (fun C ns vs s3 => E C ns vs ⟨s2.e, s3.h⟩)) E) E) := ⟨fun q => w_callF  q⟩
instance i_w_callKF {n m : Nat} {ix : List Nat} {F : List D → M W} {fs : M (List W)}   : St (wpM (callKF n m ix F fs) s Q E) (wpM fs s (fun ws s1 => wpM (toDs ws) s1 (fun ds s2 => (ds.length = m ∧ (pm ix ds).length = n) ∧ wpM (F (pm ix ds)) ⟨[], s2.h⟩ (fun w s3 => Q w ⟨s2.e, s3.h⟩) (fun C ns vs s3 => E C ns vs ⟨s2.e, s3.h⟩)) E) E) := ⟨fun q => w_callKF  q⟩
instance i_w_makeM {x : Str} {n : Nat} {F : List D → M W} {fs : M (List W)}   : St (wpM (makeM x n F fs) s Q E) (wpM fs s (fun ws s1 => wpM (toDs ws) s1 (fun ds s2 => ds.length + 1 = n ∧ wpM (F (.ref s2.h.length :: ds)) ⟨[], s2.h ++ [.ins x [] []]⟩ (fun w s3 => w = .val .non ∧ Q (.val (.ref s2.h.length)) ⟨s2.e, s3.h⟩) (fun C ns vs s3 => E C ns vs ⟨s2.e, s3.h⟩)) E) E) := ⟨fun q => w_makeM  q⟩
instance i_w_lenSet {fa : M W}   : St (wpM (lenSetM fa) s Q E) (wpM fa s (fun x s1 => wpM (view x) s1 (fun d s2 => ∃ xs : List Str, (∃ ds, seqOf d = some ds ∧ ds = xs.map D.str) ∧ xs.length ≤ 4000 ∧ Q (.val (.int ((uniq [] xs).length : Nat))) s2) E) E) := ⟨fun q => w_lenSet  q⟩
instance i_w_dict    : St (wpM dictM s Q E) (Q (.new (.dK [] [])) s) := ⟨fun q => w_dict  q⟩
instance i_w_atr {cs : List Str} {f : Str} {fo : M W}   : St (wpM (atrM cs f fo) s Q E) (wpM fo s (fun o s1 => wpM (view o) s1 (fun d s2 => ∃ C ns ds x, d = .obj C ns ds ∧ cs.contains C = true ∧ lookF ns ds f = some x ∧ Q (.val x) s2) E) E) := ⟨fun q => w_atr  q⟩
instance i_w_sat {Q : Fl → S → Prop} {cs : List Str} {f : Str} {fo fe : M W}   : St (wpM (satM cs f fo fe) s Q E) (wpM fe s (fun w s1 => wpM (toD w) s1 (fun d s2 => wpM fo s2 (fun x s3 => wpM (updW x fun cl => (setF cs f d cl).map fun cl' => (cl', ())) s3 (fun _ s4 => Q .next s4) E) E) E) E) := ⟨fun q => w_sat  q⟩
end
section
variable {s : S} {e : Env} {h : Hh} {Q : Fl → S → Prop} {E : XQ}
instance i_t_next {g : M Fl}   : St (thenQ g Q E .next s) (wpM g s Q E) := ⟨fun q => t_next  q⟩
instance i_t_ret {g : M Fl} {w : W}   : St (thenQ g Q E (.ret w) s) (Q (.ret w) s) := ⟨fun q => t_ret  q⟩
instance i_t_brk {g : M Fl}   : St (thenQ g Q E .brk s) (Q .brk s) := ⟨fun q => t_brk  q⟩
instance i_t_cont {g : M Fl}   : St (thenQ g Q E .cont s) (Q .cont s) := ⟨fun q => t_cont  q⟩
instance i_w_next    : St (wpM nextM s Q E) (Q .next s) := ⟨fun q => w_next  q⟩
instance i_w_expr {f : M W}   : St (wpM (exprM f) s Q E) (wpM f s (fun _ s1 => Q .next s1) E) := ⟨fun q => w_expr  q⟩
instance i_w_retS {f : M W}   : St (wpM (retM f) s Q E) (wpM f s (fun w s1 => Q (.ret w) s1) E) := ⟨fun q => w_retS  q⟩
instance i_w_if {t : M Bool} {f g : M Fl}   : St (wpM (ifM t f g) s Q E) (wpM t s (fun b s1 => wpM (if b = true then f else g) s1 Q E) E) := ⟨fun q => w_if  q⟩
instance i_w_asg {i : Nat} {f : M W}   : St (wpM (asgM i f) s Q E) (wpM f s (fun w s1 => wpM (setM i w) s1 Q E) E) := ⟨fun q => w_asg  q⟩
instance i_w_setV {i : Nat} {d : D}  {e1 : Env} [s1 : SetC e i (.fz d) e1] : St (wpM (setM i (.val d)) ⟨e, h⟩ Q E) (Q .next ⟨e1, h⟩) := ⟨fun q => by
  refine w_setV s1.lt ?_
  rw [s1.h]
  exact q⟩
instance i_w_setN {i : Nat} {c : Cell}  {e1 : Env} [s1 : SetC e i (.ow c) e1] : St (wpM (setM i (.new c)) ⟨e, h⟩ Q E) (Q .next ⟨e1, h⟩) := ⟨fun q => by
  refine w_setN s1.lt ?_
  rw [s1.h]
  exact q⟩
instance i_w_setF {i j : Nat} {d : D} [c_he : AtC e j (.fz d)] {e1 : Env} [s1 : SetC e i (.fz d) e1] : St (wpM (setM i (.slot j)) ⟨e, h⟩ Q E) (Q .next ⟨e1, h⟩) := ⟨fun q => by
  refine w_setF s1.lt c_he.h ?_
  rw [s1.h]
  exact q⟩
instance i_w_setO {i j : Nat} {c : Cell} [c_he : AtC e j (.ow c)] {dc : D} [ct : ToC c dc] {e1 e2 : Env} [s1 : SetC e j (.fz dc) e1] [s2 : SetC e1 i (.fz dc) e2] : St (wpM (setM i (.slot j)) ⟨e, h⟩ Q E) (Q .next ⟨e2, h⟩) := ⟨fun q => by
  refine w_setO (by have := s2.lt; rw [← s1.h] at this; unfold Lt at *; simpa using this) c_he.h ?_
  rw [ct.h]
  rw [s1.h]
  rw [s2.h]
  exact q⟩
instance i_w_augI {i : Nat} {g : D → D → Option W} {fe : M W} {d : D} [c_he : AtC e i (.fz d)]  : St (wpM (augM i g fe) ⟨e, h⟩ Q E) (wpM fe ⟨e, h⟩ (fun y s1 => wpM (view y) s1 (fun dy s2 => wpM (opt (g d dy)) s2 (fun w s3 => wpM (setM i w) s3 Q E) E) E) E) := ⟨fun q => w_augI c_he.h q⟩
instance i_w_par {i j : Nat} {fa fb : M W}   : St (wpM (par2M i j fa fb) s Q E) (wpM fa s (fun x s1 => wpM (keepW x) s1 (fun x s2 => wpM fb s2 (fun y s3 => wpM (keepW y) s3 (fun y s4 => wpM (stM fun s => match put i x s with | some s1 => put j y s1 | none => none) s4 Q E) E) E) E) E) := ⟨fun q => w_par  q⟩
instance i_w_keepV {Q : W → S → Prop} {d : D}   : St (wpM (keepW (.val d)) s Q E) (Q (.val d) s) := ⟨fun q => w_keepV  q⟩
instance i_w_keepN {Q : W → S → Prop} {c : Cell}   : St (wpM (keepW (.new c)) s Q E) (Q (.new c) s) := ⟨fun q => w_keepN  q⟩
instance i_w_keepF {Q : W → S → Prop} {i : Nat} {d : D} [c_he : AtC e i (.fz d)]  : St (wpM (keepW (.slot i)) ⟨e, h⟩ Q E) (Q (.val d) ⟨e, h⟩) := ⟨fun q => w_keepF c_he.h q⟩
instance i_w_keepO {Q : W → S → Prop} {i : Nat} {c : Cell} [c_he : AtC e i (.ow c)] {dc : D} [ct : ToC c dc] {e1 : Env} [s1 : SetC e i (.fz dc) e1] : St (wpM (keepW (.slot i)) ⟨e, h⟩ Q E) (Q (.val dc) ⟨e1, h⟩) := ⟨fun q => by
  refine w_keepO c_he.h ?_
  rw [ct.h]
  rw [s1.h]
  exact q⟩
instance i_w_unp {f : M W} {fg : Tgf}   : St (wpM (unpM f fg) s Q E) (wpM f s (fun w s1 => wpM (toD w) s1 (fun d s2 => ∃ s3, fg d s2 = some s3 ∧ Q .next s3) E) E) := ⟨fun q => w_unp  q⟩
instance i_w_raise {x : Str} {f : M W}   : St (wpM (raiseM x f) s Q E) (wpM f s (fun w s1 => wpM (toD w) s1 (fun d s2 => E x ["given"] [d] s2) E) E) := ⟨fun q => w_raise  q⟩
instance i_o_next {Q : W → S → Prop}   : St (outQ Q .next ⟨e, h⟩) (Q (.val .non) ⟨[], h⟩) := ⟨fun q => o_next  q⟩
instance i_o_val {Q : W → S → Prop} {d : D}   : St (outQ Q (.ret (.val d)) ⟨e, h⟩) (Q (.val d) ⟨[], h⟩) := ⟨fun q => o_val  q⟩
instance i_o_new {Q : W → S → Prop} {c : Cell}   : St (outQ Q (.ret (.new c)) ⟨e, h⟩) (Q (.new c) ⟨[], h⟩) := ⟨fun q => o_new  q⟩
instance i_o_fz {Q : W → S → Prop} {i : Nat} {d : D} [c_he : AtC e i (.fz d)]  : St (outQ Q (.ret (.slot i)) ⟨e, h⟩) (Q (.val d) ⟨[], h⟩) := ⟨fun q => o_fz c_he.h q⟩
instance i_o_ow {Q : W → S → Prop} {i : Nat} {c : Cell} [c_he : AtC e i (.ow c)]  : St (outQ Q (.ret (.slot i)) ⟨e, h⟩) (Q (.new c) ⟨[], h⟩) := ⟨fun q => o_ow c_he.h q⟩
instance i_u_next {I : S → Prop}   : St (turnQ I Q .next s) (I s) := ⟨fun q => u_next  q⟩
instance i_u_cont {I : S → Prop}   : St (turnQ I Q .cont s) (I s) := ⟨fun q => u_cont  q⟩
instance i_u_brk {I : S → Prop}   : St (turnQ I Q .brk s) (Q .next s) := ⟨fun q => u_brk  q⟩
instance i_u_ret {I : S → Prop} {w : W}   : St (turnQ I Q (.ret w) s) (Q (.ret w) s) := ⟨fun q => u_ret  q⟩
instance i_w_for0 {tg : Tgf} {bd : M Fl}   : St (wpM (forM tg bd []) s Q E) (Q .next s) := ⟨fun q => w_for0  q⟩
end
section
variable {s : S} {e : Env} {h : Hh} {E : XQ}
instance i_w_seqI {Q : List D → S → Prop} {fa : M W}   : St (wpM (seqI fa) s Q E) (wpM fa s (fun x s1 => wpM (toD x) s1 (fun d s2 => wpM (opt (seqOf d)) s2 Q E) E) E) := ⟨fun q => w_seqI  q⟩
instance i_w_strI {Q : List D → S → Prop} {fa : M W}   : St (wpM (strI fa) s Q E) (wpM fa s (fun x s1 => wpM (view x) s1 (fun d s2 => ∃ y, d = .str y ∧ Q (signs y) s2) E) E) := ⟨fun q => w_strI  q⟩
instance i_w_range1 {Q : List D → S → Prop} {fs : M (List W)}   : St (wpM (range1I fs) s Q E) (wpM fs s (fun ws s1 => wpM (views ws) s1 (fun ds s2 => ∃ j, ds = [.int j] ∧ (-4611686018427387904 ≤ j ∧ j < 4611686018427387904) ∧ Q (rangeL 0 j.toNat) s2) E) E) := ⟨fun q => w_range1  q⟩
instance i_w_range2 {Q : List D → S → Prop} {fs : M (List W)}   : St (wpM (range2I fs) s Q E) (wpM fs s (fun ws s1 => wpM (views ws) s1 (fun ds s2 => ∃ i j, ds = [.int i, .int j] ∧ (-4611686018427387904 ≤ i ∧ i < 4611686018427387904 ∧ -4611686018427387904 ≤ j ∧ j < 4611686018427387904) ∧ Q (rangeL i (j - i).toNat) s2) E) E) := ⟨fun q => w_range2  q⟩
instance i_w_enumA {Q : List D → S → Prop} {fs : M (List W)}   : St (wpM (enumAI fs) s Q E) (wpM fs s (fun ws s1 => wpM (toDs ws) s1 (fun ds s2 => ∃ d xs, ds = [d] ∧ seqOf d = some xs ∧ Q (enumL 0 xs) s2) E) E) := ⟨fun q => w_enumA  q⟩
instance i_w_zip {Q : List D → S → Prop} {fs : M (List W)}   : St (wpM (zipI fs) s Q E) (wpM fs s (fun ws s1 => wpM (toDs ws) s1 (fun ds s2 => ∃ d b xs ys, ds = [d, b] ∧ ((lstOf d = some xs ∧ lstOf b = some ys) ∨ (d = .tup xs ∧ b = .tup ys)) ∧ Q (zipL xs ys) s2) E) E) := ⟨fun q => w_zip  q⟩
end
instance i_w_try {tb : List (Str × Str × Bool)} {f : M Fl} {hs : List Hd} {s : S} {Q : Fl → S → Prop} {E : XQ}   : St (wpM (tryM tb f hs) s Q E) (wpM f s Q (fun C ns ds s1 => wpM (fun s => disp tb C ns ds s hs) s1 Q E)) := ⟨fun q => w_try  q⟩
instance i_w_disp0 {tb : List (Str × Str × Bool)} {C : Str} {ns : List Str} {ds : List D} {s : S} {Q : Fl → S → Prop} {E : XQ}   : St (wpM (fun s => disp tb C ns ds s []) s Q E) (E C ns ds s) := ⟨fun q => w_disp0  q⟩
section
variable {s : S} {E : XQ}
instance i_w_yes {Q : Bool → S → Prop}   : St (wpM yesM s Q E) (Q true s) := ⟨fun q => w_yes  q⟩
instance i_p_iteT {A B : Prop}   : St (if true = true then A else B) (A) := ⟨fun q => p_iteT  q⟩
instance i_p_iteF {A B : Prop}   : St (if false = true then A else B) (B) := ⟨fun q => p_iteF  q⟩
instance i_p_iteN {b : Bool} {A B : Prop}   : St (if (!b) = true then A else B) (if b = true then B else A) := ⟨fun q => p_iteN  q⟩
end

section
variable {s : S} {E : XQ}
instance i_w_callH {Q : W → S → Prop} {g : Hh → List D → Option W} {fs : M (List W)}   : St (wpM (callHM g fs) s Q E) (wpM fs s (fun ws s1 => wpM (views ws) s1 (fun ds s2 => ∃ w, g s2.h ds = some w ∧ Q w s2) E) E) := ⟨fun q => w_callH  q⟩
instance i_w_rev {Q : W → S → Prop} {fa : M W}   : St (wpM (revM fa) s Q E) (wpM fa s (fun x s1 => wpM (view x) s1 (fun d s2 => wpM (opt (revG d)) s2 Q E) E) E) := ⟨fun q => w_rev  q⟩
instance i_w_meth {Q : W → S → Prop} {x m : Str} {n : Nat} {F : List D → M W} {fo : M W} {fs : M (List W)}   : St (wpM (methM x m n F fo fs) s Q E) (wpM fo s (fun o s1 => wpM (toD o) s1 (fun d s2 => wpM (viewD d) s2 (fun dv s3 => (∃ ns vs, dv = .obj x ns vs ∧ ns.contains m = false) ∧ wpM fs s3 (fun ws s4 => wpM (toDs ws) s4 (fun ds s5 => ds.length + 1 = n ∧ wpM (F (d :: ds)) ⟨[], s5.h⟩ (fun w s6 => Q w ⟨s5.e, s6.h⟩) (fun C ns vs s6 => E C ns vs ⟨s5.e, s6.h⟩)) E) E) E) E) E) := ⟨fun q => w_meth  q⟩
instance i_w_star {Q : Fl → S → Prop} {i j : Nat} {f : M W}   : St (wpM (starM i j f) s Q E) (wpM f s (fun w s1 => wpM (toD w) s1 (fun d s2 => ∃ x r, (d = .tup (x :: r) ∨ d = .ktp (x :: r)) ∧ r.length ≤ 16000 ∧ i < s2.e.length ∧ wpM (setM j (.new (.lst r))) { s2 with e := s2.e.set i (.fz x) } Q E) E) E) := ⟨fun q => w_star  q⟩
end
instance gu_int {v : Int} {s : S} {Q : Unit → S → Prop} {E : XQ} : St (wpM (guard (decide (mtyD (.int v) = some "int"))) s Q E) (Q () s) := ⟨fun q => w_guardD rfl q⟩
instance gu_str {v : Str} {s : S} {Q : Unit → S → Prop} {E : XQ} : St (wpM (guard (decide (mtyD (.str v) = some "str"))) s Q E) (Q () s) := ⟨fun q => w_guardD rfl q⟩
instance gu_lst {v : List D} {s : S} {Q : Unit → S → Prop} {E : XQ} : St (wpM (guard (decide (mtyD (.lst v) = some "list"))) s Q E) (Q () s) := ⟨fun q => w_guardD rfl q⟩
instance gu_scr {v : List D} {s : S} {Q : Unit → S → Prop} {E : XQ} : St (wpM (guard (decide (mtyD (.scr v) = some "list"))) s Q E) (Q () s) := ⟨fun q => w_guardD rfl q⟩
instance gu_dK {k : List Key} {v : List D} {s : S} {Q : Unit → S → Prop} {E : XQ} : St (wpM (guard (decide (mtyD (.dK k v) = some "dict"))) s Q E) (Q () s) := ⟨fun q => w_guardD rfl q⟩
instance gu_dT {k : List (List Key)} {v : List D} {s : S} {Q : Unit → S → Prop} {E : XQ} : St (wpM (guard (decide (mtyD (.dT k v) = some "dict"))) s Q E) (Q () s) := ⟨fun q => w_guardD rfl q⟩
instance le0 {P : Prop} : St (([] : List D).length = 0 ∧ P) P := ⟨fun p => ⟨rfl, p⟩⟩
instance le1 {a0 : D} {P : Prop} : St (([a0] : List D).length = 1 ∧ P) P := ⟨fun p => ⟨rfl, p⟩⟩
instance lm1 {a0 : D} {P : Prop} : St (([a0] : List D).length + 1 = 2 ∧ P) P := ⟨fun p => ⟨rfl, p⟩⟩
instance le2 {a0 a1 : D} {P : Prop} : St (([a0, a1] : List D).length = 2 ∧ P) P := ⟨fun p => ⟨rfl, p⟩⟩
instance lm2 {a0 a1 : D} {P : Prop} : St (([a0, a1] : List D).length + 1 = 3 ∧ P) P := ⟨fun p => ⟨rfl, p⟩⟩
instance le3 {a0 a1 a2 : D} {P : Prop} : St (([a0, a1, a2] : List D).length = 3 ∧ P) P := ⟨fun p => ⟨rfl, p⟩⟩
instance lm3 {a0 a1 a2 : D} {P : Prop} : St (([a0, a1, a2] : List D).length + 1 = 4 ∧ P) P := ⟨fun p => ⟨rfl, p⟩⟩
instance le4 {a0 a1 a2 a3 : D} {P : Prop} : St (([a0, a1, a2, a3] : List D).length = 4 ∧ P) P := ⟨fun p => ⟨rfl, p⟩⟩
instance lm4 {a0 a1 a2 a3 : D} {P : Prop} : St (([a0, a1, a2, a3] : List D).length + 1 = 5 ∧ P) P := ⟨fun p => ⟨rfl, p⟩⟩
instance le5 {a0 a1 a2 a3 a4 : D} {P : Prop} : St (([a0, a1, a2, a3, a4] : List D).length = 5 ∧ P) P := ⟨fun p => ⟨rfl, p⟩⟩
instance lm5 {a0 a1 a2 a3 a4 : D} {P : Prop} : St (([a0, a1, a2, a3, a4] : List D).length + 1 = 6 ∧ P) P := ⟨fun p => ⟨rfl, p⟩⟩
instance le6 {a0 a1 a2 a3 a4 a5 : D} {P : Prop} : St (([a0, a1, a2, a3, a4, a5] : List D).length = 6 ∧ P) P := ⟨fun p => ⟨rfl, p⟩⟩
instance lm6 {a0 a1 a2 a3 a4 a5 : D} {P : Prop} : St (([a0, a1, a2, a3, a4, a5] : List D).length + 1 = 7 ∧ P) P := ⟨fun p => ⟨rfl, p⟩⟩
instance le7 {a0 a1 a2 a3 a4 a5 a6 : D} {P : Prop} : St (([a0, a1, a2, a3, a4, a5, a6] : List D).length = 7 ∧ P) P := ⟨fun p => ⟨rfl, p⟩⟩
instance lm7 {a0 a1 a2 a3 a4 a5 a6 : D} {P : Prop} : St (([a0, a1, a2, a3, a4, a5, a6] : List D).length + 1 = 8 ∧ P) P := ⟨fun p => ⟨rfl, p⟩⟩
instance le8 {a0 a1 a2 a3 a4 a5 a6 a7 : D} {P : Prop} : St (([a0, a1, a2, a3, a4, a5, a6, a7] : List D).length = 8 ∧ P) P := ⟨fun p => ⟨rfl, p⟩⟩
instance lm8 {a0 a1 a2 a3 a4 a5 a6 a7 : D} {P : Prop} : St (([a0, a1, a2, a3, a4, a5, a6, a7] : List D).length + 1 = 9 ∧ P) P := ⟨fun p => ⟨rfl, p⟩⟩
instance le9 {a0 a1 a2 a3 a4 a5 a6 a7 a8 : D} {P : Prop} : St (([a0, a1, a2, a3, a4, a5, a6, a7, a8] : List D).length = 9 ∧ P) P := ⟨fun p => ⟨rfl, p⟩⟩
instance lm9 {a0 a1 a2 a3 a4 a5 a6 a7 a8 : D} {P : Prop} : St (([a0, a1, a2, a3, a4, a5, a6, a7, a8] : List D).length + 1 = 10 ∧ P) P := ⟨fun p => ⟨rfl, p⟩⟩
instance le10 {a0 a1 a2 a3 a4 a5 a6 a7 a8 a9 : D} {P : Prop} : St (([a0, a1, a2, a3, a4, a5, a6, a7, a8, a9] : List D).length = 10 ∧ P) P := ⟨fun p => ⟨rfl, p⟩⟩
instance lm10 {a0 a1 a2 a3 a4 a5 a6 a7 a8 a9 : D} {P : Prop} : St (([a0, a1, a2, a3, a4, a5, a6, a7, a8, a9] : List D).length + 1 = 11 ∧ P) P := ⟨fun p => ⟨rfl, p⟩⟩
instance le11 {a0 a1 a2 a3 a4 a5 a6 a7 a8 a9 a10 : D} {P : Prop} : St (([a0, a1, a2, a3, a4, a5, a6, a7, a8, a9, a10] : List D).length = 11 ∧ P) P := ⟨fun p => ⟨rfl, p⟩⟩
instance lm11 {a0 a1 a2 a3 a4 a5 a6 a7 a8 a9 a10 : D} {P : Prop} : St (([a0, a1, a2, a3, a4, a5, a6, a7, a8, a9, a10] : List D).length + 1 = 12 ∧ P) P := ⟨fun p => ⟨rfl, p⟩⟩
end Z

namespace Z
open PySem L2
def top (i : Nat) : Stmt := PySem.Challenge.pw_notwoshare_k38_tests_and_what_passes.main.body.getD i (.Pass ⟨0, 0, 0, 0⟩)
abbrev st_is_whole : Stmt := top 10
abbrev st_is_listed : Stmt := top 11
abbrev st_is_tuple_of : Stmt := top 12
abbrev st_are_whole : Stmt := top 13
abbrev st_is_word : Stmt := top 14
abbrev st_is_name : Stmt := top 15
abbrev st_are_unlike : Stmt := top 16
abbrev st_are_unlike_names : Stmt := top 17
abbrev st_Fields_init : Stmt := inClass (top 20) 0
abbrev st_Fields_is_report : Stmt := inClass (top 20) 3
abbrev st_is_field : Stmt := top 21
abbrev st_check_report : Stmt := top 22
abbrev st_is_plain : Stmt := top 27
abbrev st_is_test_of : Stmt := top 28
abbrev st_is_test : Stmt := top 29
abbrev st_check_test : Stmt := top 30
abbrev st_value_at : Stmt := top 31
abbrev st_does_pass : Stmt := top 32
abbrev st_passes : Stmt := top 33
abbrev st__law_cell : Stmt := top 35
abbrev st__law_box : Stmt := top 36
abbrev st__law_take : Stmt := top 37
abbrev st__law_mixed : Stmt := top 38
abbrev st__law_names : Stmt := top 39
abbrev st__law_same : Stmt := top 40
abbrev st__law_very : Stmt := top 41
abbrev st__law_line : Stmt := top 42
abbrev st__law_leaf : Stmt := top 43
abbrev st__law_test : Stmt := top 44
abbrev st__law_is_int : Stmt := top 45
abbrev st__law_is_test : Stmt := top 46
abbrev st__law_passes : Stmt := top 47
abbrev st__law_judged : Stmt := top 48
abbrev st__law_passed : Stmt := top 49
abbrev st__law_bent : Stmt := top 50
abbrev st__law_odd_reports : Stmt := top 51
abbrev st__law_right : Stmt := top 52
abbrev st_law : Stmt := top 53
abbrev st_E_InvalidReport : Stmt := inClass (top 4) 0
abbrev st_E_InvalidTest : Stmt := inClass (top 5) 0
theorem bt_abs : bootBuiltins "abs" = some (.builtin "abs") := by decide +kernel
theorem bt_all : bootBuiltins "all" = some (.builtin "all") := by decide +kernel
theorem bt_bool : bootBuiltins "bool" = some (.type "bool") := by decide +kernel
theorem bt_enumerate : bootBuiltins "enumerate" = some (.type "enumerate") := by decide +kernel
theorem bt_int : bootBuiltins "int" = some (.type "int") := by decide +kernel
theorem bt_isinstance : bootBuiltins "isinstance" = some (.builtin "isinstance") := by decide +kernel
theorem bt_len : bootBuiltins "len" = some (.builtin "len") := by decide +kernel
theorem bt_list : bootBuiltins "list" = some (.type "list") := by decide +kernel
theorem bt_max : bootBuiltins "max" = some (.builtin "max") := by decide +kernel
theorem bt_min : bootBuiltins "min" = some (.builtin "min") := by decide +kernel
theorem bt_range : bootBuiltins "range" = some (.type "range") := by decide +kernel
theorem bt_repr : bootBuiltins "repr" = some (.builtin "repr") := by decide +kernel
theorem bt_set : bootBuiltins "set" = some (.type "set") := by decide +kernel
theorem bt_str : bootBuiltins "str" = some (.type "str") := by decide +kernel
theorem bt_sum : bootBuiltins "sum" = some (.builtin "sum") := by decide +kernel
theorem bt_tuple : bootBuiltins "tuple" = some (.type "tuple") := by decide +kernel
def k_NO_NAMES : D := .ktp [.str "all", .str "some", .str "not", .str "none", .str "any", .str "if"]
def tbl_INTEGERS_WITHIN : List (Str × Int) := [("is", 1), ("from", 2)]
def tbl_TESTS_WITHIN : List (Str × Int) := [("all", 2), ("some", 2), ("not", 1)]
def exTab : List (Str × Str × Bool) := [("InvalidReport", "InvalidReport", true), ("InvalidReport", "InvalidTest", false), ("InvalidTest", "InvalidReport", false), ("InvalidTest", "InvalidTest", true)]
def isTab : List (Str × Str) := [("InvalidReport", "ShareError"), ("InvalidTest", "ShareError")]
def erTab : List Str := ["InvalidReport", "InvalidTest"]
structure Txt (w : World) (K : PySem.W.Frag) (mg : Str → Option Value) : Prop where
  b_abs : mg "abs" = none
  b_all : mg "all" = none
  b_bool : mg "bool" = none
  b_enumerate : mg "enumerate" = none
  b_int : mg "int" = none
  b_isinstance : mg "isinstance" = none
  b_len : mg "len" = none
  b_list : mg "list" = none
  b_max : mg "max" = none
  b_min : mg "min" = none
  b_range : mg "range" = none
  b_repr : mg "repr" = none
  b_set : mg "set" = none
  b_str : mg "str" = none
  b_sum : mg "sum" = none
  b_tuple : mg "tuple" = none
  c_LETTERS : ∃ t, mg "LETTERS" = some (.str "abcdefghijklmnopqrstuvwxyz" t)
  c_MOST_DEPTH : ∃ t, mg "MOST_DEPTH" = some (.int 5 t)
  c_MOST_FIELDS : ∃ t, mg "MOST_FIELDS" = some (.int 3 t)
  c_MOST_LETTERS : ∃ t, mg "MOST_LETTERS" = some (.int 8 t)
  c_NO_NAMES : KTup K mg "NO_NAMES" k_NO_NAMES
  t_INTEGERS_WITHIN : DTab K w mg "INTEGERS_WITHIN" tbl_INTEGERS_WITHIN
  t_TESTS_WITHIN : DTab K w mg "TESTS_WITHIN" tbl_TESTS_WITHIN
  cl_Fields : ∃ C, mg "Fields" = some (.ref C) ∧ Cls K C
  k_InvalidReport : ∃ A, mg "InvalidReport" = some (.ref A)
  k_InvalidTest : ∃ A, mg "InvalidTest" = some (.ref A)
  a_many : AtT K mg ["Fields"] "many"
  a_names : AtT K mg ["Fields"] "names"
  a_places : AtT K mg ["Fields"] "places"
  ex : ExT K mg exTab
  is : IsT K mg isTab
  xf_given : XfT K mg erTab "given"
  e_InvalidReport : FctE K mg "InvalidReport" "InvalidReport.__init__" st_E_InvalidReport
  e_InvalidTest : FctE K mg "InvalidTest" "InvalidTest.__init__" st_E_InvalidTest
  f_is_whole : Fct K mg "is_whole" st_is_whole ["value"]
  f_is_listed : Fct K mg "is_listed" st_is_listed ["value"]
  f_is_tuple_of : Fct K mg "is_tuple_of" st_is_tuple_of ["value", "many"]
  f_are_whole : Fct K mg "are_whole" st_are_whole ["value"]
  f_is_word : Fct K mg "is_word" st_is_word ["value"]
  f_is_name : Fct K mg "is_name" st_is_name ["value"]
  f_are_unlike : Fct K mg "are_unlike" st_are_unlike ["items"]
  f_are_unlike_names : Fct K mg "are_unlike_names" st_are_unlike_names ["value", "least", "most"]
  f_Fields_init : FctC K mg "Fields" "Fields.__init__" st_Fields_init ["self", "names"]
  f_Fields_is_report : FctM K mg "Fields" "is_report" "Fields.is_report" st_Fields_is_report ["self", "value"]
  f_is_field : Fct K mg "is_field" st_is_field ["fields", "value"]
  f_check_report : Fct K mg "check_report" st_check_report ["fields", "report"]
  f_is_plain : Fct K mg "is_plain" st_is_plain ["fields", "word", "parts"]
  f_is_test_of : Fct K mg "is_test_of" st_is_test_of ["fields", "value", "depth"]
  f_is_test : Fct K mg "is_test" st_is_test ["fields", "value"]
  f_check_test : Fct K mg "check_test" st_check_test ["fields", "test"]
  f_value_at : Fct K mg "value_at" st_value_at ["fields", "name", "report"]
  f_does_pass : Fct K mg "does_pass" st_does_pass ["fields", "test", "report"]
  f_passes : Fct K mg "passes" st_passes ["fields", "test", "report"]
  f__law_cell : Fct K mg "_law_cell" st__law_cell ["script", "k"]
  f__law_box : Fct K mg "_law_box" st__law_box ["great"]
  f__law_take : Fct K mg "_law_take" st__law_take ["box", "many"]
  f__law_mixed : Fct K mg "_law_mixed" st__law_mixed ["box", "items"]
  f__law_names : Fct K mg "_law_names" st__law_names ["box", "many"]
  f__law_same : Fct K mg "_law_same" st__law_same ["told", "due"]
  f__law_very : Fct K mg "_law_very" st__law_very ["given", "value"]
  f__law_line : Fct K mg "_law_line" st__law_line ["box"]
  f__law_leaf : Fct K mg "_law_leaf" st__law_leaf ["box", "names", "line"]
  f__law_test : Fct K mg "_law_test" st__law_test ["box", "names", "line", "deep"]
  f__law_is_int : Fct K mg "_law_is_int" st__law_is_int ["value"]
  f__law_is_test : Fct K mg "_law_is_test" st__law_is_test ["names", "value", "deep"]
  f__law_passes : Fct K mg "_law_passes" st__law_passes ["names", "test", "report"]
  f__law_judged : Fct K mg "_law_judged" st__law_judged ["fields", "value", "named"]
  f__law_passed : Fct K mg "_law_passed" st__law_passed ["fields", "test", "report", "named"]
  f__law_bent : Fct K mg "_law_bent" st__law_bent ["box", "names", "line", "value"]
  f__law_odd_reports : Fct K mg "_law_odd_reports" st__law_odd_reports ["report"]
  f__law_right : Fct K mg "_law_right" st__law_right ["box", "fields", "names", "named"]
  f_law : Fct K mg "law" st_law ["script"]
  fk_is_test__value_fields : FctK K mg "is_test" st_is_test ["fields", "value"] ["value", "fields"] [1, 0]
  fk_passes__report_test_fields : FctK K mg "passes" st_passes ["fields", "test", "report"] ["report", "test", "fields"] [2, 1, 0]
section
variable {P : Program} {w : World} {K : PySem.W.Frag} {mg : Str → Option Value} {base : Heap}
theorem sc_E_InvalidReport : FnScope ["self", "given"] ["self", "given"] (defScope st_E_InvalidReport) := ⟨rfl, rfl, rfl, by decide +kernel, rfl, by decide +kernel, by decide +kernel⟩
theorem err_InvalidReport (T : Txt w K mg) : ErrF P w K mg base "InvalidReport" := by
  obtain ⟨C, S, fI, fd, h1, h2, h3, h4, h5, h6, h7⟩ := T.e_InvalidReport
  exact ⟨C, S, fI, fd, h1, h2, h4, h5, h7, ok_ini "not such a report" h6 sc_E_InvalidReport fun cdv A outer s H E => pss_cons (ps_expr (pe_baseI (by rfl) h3 (pa_cons (pv 0) (pa_cons pe_str pa_nil)))) (pss_one (ps_errF (pv 0) (pv 1)))⟩
theorem sc_E_InvalidTest : FnScope ["self", "given"] ["self", "given"] (defScope st_E_InvalidTest) := ⟨rfl, rfl, rfl, by decide +kernel, rfl, by decide +kernel, by decide +kernel⟩
theorem err_InvalidTest (T : Txt w K mg) : ErrF P w K mg base "InvalidTest" := by
  obtain ⟨C, S, fI, fd, h1, h2, h3, h4, h5, h6, h7⟩ := T.e_InvalidTest
  exact ⟨C, S, fI, fd, h1, h2, h4, h5, h7, ok_ini "not a test on the fields" h6 sc_E_InvalidTest fun cdv A outer s H E => pss_cons (ps_expr (pe_baseI (by rfl) h3 (pa_cons (pv 0) (pa_cons pe_str pa_nil)))) (pss_one (ps_errF (pv 0) (pv 1)))⟩
def b_is_whole : M Fl := (retM (andV (callM isiG (consA (nameM 0) (consA (kD (.ty "int")) nilA))) (notV (callM isiG (consA (nameM 0) (consA (kD (.ty "bool")) nilA))))))
def m_is_whole : List D → M W := fnM 1 b_is_whole
theorem sc_is_whole : FnScope ["value"] ["value"] (defScope st_is_whole) := ⟨rfl, rfl, rfl, by decide +kernel, rfl, by decide +kernel, by decide +kernel⟩
theorem y_is_whole (T : Txt w K mg) : BodyOk P w K mg base ["value"] "is_whole" st_is_whole 0 b_is_whole := fun f cdv A outer s H E hr =>
  (ss_one (ss_ret (se_and (se_callB oc_isi (by rfl) T.b_isinstance bt_isinstance (sa_cons (se_name 0) (sa_cons (se_bltTy (by rfl) T.b_int bt_int) sa_nil))) (se_one (se_not (se_callB oc_isi (by rfl) T.b_isinstance bt_isinstance (sa_cons (se_name 0) (sa_cons (se_bltTy (by rfl) T.b_bool bt_bool) sa_nil))))))))
theorem d_is_whole (T : Txt w K mg) : Def P w K mg base "is_whole" "is_whole" st_is_whole 1 ["value"] m_is_whole := def_ok ["value"] ["value"] 1 b_is_whole 0 T.f_is_whole sc_is_whole rfl (y_is_whole T)
def b_is_listed : M Fl := (retM (callM isiG (consA (nameM 0) (consA (tupM (consA (kD (.ty "list")) (consA (kD (.ty "tuple")) nilA))) nilA))))
def m_is_listed : List D → M W := fnM 1 b_is_listed
theorem sc_is_listed : FnScope ["value"] ["value"] (defScope st_is_listed) := ⟨rfl, rfl, rfl, by decide +kernel, rfl, by decide +kernel, by decide +kernel⟩
theorem y_is_listed (T : Txt w K mg) : BodyOk P w K mg base ["value"] "is_listed" st_is_listed 0 b_is_listed := fun f cdv A outer s H E hr =>
  (ss_one (ss_ret (se_callB oc_isi (by rfl) T.b_isinstance bt_isinstance (sa_cons (se_name 0) (sa_cons (se_tup (sa_cons (se_bltTy (by rfl) T.b_list bt_list) (sa_cons (se_bltTy (by rfl) T.b_tuple bt_tuple) sa_nil))) sa_nil)))))
theorem d_is_listed (T : Txt w K mg) : Def P w K mg base "is_listed" "is_listed" st_is_listed 1 ["value"] m_is_listed := def_ok ["value"] ["value"] 1 b_is_listed 0 T.f_is_listed sc_is_listed rfl (y_is_listed T)
def b_is_tuple_of : M Fl := (retM (andV (callM isiG (consA (nameM 0) (consA (kD (.ty "tuple")) nilA))) (cmpV eqG (callM lenG (consA (nameM 0) nilA)) (nameM 1))))
def m_is_tuple_of : List D → M W := fnM 2 b_is_tuple_of
theorem sc_is_tuple_of : FnScope ["value", "many"] ["value", "many"] (defScope st_is_tuple_of) := ⟨rfl, rfl, rfl, by decide +kernel, rfl, by decide +kernel, by decide +kernel⟩
theorem y_is_tuple_of (T : Txt w K mg) : BodyOk P w K mg base ["value", "many"] "is_tuple_of" st_is_tuple_of 0 b_is_tuple_of := fun f cdv A outer s H E hr =>
  (ss_one (ss_ret (se_and (se_callB oc_isi (by rfl) T.b_isinstance bt_isinstance (sa_cons (se_name 0) (sa_cons (se_bltTy (by rfl) T.b_tuple bt_tuple) sa_nil))) (se_one (se_cmp (co_eq hr.units) (se_callB oc_len (by rfl) T.b_len bt_len (sa_cons (se_name 0) sa_nil)) (se_name 1))))))
theorem d_is_tuple_of (T : Txt w K mg) : Def P w K mg base "is_tuple_of" "is_tuple_of" st_is_tuple_of 1 ["value", "many"] m_is_tuple_of := def_ok ["value", "many"] ["value", "many"] 2 b_is_tuple_of 0 T.f_is_tuple_of sc_is_tuple_of rfl (y_is_tuple_of T)
def l_are_whole_1 : M W := (callF 1 m_is_whole (consA (nameM 1) nilA))
def b_are_whole : M Fl := (retM (andV (callF 1 m_is_listed (consA (nameM 0) nilA)) (callM allG (consA (lcM [1] (seqI (nameM 0)) (tg1 1) yesM l_are_whole_1) nilA))))
def m_are_whole : List D → M W := fnM 2 b_are_whole
theorem sc_are_whole : FnScope ["value", "item"] ["value"] (defScope st_are_whole) := ⟨rfl, rfl, rfl, by decide +kernel, rfl, by decide +kernel, by decide +kernel⟩
theorem y_are_whole (T : Txt w K mg) (D_is_listed : Def P w K mg base "is_listed" "is_listed" st_is_listed 1 ["value"] m_is_listed) (D_is_whole : Def P w K mg base "is_whole" "is_whole" st_is_whole 1 ["value"] m_is_whole) : BodyOk P w K mg base ["value", "item"] "are_whole" st_are_whole 1 b_are_whole := fun f cdv A outer s H E hr =>
  (ss_one (ss_ret (se_and (se_call D_is_listed (hr.mono (by decide)) (takes_of rfl rfl rfl rfl) (by rfl) (sa_cons (se_name 0) sa_nil)) (se_one (se_callB (oc_all rfl) (by rfl) T.b_all bt_all (sa_cons (se_lc [("item", 1)] (si_seq (se_name 0)) (fun _ _ _ _ _ => (sg_name 1 sc_are_whole.nd)) (fun _ _ _ _ _ => sts_nil) (fun _ _ _ _ _ => (se_call D_is_whole (hr.mono (by decide)) takes0 (by rfl) (sa_cons (se_name 1) sa_nil))) sc_are_whole.nd) sa_nil))))))
theorem d_are_whole (T : Txt w K mg) (D_is_listed : Def P w K mg base "is_listed" "is_listed" st_is_listed 1 ["value"] m_is_listed) (D_is_whole : Def P w K mg base "is_whole" "is_whole" st_is_whole 1 ["value"] m_is_whole) : Def P w K mg base "are_whole" "are_whole" st_are_whole 2 ["value"] m_are_whole := def_ok ["value", "item"] ["value"] 2 b_are_whole 1 T.f_are_whole sc_are_whole rfl (y_are_whole T D_is_listed D_is_whole)
def l_is_word_1 : M W := (cmpV inA (nameM 1) (kS "abcdefghijklmnopqrstuvwxyz"))
def b_is_word : M Fl := (retM (andV (callM isiG (consA (nameM 0) (consA (kD (.ty "str")) nilA))) (andV (blM (chainM leG leG (kI 1) (callM lenG (consA (nameM 0) nilA)) (kI 8))) (callM allG (consA (lcM [1] (strI (nameM 0)) (tg1 1) yesM l_is_word_1) nilA)))))
def m_is_word : List D → M W := fnM 2 b_is_word
theorem sc_is_word : FnScope ["value", "sign"] ["value"] (defScope st_is_word) := ⟨rfl, rfl, rfl, by decide +kernel, rfl, by decide +kernel, by decide +kernel⟩
theorem y_is_word (T : Txt w K mg) : BodyOk P w K mg base ["value", "sign"] "is_word" st_is_word 0 b_is_word := fun f cdv A outer s H E hr =>
  (ss_one (ss_ret (se_and (se_callB oc_isi (by rfl) T.b_isinstance bt_isinstance (sa_cons (se_name 0) (sa_cons (se_bltTy (by rfl) T.b_str bt_str) sa_nil))) (se_and (se_chain co_le co_le se_int (se_callB oc_len (by rfl) T.b_len bt_len (sa_cons (se_name 0) sa_nil)) (se_globI (by rfl) T.c_MOST_LETTERS)) (se_one (se_callB (oc_all rfl) (by rfl) T.b_all bt_all (sa_cons (se_lc [("sign", 1)] (si_str (se_name 0)) (fun _ _ _ _ _ => (sg_name 1 sc_is_word.nd)) (fun _ _ _ _ _ => sts_nil) (fun _ _ _ _ _ => (se_cmp (co_inA (RoomG.u65 hr)) (se_name 1) (se_globS (by rfl) T.c_LETTERS))) sc_is_word.nd) sa_nil)))))))
theorem d_is_word (T : Txt w K mg) : Def P w K mg base "is_word" "is_word" st_is_word 1 ["value"] m_is_word := def_ok ["value", "sign"] ["value"] 2 b_is_word 0 T.f_is_word sc_is_word rfl (y_is_word T)
def b_is_name : M Fl := (retM (andV (callF 1 m_is_word (consA (nameM 0) nilA)) (cmpV notInA (nameM 0) (kD k_NO_NAMES))))
def m_is_name : List D → M W := fnM 1 b_is_name
theorem sc_is_name : FnScope ["value"] ["value"] (defScope st_is_name) := ⟨rfl, rfl, rfl, by decide +kernel, rfl, by decide +kernel, by decide +kernel⟩
theorem y_is_name (T : Txt w K mg) (D_is_word : Def P w K mg base "is_word" "is_word" st_is_word 1 ["value"] m_is_word) : BodyOk P w K mg base ["value"] "is_name" st_is_name 1 b_is_name := fun f cdv A outer s H E hr =>
  (ss_one (ss_ret (se_and (se_call D_is_word (hr.mono (by decide)) (takes_of rfl rfl rfl rfl) (by rfl) (sa_cons (se_name 0) sa_nil)) (se_one (se_cmp (co_notInA (RoomG.u65 hr)) (se_name 0) (T.c_NO_NAMES.se (by rfl)))))))
theorem d_is_name (T : Txt w K mg) (D_is_word : Def P w K mg base "is_word" "is_word" st_is_word 1 ["value"] m_is_word) : Def P w K mg base "is_name" "is_name" st_is_name 2 ["value"] m_is_name := def_ok ["value"] ["value"] 1 b_is_name 1 T.f_is_name sc_is_name rfl (y_is_name T D_is_word)
def b_are_unlike : M Fl := (retM (cmpV eqG (lenSetM (nameM 0)) (callM lenG (consA (nameM 0) nilA))))
def m_are_unlike : List D → M W := fnM 1 b_are_unlike
theorem sc_are_unlike : FnScope ["items"] ["items"] (defScope st_are_unlike) := ⟨rfl, rfl, rfl, by decide +kernel, rfl, by decide +kernel, by decide +kernel⟩
theorem y_are_unlike (T : Txt w K mg) : BodyOk P w K mg base ["items"] "are_unlike" st_are_unlike 0 b_are_unlike := fun f cdv A outer s H E hr =>
  (ss_one (ss_ret (se_cmp (co_eq hr.units) (se_lenSet (by rfl) T.b_len (by rfl) T.b_set (se_name 0)) (se_callB oc_len (by rfl) T.b_len bt_len (sa_cons (se_name 0) sa_nil)))))
theorem d_are_unlike (T : Txt w K mg) : Def P w K mg base "are_unlike" "are_unlike" st_are_unlike 1 ["items"] m_are_unlike := def_ok ["items"] ["items"] 1 b_are_unlike 0 T.f_are_unlike sc_are_unlike rfl (y_are_unlike T)
def l_are_unlike_names_1 : M W := (callF 1 m_is_name (consA (nameM 3) nilA))
def b_are_unlike_names : M Fl := (seqM (ifM (orM (bnd (truM (callF 1 m_is_listed (consA (nameM 0) nilA))) fun b => ret (!b)) (bnd (chainM leG leG (nameM 1) (callM lenG (consA (nameM 0) nilA)) (nameM 2)) fun b => ret (!b)))
  (retM (kB false))
  nextM)
  (retM (andV (callM allG (consA (lcM [3] (seqI (nameM 0)) (tg1 3) yesM l_are_unlike_names_1) nilA)) (callF 1 m_are_unlike (consA (nameM 0) nilA)))))
def m_are_unlike_names : List D → M W := fnM 4 b_are_unlike_names
theorem sc_are_unlike_names : FnScope ["value", "least", "most", "item"] ["value", "least", "most"] (defScope st_are_unlike_names) := ⟨rfl, rfl, rfl, by decide +kernel, rfl, by decide +kernel, by decide +kernel⟩
theorem y_are_unlike_names (T : Txt w K mg) (D_is_listed : Def P w K mg base "is_listed" "is_listed" st_is_listed 1 ["value"] m_is_listed) (D_is_name : Def P w K mg base "is_name" "is_name" st_is_name 2 ["value"] m_is_name) (D_are_unlike : Def P w K mg base "are_unlike" "are_unlike" st_are_unlike 1 ["items"] m_are_unlike) : BodyOk P w K mg base ["value", "least", "most", "item"] "are_unlike_names" st_are_unlike_names 2 b_are_unlike_names := fun f cdv A outer s H E hr =>
  (ss_cons (ss_if (SWT.st (sw_or (st_not (st_truth (se_call D_is_listed (hr.mono (by decide)) (takes_of rfl rfl rfl rfl) (by rfl) (sa_cons (se_name 0) sa_nil)))) (sw_or1 (st_not (st_chain co_le co_le (se_name 1) (se_callB oc_len (by rfl) T.b_len bt_len (sa_cons (se_name 0) sa_nil)) (se_name 2))))))
  (ss_one (ss_ret se_bl))
  ss_nil)
  (ss_one (ss_ret (se_and (se_callB (oc_all rfl) (by rfl) T.b_all bt_all (sa_cons (se_lc [("item", 3)] (si_seq (se_name 0)) (fun _ _ _ _ _ => (sg_name 3 sc_are_unlike_names.nd)) (fun _ _ _ _ _ => sts_nil) (fun _ _ _ _ _ => (se_call D_is_name (hr.mono (by decide)) takes0 (by rfl) (sa_cons (se_name 3) sa_nil))) sc_are_unlike_names.nd) sa_nil)) (se_one (se_call D_are_unlike (hr.mono (by decide)) (takes_of rfl rfl rfl rfl) (by rfl) (sa_cons (se_name 0) sa_nil)))))))
theorem d_are_unlike_names (T : Txt w K mg) (D_is_listed : Def P w K mg base "is_listed" "is_listed" st_is_listed 1 ["value"] m_is_listed) (D_is_name : Def P w K mg base "is_name" "is_name" st_is_name 2 ["value"] m_is_name) (D_are_unlike : Def P w K mg base "are_unlike" "are_unlike" st_are_unlike 1 ["items"] m_are_unlike) : Def P w K mg base "are_unlike_names" "are_unlike_names" st_are_unlike_names 3 ["value", "least", "most"] m_are_unlike_names := def_ok ["value", "least", "most", "item"] ["value", "least", "most"] 4 b_are_unlike_names 2 T.f_are_unlike_names sc_are_unlike_names rfl (y_are_unlike_names T D_is_listed D_is_name D_are_unlike)
def l_Fields_init_1 : M W := (nameM 2)
def l_Fields_init_2 : M W := (nameM 3)
def b_Fields_init : M Fl := (seqM (ifM (bnd (truM (callF 3 m_are_unlike_names (consA (nameM 1) (consA (kI 1) (consA (kI 3) nilA))))) fun b => ret (!b))
  (fun _ => .stuck)
  nextM)
  (seqM (satM ["Fields"] "names" (nameM 0) (callM tupleG (consA (nameM 1) nilA)))
  (seqM (satM ["Fields"] "many" (nameM 0) (callM lenG (consA (atrM ["Fields"] "names" (nameM 0)) nilA)))
  (satM ["Fields"] "places" (nameM 0) (dcM [2, 3] (enumAI (consA (atrM ["Fields"] "names" (nameM 0)) nilA)) (tgN [(tg1 2), (tg1 3)]) yesM l_Fields_init_2 l_Fields_init_1)))))
def m_Fields_init : List D → M W := fnM 4 b_Fields_init
theorem sc_Fields_init : FnScope ["self", "names", "at", "name"] ["self", "names"] (defScope st_Fields_init) := ⟨rfl, rfl, rfl, by decide +kernel, rfl, by decide +kernel, by decide +kernel⟩
theorem y_Fields_init (T : Txt w K mg) (D_are_unlike_names : Def P w K mg base "are_unlike_names" "are_unlike_names" st_are_unlike_names 3 ["value", "least", "most"] m_are_unlike_names) : BodyOk P w K mg base ["self", "names", "at", "name"] "Fields.__init__" st_Fields_init 3 b_Fields_init := fun f cdv A outer s H E hr =>
  (ss_cons (ss_if (st_not (st_truth (se_call D_are_unlike_names (hr.mono (by decide)) (takes_of rfl rfl rfl rfl) (by rfl) (sa_cons (se_name 1) (sa_cons se_int (sa_cons (se_globI (by rfl) T.c_MOST_FIELDS) sa_nil))))))
  (ss_one ss_no)
  ss_nil)
  (ss_cons (ss_atr T.a_names (se_callTy oc_tuple (by rfl) T.b_tuple bt_tuple (sa_cons (se_name 1) sa_nil)) (se_name 0))
  (ss_cons (ss_atr T.a_many (se_callB oc_len (by rfl) T.b_len bt_len (sa_cons (se_atr T.a_names (se_name 0)) sa_nil)) (se_name 0))
  (ss_one (ss_atr T.a_places (se_dc [("at", 2), ("name", 3)] (si_enumA (by rfl) T.b_enumerate (sa_cons (se_atr T.a_names (se_name 0)) sa_nil)) (fun _ _ _ _ _ => (sg_tup (sgs_cons (sg_name 2 sc_Fields_init.nd) (sgs_cons (sg_name 3 sc_Fields_init.nd) sgs_nil)))) (fun _ _ _ _ _ => sts_nil) (fun _ _ _ _ _ => (se_name 3)) (fun _ _ _ _ _ => (se_name 2)) sc_Fields_init.nd) (se_name 0))))))
theorem d_Fields_init (T : Txt w K mg) (D_are_unlike_names : Def P w K mg base "are_unlike_names" "are_unlike_names" st_are_unlike_names 3 ["value", "least", "most"] m_are_unlike_names) : KDef P w K mg base "Fields" 4 ["self", "names"] m_Fields_init := kdef_ok ["self", "names", "at", "name"] ["self", "names"] 4 b_Fields_init 3 T.f_Fields_init sc_Fields_init rfl (y_Fields_init T D_are_unlike_names)
def l_Fields_is_report_1 : M W := (callF 1 m_is_whole (consA (nameM 2) nilA))
def b_Fields_is_report : M Fl := (retM (andV (callF 2 m_is_tuple_of (consA (nameM 1) (consA (atrM ["Fields"] "many" (nameM 0)) nilA))) (callM allG (consA (lcM [2] (seqI (nameM 1)) (tg1 2) yesM l_Fields_is_report_1) nilA))))
def m_Fields_is_report : List D → M W := fnM 3 b_Fields_is_report
theorem sc_Fields_is_report : FnScope ["self", "value", "item"] ["self", "value"] (defScope st_Fields_is_report) := ⟨rfl, rfl, rfl, by decide +kernel, rfl, by decide +kernel, by decide +kernel⟩
theorem y_Fields_is_report (T : Txt w K mg) (D_is_tuple_of : Def P w K mg base "is_tuple_of" "is_tuple_of" st_is_tuple_of 1 ["value", "many"] m_is_tuple_of) (D_is_whole : Def P w K mg base "is_whole" "is_whole" st_is_whole 1 ["value"] m_is_whole) : BodyOk P w K mg base ["self", "value", "item"] "Fields.is_report" st_Fields_is_report 1 b_Fields_is_report := fun f cdv A outer s H E hr =>
  (ss_one (ss_ret (se_and (se_call D_is_tuple_of (hr.mono (by decide)) (takes_of rfl rfl rfl rfl) (by rfl) (sa_cons (se_name 1) (sa_cons (se_atr T.a_many (se_name 0)) sa_nil))) (se_one (se_callB (oc_all rfl) (by rfl) T.b_all bt_all (sa_cons (se_lc [("item", 2)] (si_seq (se_name 1)) (fun _ _ _ _ _ => (sg_name 2 sc_Fields_is_report.nd)) (fun _ _ _ _ _ => sts_nil) (fun _ _ _ _ _ => (se_call D_is_whole (hr.mono (by decide)) takes0 (by rfl) (sa_cons (se_name 2) sa_nil))) sc_Fields_is_report.nd) sa_nil))))))
theorem d_Fields_is_report (T : Txt w K mg) (D_is_tuple_of : Def P w K mg base "is_tuple_of" "is_tuple_of" st_is_tuple_of 1 ["value", "many"] m_is_tuple_of) (D_is_whole : Def P w K mg base "is_whole" "is_whole" st_is_whole 1 ["value"] m_is_whole) : MDef P w K mg base "Fields" "is_report" 2 ["self", "value"] m_Fields_is_report := mdef_ok ["self", "value", "item"] ["self", "value"] 3 b_Fields_is_report 1 T.f_Fields_is_report sc_Fields_is_report rfl (y_Fields_is_report T D_is_tuple_of D_is_whole)
def b_is_field : M Fl := (retM (andV (callM isiG (consA (nameM 1) (consA (kD (.ty "str")) nilA))) (cmpV inA (nameM 1) (atrM ["Fields"] "places" (nameM 0)))))
def m_is_field : List D → M W := fnM 2 b_is_field
theorem sc_is_field : FnScope ["fields", "value"] ["fields", "value"] (defScope st_is_field) := ⟨rfl, rfl, rfl, by decide +kernel, rfl, by decide +kernel, by decide +kernel⟩
theorem y_is_field (T : Txt w K mg) : BodyOk P w K mg base ["fields", "value"] "is_field" st_is_field 0 b_is_field := fun f cdv A outer s H E hr =>
  (ss_one (ss_ret (se_and (se_callB oc_isi (by rfl) T.b_isinstance bt_isinstance (sa_cons (se_name 1) (sa_cons (se_bltTy (by rfl) T.b_str bt_str) sa_nil))) (se_one (se_cmp (co_inA (RoomG.u65 hr)) (se_name 1) (se_atr T.a_places (se_name 0)))))))
theorem d_is_field (T : Txt w K mg) : Def P w K mg base "is_field" "is_field" st_is_field 1 ["fields", "value"] m_is_field := def_ok ["fields", "value"] ["fields", "value"] 2 b_is_field 0 T.f_is_field sc_is_field rfl (y_is_field T)
def b_check_report : M Fl := (ifM (bnd (truM (methM "Fields" "is_report" 2 m_Fields_is_report (nameM 0) (consA (nameM 1) nilA))) fun b => ret (!b))
  (raiseM "InvalidReport" (nameM 1))
  nextM)
def m_check_report : List D → M W := fnM 2 b_check_report
theorem sc_check_report : FnScope ["fields", "report"] ["fields", "report"] (defScope st_check_report) := ⟨rfl, rfl, rfl, by decide +kernel, rfl, by decide +kernel, by decide +kernel⟩
theorem y_check_report (T : Txt w K mg) (M_Fields_is_report : MDef P w K mg base "Fields" "is_report" 2 ["self", "value"] m_Fields_is_report) (E_InvalidReport : ErrF P w K mg base "InvalidReport") : BodyOk P w K mg base ["fields", "report"] "check_report" st_check_report 2 b_check_report := fun f cdv A outer s H E hr =>
  (ss_one (ss_if (st_not (st_truth (se_meth T.cl_Fields M_Fields_is_report (hr.mono (by decide)) (takes_of rfl rfl rfl rfl) (se_name 0) (sa_cons (se_name 1) sa_nil))))
  (ss_one (ss_raise E_InvalidReport (hr.mono (by decide)) (takes_of rfl rfl rfl rfl) (by rfl) (se_name 1)))
  ss_nil))
theorem d_check_report (T : Txt w K mg) (M_Fields_is_report : MDef P w K mg base "Fields" "is_report" 2 ["self", "value"] m_Fields_is_report) (E_InvalidReport : ErrF P w K mg base "InvalidReport") : Def P w K mg base "check_report" "check_report" st_check_report 3 ["fields", "report"] m_check_report := def_ok ["fields", "report"] ["fields", "report"] 2 b_check_report 2 T.f_check_report sc_check_report rfl (y_check_report T M_Fields_is_report E_InvalidReport)
def b_is_plain : M Fl := (seqM (ifM (cmpM (tabIn "INTEGERS_WITHIN" tbl_INTEGERS_WITHIN) (nameM 1) (kD (.cls "INTEGERS_WITHIN")))
  (retM (andV (cmpV eqG (callM lenG (consA (nameM 2) nilA)) (opM addG (opM (tabIx "INTEGERS_WITHIN" tbl_INTEGERS_WITHIN) (kD (.cls "INTEGERS_WITHIN")) (nameM 1)) (kI 1))) (andV (callF 2 m_is_field (consA (nameM 0) (consA (opM ixG (nameM 2) (kI 0)) nilA))) (callF 1 m_are_whole (consA (slM (nameM 2) (bnd (intM (kI 1)) fun i => ret (some i)) (ret none)) nilA)))))
  nextM)
  (retM (andV (cmpV eqG (nameM 1) (kS "any")) (cmpV eqG (callM lenG (consA (nameM 2) nilA)) (kI 0)))))
def m_is_plain : List D → M W := fnM 3 b_is_plain
theorem sc_is_plain : FnScope ["fields", "word", "parts"] ["fields", "word", "parts"] (defScope st_is_plain) := ⟨rfl, rfl, rfl, by decide +kernel, rfl, by decide +kernel, by decide +kernel⟩
theorem y_is_plain (T : Txt w K mg) (D_is_field : Def P w K mg base "is_field" "is_field" st_is_field 1 ["fields", "value"] m_is_field) (D_are_whole : Def P w K mg base "are_whole" "are_whole" st_are_whole 2 ["value"] m_are_whole) : BodyOk P w K mg base ["fields", "word", "parts"] "is_plain" st_is_plain 2 b_is_plain := fun f cdv A outer s H E hr =>
  (ss_cons (ss_if (st_cmp (co_tab T.t_INTEGERS_WITHIN) (se_name 1) (se_globC (by rfl) T.t_INTEGERS_WITHIN.cls rfl))
  (ss_one (ss_ret (se_and (se_cmp (co_eq hr.units) (se_callB oc_len (by rfl) T.b_len bt_len (sa_cons (se_name 2) sa_nil)) (se_op oo_add (se_tabIx T.t_INTEGERS_WITHIN (se_globC (by rfl) T.t_INTEGERS_WITHIN.cls rfl) (se_name 1)) se_int)) (se_and (se_call D_is_field (hr.mono (by decide)) (takes_of rfl rfl rfl rfl) (by rfl) (sa_cons (se_name 0) (sa_cons (se_ix (RoomG.u1 hr) (se_name 2) se_int) sa_nil))) (se_one (se_call D_are_whole (hr.mono (by decide)) (takes_of rfl rfl rfl rfl) (by rfl) (sa_cons (se_slice (se_name 2) (so_some se_int) so_none) sa_nil)))))))
  ss_nil)
  (ss_one (ss_ret (se_and (se_cmp (co_eq hr.units) (se_name 1) se_str) (se_one (se_cmp (co_eq hr.units) (se_callB oc_len (by rfl) T.b_len bt_len (sa_cons (se_name 2) sa_nil)) se_int))))))
theorem d_is_plain (T : Txt w K mg) (D_is_field : Def P w K mg base "is_field" "is_field" st_is_field 1 ["fields", "value"] m_is_field) (D_are_whole : Def P w K mg base "are_whole" "are_whole" st_are_whole 2 ["value"] m_are_whole) : Def P w K mg base "is_plain" "is_plain" st_is_plain 3 ["fields", "word", "parts"] m_is_plain := def_ok ["fields", "word", "parts"] ["fields", "word", "parts"] 3 b_is_plain 2 T.f_is_plain sc_is_plain rfl (y_is_plain T D_is_field D_are_whole)
def l_is_test_of_1 (F : List D → M W) : M W := (callF 3 F (consA (nameM 0) (consA (nameM 5) (consA (opM subG (nameM 2) (kI 1)) nilA))))
def b_is_test_of (F : List D → M W) : M Fl := (seqM (ifM (orM (cmpM eqG (nameM 2) (kI 0)) (orM (bnd (truM (callM isiG (consA (nameM 1) (consA (kD (.ty "tuple")) nilA)))) fun b => ret (!b)) (orM (cmpM eqG (callM lenG (consA (nameM 1) nilA)) (kI 0)) (bnd (truM (callM isiG (consA (opM ixG (nameM 1) (kI 0)) (consA (kD (.ty "str")) nilA)))) fun b => ret (!b)))))
  (retM (kB false))
  nextM)
  (seqM (starM 3 4 (nameM 1))
  (seqM (ifM (cmpM (tabIn "TESTS_WITHIN" tbl_TESTS_WITHIN) (nameM 3) (kD (.cls "TESTS_WITHIN")))
  (retM (andV (cmpV eqG (callM lenG (consA (nameM 4) nilA)) (opM (tabIx "TESTS_WITHIN" tbl_TESTS_WITHIN) (kD (.cls "TESTS_WITHIN")) (nameM 3))) (callM allG (consA (lcM [5] (seqI (nameM 4)) (tg1 5) yesM (l_is_test_of_1 F)) nilA))))
  nextM)
  (retM (callF 3 m_is_plain (consA (nameM 0) (consA (nameM 3) (consA (nameM 4) nilA))))))))
def m_is_test_of : Nat → List D → M W
  | 0 => fun _ _ => .stuck
  | n + 1 => fnM 6 (b_is_test_of (m_is_test_of n))
theorem sc_is_test_of : FnScope ["fields", "value", "depth", "word", "parts", "part"] ["fields", "value", "depth"] (defScope st_is_test_of) := ⟨rfl, rfl, rfl, by decide +kernel, rfl, by decide +kernel, by decide +kernel⟩
theorem d_is_test_of (T : Txt w K mg) (D_is_plain : Def P w K mg base "is_plain" "is_plain" st_is_plain 3 ["fields", "word", "parts"] m_is_plain) : ∀ n, Def P w K mg base "is_test_of" "is_test_of" st_is_test_of (3 + n) ["fields", "value", "depth"] (m_is_test_of n)
  | 0 => def_no T.f_is_test_of
  | n + 1 => have D0 := d_is_test_of T D_is_plain n; def_ok ["fields", "value", "depth", "word", "parts", "part"] ["fields", "value", "depth"] 6 (b_is_test_of (m_is_test_of n)) (3 + n) T.f_is_test_of sc_is_test_of rfl fun f cdv A outer s H E hr =>
  (ss_cons (ss_if (SWT.st (sw_or (st_cmp (co_eq hr.units) (se_name 2) se_int) (sw_or (st_not (st_truth (se_callB oc_isi (by rfl) T.b_isinstance bt_isinstance (sa_cons (se_name 1) (sa_cons (se_bltTy (by rfl) T.b_tuple bt_tuple) sa_nil))))) (sw_or (st_cmp (co_eq hr.units) (se_callB oc_len (by rfl) T.b_len bt_len (sa_cons (se_name 1) sa_nil)) se_int) (sw_or1 (st_not (st_truth (se_callB oc_isi (by rfl) T.b_isinstance bt_isinstance (sa_cons (se_ix (RoomG.u1 hr) (se_name 1) se_int) (sa_cons (se_bltTy (by rfl) T.b_str bt_str) sa_nil))))))))))
  (ss_one (ss_ret se_bl))
  ss_nil)
  (ss_cons (ss_star 3 4 (se_name 1) sc_is_test_of.nd)
  (ss_cons (ss_if (st_cmp (co_tab T.t_TESTS_WITHIN) (se_name 3) (se_globC (by rfl) T.t_TESTS_WITHIN.cls rfl))
  (ss_one (ss_ret (se_and (se_cmp (co_eq hr.units) (se_callB oc_len (by rfl) T.b_len bt_len (sa_cons (se_name 4) sa_nil)) (se_tabIx T.t_TESTS_WITHIN (se_globC (by rfl) T.t_TESTS_WITHIN.cls rfl) (se_name 3))) (se_one (se_callB (oc_all rfl) (by rfl) T.b_all bt_all (sa_cons (se_lc [("part", 5)] (si_seq (se_name 4)) (fun _ _ _ _ _ => (sg_name 5 sc_is_test_of.nd)) (fun _ _ _ _ _ => sts_nil) (fun _ _ _ _ _ => (se_call D0 (hr.mono (Nat.le_refl _)) takes0 (by rfl) (sa_cons (se_name 0) (sa_cons (se_name 5) (sa_cons (se_op oo_sub (se_name 2) se_int) sa_nil))))) sc_is_test_of.nd) sa_nil))))))
  ss_nil)
  (ss_one (ss_ret (se_call D_is_plain (hr.mono (Nat.le_trans (show _ ≤ 3 by decide) (Nat.le_add_right _ _))) (takes_of rfl rfl rfl rfl) (by rfl) (sa_cons (se_name 0) (sa_cons (se_name 3) (sa_cons (se_name 4) sa_nil)))))))))
def b_is_test : M Fl := (retM (callF 3 (m_is_test_of 8) (consA (nameM 0) (consA (nameM 1) (consA (kI 5) nilA)))))
def m_is_test : List D → M W := fnM 2 b_is_test
theorem sc_is_test : FnScope ["fields", "value"] ["fields", "value"] (defScope st_is_test) := ⟨rfl, rfl, rfl, by decide +kernel, rfl, by decide +kernel, by decide +kernel⟩
theorem y_is_test (T : Txt w K mg) (D_is_test_of : ∀ n, Def P w K mg base "is_test_of" "is_test_of" st_is_test_of (3 + n) ["fields", "value", "depth"] (m_is_test_of n)) : BodyOk P w K mg base ["fields", "value"] "is_test" st_is_test 11 b_is_test := fun f cdv A outer s H E hr =>
  (ss_one (ss_ret (se_call (D_is_test_of 8) (hr.mono (by decide)) (takes_of rfl rfl rfl rfl) (by rfl) (sa_cons (se_name 0) (sa_cons (se_name 1) (sa_cons (se_globI (by rfl) T.c_MOST_DEPTH) sa_nil))))))
theorem d_is_test (T : Txt w K mg) (D_is_test_of : ∀ n, Def P w K mg base "is_test_of" "is_test_of" st_is_test_of (3 + n) ["fields", "value", "depth"] (m_is_test_of n)) : Def P w K mg base "is_test" "is_test" st_is_test 12 ["fields", "value"] m_is_test := def_ok ["fields", "value"] ["fields", "value"] 2 b_is_test 11 T.f_is_test sc_is_test rfl (y_is_test T D_is_test_of)
theorem dk_is_test__value_fields (T : Txt w K mg) (D_is_test_of : ∀ n, Def P w K mg base "is_test_of" "is_test_of" st_is_test_of (3 + n) ["fields", "value", "depth"] (m_is_test_of n)) : DefK P w K mg base "is_test" 12 ["fields", "value"] ["value", "fields"] [1, 0] m_is_test := defK_ok ["fields", "value"] ["fields", "value"] ["value", "fields"] [1, 0] 2 b_is_test 11 T.fk_is_test__value_fields sc_is_test rfl (y_is_test T D_is_test_of)
def b_check_test : M Fl := (ifM (bnd (truM (callF 2 m_is_test (consA (nameM 0) (consA (nameM 1) nilA)))) fun b => ret (!b))
  (raiseM "InvalidTest" (nameM 1))
  nextM)
def m_check_test : List D → M W := fnM 2 b_check_test
theorem sc_check_test : FnScope ["fields", "test"] ["fields", "test"] (defScope st_check_test) := ⟨rfl, rfl, rfl, by decide +kernel, rfl, by decide +kernel, by decide +kernel⟩
theorem y_check_test (T : Txt w K mg) (D_is_test : Def P w K mg base "is_test" "is_test" st_is_test 12 ["fields", "value"] m_is_test) (E_InvalidTest : ErrF P w K mg base "InvalidTest") : BodyOk P w K mg base ["fields", "test"] "check_test" st_check_test 12 b_check_test := fun f cdv A outer s H E hr =>
  (ss_one (ss_if (st_not (st_truth (se_call D_is_test (hr.mono (by decide)) (takes_of rfl rfl rfl rfl) (by rfl) (sa_cons (se_name 0) (sa_cons (se_name 1) sa_nil)))))
  (ss_one (ss_raise E_InvalidTest (hr.mono (by decide)) (takes_of rfl rfl rfl rfl) (by rfl) (se_name 1)))
  ss_nil))
theorem d_check_test (T : Txt w K mg) (D_is_test : Def P w K mg base "is_test" "is_test" st_is_test 12 ["fields", "value"] m_is_test) (E_InvalidTest : ErrF P w K mg base "InvalidTest") : Def P w K mg base "check_test" "check_test" st_check_test 13 ["fields", "test"] m_check_test := def_ok ["fields", "test"] ["fields", "test"] 2 b_check_test 12 T.f_check_test sc_check_test rfl (y_check_test T D_is_test E_InvalidTest)
def b_value_at : M Fl := (retM (opM ixG (nameM 2) (opM ixG (atrM ["Fields"] "places" (nameM 0)) (nameM 1))))
def m_value_at : List D → M W := fnM 3 b_value_at
theorem sc_value_at : FnScope ["fields", "name", "report"] ["fields", "name", "report"] (defScope st_value_at) := ⟨rfl, rfl, rfl, by decide +kernel, rfl, by decide +kernel, by decide +kernel⟩
theorem y_value_at (T : Txt w K mg) : BodyOk P w K mg base ["fields", "name", "report"] "value_at" st_value_at 0 b_value_at := fun f cdv A outer s H E hr =>
  (ss_one (ss_ret (se_ix (RoomG.u1 hr) (se_name 2) (se_ix (RoomG.u1 hr) (se_atr T.a_places (se_name 0)) (se_name 1)))))
theorem d_value_at (T : Txt w K mg) : Def P w K mg base "value_at" "value_at" st_value_at 1 ["fields", "name", "report"] m_value_at := def_ok ["fields", "name", "report"] ["fields", "name", "report"] 3 b_value_at 0 T.f_value_at sc_value_at rfl (y_value_at T)
def b_does_pass (F : List D → M W) : M Fl := (seqM (starM 3 4 (nameM 1))
  (seqM (ifM (cmpM eqG (nameM 3) (kS "is"))
  (retM (cmpV eqG (callF 3 m_value_at (consA (nameM 0) (consA (opM ixG (nameM 4) (kI 0)) (consA (nameM 2) nilA)))) (opM ixG (nameM 4) (kI 1))))
  nextM)
  (seqM (ifM (cmpM eqG (nameM 3) (kS "from"))
  (retM (blM (chainM leG leG (opM ixG (nameM 4) (kI 1)) (callF 3 m_value_at (consA (nameM 0) (consA (opM ixG (nameM 4) (kI 0)) (consA (nameM 2) nilA)))) (opM ixG (nameM 4) (kI 2)))))
  nextM)
  (seqM (ifM (cmpM eqG (nameM 3) (kS "all"))
  (retM (andV (callF 3 F (consA (nameM 0) (consA (opM ixG (nameM 4) (kI 0)) (consA (nameM 2) nilA)))) (callF 3 F (consA (nameM 0) (consA (opM ixG (nameM 4) (kI 1)) (consA (nameM 2) nilA))))))
  nextM)
  (seqM (ifM (cmpM eqG (nameM 3) (kS "some"))
  (retM (orV (callF 3 F (consA (nameM 0) (consA (opM ixG (nameM 4) (kI 0)) (consA (nameM 2) nilA)))) (callF 3 F (consA (nameM 0) (consA (opM ixG (nameM 4) (kI 1)) (consA (nameM 2) nilA))))))
  nextM)
  (retM (iteM (cmpM eqG (nameM 3) (kS "not")) (notV (callF 3 F (consA (nameM 0) (consA (opM ixG (nameM 4) (kI 0)) (consA (nameM 2) nilA))))) (kB true))))))))
def m_does_pass : Nat → List D → M W
  | 0 => fun _ _ => .stuck
  | n + 1 => fnM 5 (b_does_pass (m_does_pass n))
theorem sc_does_pass : FnScope ["fields", "test", "report", "word", "parts"] ["fields", "test", "report"] (defScope st_does_pass) := ⟨rfl, rfl, rfl, by decide +kernel, rfl, by decide +kernel, by decide +kernel⟩
theorem d_does_pass (T : Txt w K mg) (D_value_at : Def P w K mg base "value_at" "value_at" st_value_at 1 ["fields", "name", "report"] m_value_at) : ∀ n, Def P w K mg base "does_pass" "does_pass" st_does_pass (1 + n) ["fields", "test", "report"] (m_does_pass n)
  | 0 => def_no T.f_does_pass
  | n + 1 => have D0 := d_does_pass T D_value_at n; def_ok ["fields", "test", "report", "word", "parts"] ["fields", "test", "report"] 5 (b_does_pass (m_does_pass n)) (1 + n) T.f_does_pass sc_does_pass rfl fun f cdv A outer s H E hr =>
  (ss_cons (ss_star 3 4 (se_name 1) sc_does_pass.nd)
  (ss_cons (ss_if (st_cmp (co_eq hr.units) (se_name 3) se_str)
  (ss_one (ss_ret (se_cmp (co_eq hr.units) (se_call D_value_at (hr.mono (Nat.le_trans (show _ ≤ 1 by decide) (Nat.le_add_right _ _))) (takes_of rfl rfl rfl rfl) (by rfl) (sa_cons (se_name 0) (sa_cons (se_ix (RoomG.u1 hr) (se_name 4) se_int) (sa_cons (se_name 2) sa_nil)))) (se_ix (RoomG.u1 hr) (se_name 4) se_int))))
  ss_nil)
  (ss_cons (ss_if (st_cmp (co_eq hr.units) (se_name 3) se_str)
  (ss_one (ss_ret (se_chain co_le co_le (se_ix (RoomG.u1 hr) (se_name 4) se_int) (se_call D_value_at (hr.mono (Nat.le_trans (show _ ≤ 1 by decide) (Nat.le_add_right _ _))) (takes_of rfl rfl rfl rfl) (by rfl) (sa_cons (se_name 0) (sa_cons (se_ix (RoomG.u1 hr) (se_name 4) se_int) (sa_cons (se_name 2) sa_nil)))) (se_ix (RoomG.u1 hr) (se_name 4) se_int))))
  ss_nil)
  (ss_cons (ss_if (st_cmp (co_eq hr.units) (se_name 3) se_str)
  (ss_one (ss_ret (se_and (se_call D0 (hr.mono (Nat.le_refl _)) (takes_of rfl rfl rfl rfl) (by rfl) (sa_cons (se_name 0) (sa_cons (se_ix (RoomG.u1 hr) (se_name 4) se_int) (sa_cons (se_name 2) sa_nil)))) (se_one (se_call D0 (hr.mono (Nat.le_refl _)) (takes_of rfl rfl rfl rfl) (by rfl) (sa_cons (se_name 0) (sa_cons (se_ix (RoomG.u1 hr) (se_name 4) se_int) (sa_cons (se_name 2) sa_nil))))))))
  ss_nil)
  (ss_cons (ss_if (st_cmp (co_eq hr.units) (se_name 3) se_str)
  (ss_one (ss_ret (se_or (se_call D0 (hr.mono (Nat.le_refl _)) (takes_of rfl rfl rfl rfl) (by rfl) (sa_cons (se_name 0) (sa_cons (se_ix (RoomG.u1 hr) (se_name 4) se_int) (sa_cons (se_name 2) sa_nil)))) (se_one (se_call D0 (hr.mono (Nat.le_refl _)) (takes_of rfl rfl rfl rfl) (by rfl) (sa_cons (se_name 0) (sa_cons (se_ix (RoomG.u1 hr) (se_name 4) se_int) (sa_cons (se_name 2) sa_nil))))))))
  ss_nil)
  (ss_one (ss_ret (se_if (st_cmp (co_eq hr.units) (se_name 3) se_str) (se_not (se_call D0 (hr.mono (Nat.le_refl _)) (takes_of rfl rfl rfl rfl) (by rfl) (sa_cons (se_name 0) (sa_cons (se_ix (RoomG.u1 hr) (se_name 4) se_int) (sa_cons (se_name 2) sa_nil))))) se_bl))))))))
def b_passes : M Fl := (seqM (exprM (callF 2 m_check_test (consA (nameM 0) (consA (nameM 1) nilA))))
  (seqM (exprM (callF 2 m_check_report (consA (nameM 0) (consA (nameM 2) nilA))))
  (retM (callF 3 (m_does_pass 8) (consA (nameM 0) (consA (nameM 1) (consA (nameM 2) nilA)))))))
def m_passes : List D → M W := fnM 3 b_passes
theorem sc_passes : FnScope ["fields", "test", "report"] ["fields", "test", "report"] (defScope st_passes) := ⟨rfl, rfl, rfl, by decide +kernel, rfl, by decide +kernel, by decide +kernel⟩
theorem y_passes (T : Txt w K mg) (D_check_test : Def P w K mg base "check_test" "check_test" st_check_test 13 ["fields", "test"] m_check_test) (D_check_report : Def P w K mg base "check_report" "check_report" st_check_report 3 ["fields", "report"] m_check_report) (D_does_pass : ∀ n, Def P w K mg base "does_pass" "does_pass" st_does_pass (1 + n) ["fields", "test", "report"] (m_does_pass n)) : BodyOk P w K mg base ["fields", "test", "report"] "passes" st_passes 13 b_passes := fun f cdv A outer s H E hr =>
  (ss_cons (ss_expr (se_call D_check_test (hr.mono (by decide)) (takes_of rfl rfl rfl rfl) (by rfl) (sa_cons (se_name 0) (sa_cons (se_name 1) sa_nil))))
  (ss_cons (ss_expr (se_call D_check_report (hr.mono (by decide)) (takes_of rfl rfl rfl rfl) (by rfl) (sa_cons (se_name 0) (sa_cons (se_name 2) sa_nil))))
  (ss_one (ss_ret (se_call (D_does_pass 8) (hr.mono (by decide)) (takes_of rfl rfl rfl rfl) (by rfl) (sa_cons (se_name 0) (sa_cons (se_name 1) (sa_cons (se_name 2) sa_nil))))))))
theorem d_passes (T : Txt w K mg) (D_check_test : Def P w K mg base "check_test" "check_test" st_check_test 13 ["fields", "test"] m_check_test) (D_check_report : Def P w K mg base "check_report" "check_report" st_check_report 3 ["fields", "report"] m_check_report) (D_does_pass : ∀ n, Def P w K mg base "does_pass" "does_pass" st_does_pass (1 + n) ["fields", "test", "report"] (m_does_pass n)) : Def P w K mg base "passes" "passes" st_passes 14 ["fields", "test", "report"] m_passes := def_ok ["fields", "test", "report"] ["fields", "test", "report"] 3 b_passes 13 T.f_passes sc_passes rfl (y_passes T D_check_test D_check_report D_does_pass)
theorem dk_passes__report_test_fields (T : Txt w K mg) (D_check_test : Def P w K mg base "check_test" "check_test" st_check_test 13 ["fields", "test"] m_check_test) (D_check_report : Def P w K mg base "check_report" "check_report" st_check_report 3 ["fields", "report"] m_check_report) (D_does_pass : ∀ n, Def P w K mg base "does_pass" "does_pass" st_does_pass (1 + n) ["fields", "test", "report"] (m_does_pass n)) : DefK P w K mg base "passes" 14 ["fields", "test", "report"] ["report", "test", "fields"] [2, 1, 0] m_passes := defK_ok ["fields", "test", "report"] ["fields", "test", "report"] ["report", "test", "fields"] [2, 1, 0] 3 b_passes 13 T.fk_passes__report_test_fields sc_passes rfl (y_passes T D_check_test D_check_report D_does_pass)
def b__law_cell : M Fl := (retM (iteM (cmpM ltG (nameM 1) (callM lenG (consA (nameM 0) nilA))) (opM ixG (nameM 0) (nameM 1)) (opM addG (opM mulG (kI 6089) (nameM 1)) (opM modG (callM intG (consA (callM sumG (consA (slM (nameM 0) (ret none) (bnd (intM (kI 1)) fun i => ret (some i))) nilA)) nilA)) (kI 1000033)))))
def m__law_cell : List D → M W := fnM 2 b__law_cell
theorem sc__law_cell : FnScope ["script", "k"] ["script", "k"] (defScope st__law_cell) := ⟨rfl, rfl, rfl, by decide +kernel, rfl, by decide +kernel, by decide +kernel⟩
theorem y__law_cell (T : Txt w K mg) : BodyOk P w K mg base ["script", "k"] "_law_cell" st__law_cell 0 b__law_cell := fun f cdv A outer s H E hr =>
  (ss_one (ss_ret (se_if (st_cmp co_lt (se_name 1) (se_callB oc_len (by rfl) T.b_len bt_len (sa_cons (se_name 0) sa_nil))) (se_ix (RoomG.u1 hr) (se_name 0) (se_name 1)) (se_op oo_add (se_op oo_mul se_int (se_name 1)) (se_op oo_mod (se_callTy oc_int (by rfl) T.b_int bt_int (sa_cons (se_callB (oc_sum rfl) (by rfl) T.b_sum bt_sum (sa_cons (se_slice (se_name 0) so_none (so_some se_int)) sa_nil)) sa_nil)) se_int)))))
theorem d__law_cell (T : Txt w K mg) : Def P w K mg base "_law_cell" "_law_cell" st__law_cell 1 ["script", "k"] m__law_cell := def_ok ["script", "k"] ["script", "k"] 2 b__law_cell 0 T.f__law_cell sc__law_cell rfl (y__law_cell T)
def b__law_box : M Fl := (retM (lstM (consA (callM absG (consA (nameM 0) nilA)) (consA (cmpV geG (callM absG (consA (nameM 0) nilA)) (opM powG (kI 10) (kI 18))) (consA (opM modG (callM intG (consA (callM absG (consA (nameM 0) nilA)) nilA)) (kI 2147483629)) (consA (kI 0) nilA))))))
def m__law_box : List D → M W := fnM 1 b__law_box
theorem sc__law_box : FnScope ["great"] ["great"] (defScope st__law_box) := ⟨rfl, rfl, rfl, by decide +kernel, rfl, by decide +kernel, by decide +kernel⟩
theorem y__law_box (T : Txt w K mg) : BodyOk P w K mg base ["great"] "_law_box" st__law_box 0 b__law_box := fun f cdv A outer s H E hr =>
  (ss_one (ss_ret (se_lst (sa_cons (se_callB oc_abs (by rfl) T.b_abs bt_abs (sa_cons (se_name 0) sa_nil)) (sa_cons (se_cmp co_ge (se_callB oc_abs (by rfl) T.b_abs bt_abs (sa_cons (se_name 0) sa_nil)) (se_op oo_pow se_int se_int)) (sa_cons (se_op oo_mod (se_callTy oc_int (by rfl) T.b_int bt_int (sa_cons (se_callB oc_abs (by rfl) T.b_abs bt_abs (sa_cons (se_name 0) sa_nil)) sa_nil)) se_int) (sa_cons se_int sa_nil)))))))
theorem d__law_box (T : Txt w K mg) : Def P w K mg base "_law_box" "_law_box" st__law_box 1 ["great"] m__law_box := def_ok ["great"] ["great"] 1 b__law_box 0 T.f__law_box sc__law_box rfl (y__law_box T)
def b__law_take : M Fl := (seqM (ifM (andM (truM (opM ixG (nameM 0) (kI 1))) (cmpM gtG (opM ixG (nameM 0) (kI 0)) (kI 0)))
  (seqM (asgM 2 (opM modG (callM intG (consA (opM ixG (nameM 0) (kI 0)) nilA)) (nameM 1)))
  (seqM (subM setG (nameM 0) (kI 0) (opM fdivG (opM ixG (nameM 0) (kI 0)) (nameM 1)))
  (retM (nameM 2))))
  nextM)
  (seqM (subM setG (nameM 0) (kI 3) (opM addG (opM ixG (nameM 0) (kI 3)) (kI 1)))
  (seqM (asgM 3 (opM modG (callM intG (consA (opM powG (opM addG (opM addG (opM ixG (nameM 0) (kI 2)) (opM mulG (kI 15485863) (opM ixG (nameM 0) (kI 3)))) (kI 179424673)) (kI 5)) nilA)) (kI 2147483647)))
  (retM (opM modG (opM fdivG (opM modG (callM intG (consA (opM powG (opM addG (opM mulG (nameM 3) (kI 48271)) (opM mulG (kI 104729) (opM ixG (nameM 0) (kI 3)))) (kI 3)) nilA)) (kI 2147483587)) (kI 64)) (nameM 1))))))
def m__law_take : List D → M W := fnM 4 b__law_take
theorem sc__law_take : FnScope ["box", "many", "digit", "mixed"] ["box", "many"] (defScope st__law_take) := ⟨rfl, rfl, rfl, by decide +kernel, rfl, by decide +kernel, by decide +kernel⟩
theorem y__law_take (T : Txt w K mg) : BodyOk P w K mg base ["box", "many", "digit", "mixed"] "_law_take" st__law_take 0 b__law_take := fun f cdv A outer s H E hr =>
  (ss_cons (ss_if (SWT.st (sw_and (st_truth (se_ix (RoomG.u1 hr) (se_name 0) se_int)) (sw_and1 (st_cmp co_gt (se_ix (RoomG.u1 hr) (se_name 0) se_int) se_int))))
  (ss_cons (ss_set 2 (se_op oo_mod (se_callTy oc_int (by rfl) T.b_int bt_int (sa_cons (se_ix (RoomG.u1 hr) (se_name 0) se_int) sa_nil)) (se_name 1)) sc__law_take.nd)
  (ss_cons (ss_sub po_set (se_op oo_fdiv (se_ix (RoomG.u1 hr) (se_name 0) se_int) (se_name 1)) (se_name 0) se_int)
  (ss_one (ss_ret (se_name 2)))))
  ss_nil)
  (ss_cons (ss_sub po_set (se_op oo_add (se_ix (RoomG.u1 hr) (se_name 0) se_int) se_int) (se_name 0) se_int)
  (ss_cons (ss_set 3 (se_op oo_mod (se_callTy oc_int (by rfl) T.b_int bt_int (sa_cons (se_op oo_pow (se_op oo_add (se_op oo_add (se_ix (RoomG.u1 hr) (se_name 0) se_int) (se_op oo_mul se_int (se_ix (RoomG.u1 hr) (se_name 0) se_int))) se_int) se_int) sa_nil)) se_int) sc__law_take.nd)
  (ss_one (ss_ret (se_op oo_mod (se_op oo_fdiv (se_op oo_mod (se_callTy oc_int (by rfl) T.b_int bt_int (sa_cons (se_op oo_pow (se_op oo_add (se_op oo_mul (se_name 3) se_int) (se_op oo_mul se_int (se_ix (RoomG.u1 hr) (se_name 0) se_int))) se_int) sa_nil)) se_int) se_int) (se_name 1)))))))
theorem d__law_take (T : Txt w K mg) : Def P w K mg base "_law_take" "_law_take" st__law_take 1 ["box", "many"] m__law_take := def_ok ["box", "many", "digit", "mixed"] ["box", "many"] 4 b__law_take 0 T.f__law_take sc__law_take rfl (y__law_take T)
def w__law_mixed : Nat := 1000000
def l__law_mixed_1 : M Fl := (exprM (muM "list" appendG (nameM 3) (consA (muM "list" popG (nameM 2) (consA (callF 2 m__law_take (consA (nameM 0) (consA (callM lenG (consA (nameM 2) nilA)) nilA))) nilA)) nilA)))
def l__law_mixed_2 : M Bool := (cmpM neE (nameM 2) (lstM nilA))
def b__law_mixed : M Fl := (seqM (par2M 2 3 (callM listG (consA (nameM 1) nilA)) (lstM nilA))
  (seqM (whileM l__law_mixed_2 l__law_mixed_1 w__law_mixed)
  (retM (nameM 3))))
def m__law_mixed : List D → M W := fnM 4 b__law_mixed
theorem sc__law_mixed : FnScope ["box", "items", "left", "found"] ["box", "items"] (defScope st__law_mixed) := ⟨rfl, rfl, rfl, by decide +kernel, rfl, by decide +kernel, by decide +kernel⟩
theorem y__law_mixed (T : Txt w K mg) (D__law_take : Def P w K mg base "_law_take" "_law_take" st__law_take 1 ["box", "many"] m__law_take) : BodyOk P w K mg base ["box", "items", "left", "found"] "_law_mixed" st__law_mixed 1 b__law_mixed := fun f cdv A outer s H E hr =>
  (ss_cons (ss_par2 2 3 (se_callTy oc_list (by rfl) T.b_list bt_list (sa_cons (se_name 1) sa_nil)) (se_lst sa_nil) sc__law_mixed.nd)
  (ss_cons (ss_while w__law_mixed (st_cmp (co_neE hr.units) (se_name 2) (se_lst sa_nil))
  (ss_one (ss_expr (se_mu PySem.F.plainAttrs_list PySem.F.slot_list_append PySem.F.type_list_append mo_append (se_name 3) (sa_cons (se_mu PySem.F.plainAttrs_list PySem.F.slot_list_pop PySem.F.type_list_pop mo_pop (se_name 2) (sa_cons (se_call D__law_take (hr.mono (by decide)) (takes_of rfl rfl rfl rfl) (by rfl) (sa_cons (se_name 0) (sa_cons (se_callB oc_len (by rfl) T.b_len bt_len (sa_cons (se_name 2) sa_nil)) sa_nil))) sa_nil)) sa_nil)))) (passes_of rfl))
  (ss_one (ss_ret (se_name 3)))))
theorem d__law_mixed (T : Txt w K mg) (D__law_take : Def P w K mg base "_law_take" "_law_take" st__law_take 1 ["box", "many"] m__law_take) : Def P w K mg base "_law_mixed" "_law_mixed" st__law_mixed 2 ["box", "items"] m__law_mixed := def_ok ["box", "items", "left", "found"] ["box", "items"] 4 b__law_mixed 1 T.f__law_mixed sc__law_mixed rfl (y__law_mixed T D__law_take)
def l__law_names_1 : M W := (opM ixG (nameM 2) (callF 2 m__law_take (consA (nameM 0) (consA (kI 26) nilA))))
def l__law_names_2 : M W := (opM addG (slM (nameM 6) (ret none) (bnd (intM (unM negG (kI 1))) fun i => ret (some i))) (nameM 9))
def l__law_names_3 : M Bool := (andM (cmpM notInA (nameM 10) (nameM 3)) (cmpM notInA (nameM 10) (nameM 4)))
def l__law_names_4 : M W := (nameM 10)
def l__law_names_5 : M Fl := (seqM (asgM 6 (mtM "str" joinG (kS "") (consA (lcM [7] (range1I (consA (opM addG (kI 1) (callF 2 m__law_take (consA (nameM 0) (consA (kI 8) nilA)))) nilA)) (tg1 7) yesM l__law_names_1) nilA)))
  (seqM (ifM (andM (cmpM neG (nameM 3) (lstM nilA)) (cmpM eqG (callF 2 m__law_take (consA (nameM 0) (consA (kI 3) nilA))) (kI 0)))
  (asgM 6 (slM (opM addG (opM ixG (nameM 3) (unM negG (kI 1))) (nameM 6)) (ret none) (bnd (intM (kI 8)) fun i => ret (some i))))
  nextM)
  (seqM (asgM 8 (opM addG (lstM (consA (nameM 6) nilA)) (lcM [9] (strI (nameM 2)) (tg1 9) yesM l__law_names_2)))
  (exprM (muM "list" appendG (nameM 3) (consA (opM ixG (lcM [10] (seqI (nameM 8)) (tg1 10) l__law_names_3 l__law_names_4) (kI 0)) nilA))))))
def b__law_names : M Fl := (seqM (par2M 2 3 (kS "abcdefghijklmnopqrstuvwxyz") (lstM nilA))
  (seqM (asgM 4 (lstM (consA (kS "all") (consA (kS "some") (consA (kS "not") (consA (kS "none") (consA (kS "any") (consA (kS "if") nilA))))))))
  (seqM (bnd (range1I (consA (nameM 1) nilA)) (forM (tg1 5) l__law_names_5))
  (retM (nameM 3)))))
def m__law_names : List D → M W := fnM 11 b__law_names
theorem sc__law_names : FnScope ["box", "many", "letters", "found", "out", "k", "name", "j", "free", "letter", "other"] ["box", "many"] (defScope st__law_names) := ⟨rfl, rfl, rfl, by decide +kernel, rfl, by decide +kernel, by decide +kernel⟩
theorem y__law_names (T : Txt w K mg) (D__law_take : Def P w K mg base "_law_take" "_law_take" st__law_take 1 ["box", "many"] m__law_take) : BodyOk P w K mg base ["box", "many", "letters", "found", "out", "k", "name", "j", "free", "letter", "other"] "_law_names" st__law_names 1 b__law_names := fun f cdv A outer s H E hr =>
  (ss_cons (ss_parC 2 3 se_str (se_lst sa_nil) sc__law_names.nd)
  (ss_cons (ss_set 4 (se_lst (sa_cons se_str (sa_cons se_str (sa_cons se_str (sa_cons se_str (sa_cons se_str (sa_cons se_str sa_nil))))))) sc__law_names.nd)
  (ss_cons (ss_for (si_range1 (by rfl) T.b_range (sa_cons (se_name 1) sa_nil)) (sg_name 5 sc__law_names.nd)
  (ss_cons (ss_set 6 (se_mt PySem.F.plainAttrs_str PySem.F.slot_str_join PySem.F.type_str_join mo_join se_str (sa_cons (se_lc [("j", 7)] (si_range1 (by rfl) T.b_range (sa_cons (se_op oo_add se_int (se_call D__law_take (hr.mono (by decide)) (takes_of rfl rfl rfl rfl) (by rfl) (sa_cons (se_name 0) (sa_cons se_int sa_nil)))) sa_nil)) (fun _ _ _ _ _ => (sg_name 7 sc__law_names.nd)) (fun _ _ _ _ _ => sts_nil) (fun _ _ _ _ _ => (se_ix (RoomG.u1 hr) (se_name 2) (se_call D__law_take (hr.mono (by decide)) takes0 (by rfl) (sa_cons (se_name 0) (sa_cons se_int sa_nil))))) sc__law_names.nd) sa_nil)) sc__law_names.nd)
  (ss_cons (ss_if (SWT.st (sw_and (st_cmp (co_ne hr.units) (se_name 3) (se_lst sa_nil)) (sw_and1 (st_cmp (co_eq hr.units) (se_call D__law_take (hr.mono (by decide)) (takes_of rfl rfl rfl rfl) (by rfl) (sa_cons (se_name 0) (sa_cons se_int sa_nil))) se_int))))
  (ss_one (ss_set 6 (se_slice (se_op oo_add (se_ix (RoomG.u1 hr) (se_name 3) (se_un ou_neg se_int)) (se_name 6)) so_none (so_some se_int)) sc__law_names.nd))
  ss_nil)
  (ss_cons (ss_set 8 (se_op oo_add (se_lst (sa_cons (se_name 6) sa_nil)) (se_lc [("letter", 9)] (si_str (se_name 2)) (fun _ _ _ _ _ => (sg_name 9 sc__law_names.nd)) (fun _ _ _ _ _ => sts_nil) (fun _ _ _ _ _ => (se_op oo_add (se_slice (se_name 6) so_none (so_some (se_un ou_neg se_int))) (se_name 9))) sc__law_names.nd)) sc__law_names.nd)
  (ss_one (ss_expr (se_mu PySem.F.plainAttrs_list PySem.F.slot_list_append PySem.F.type_list_append mo_append (se_name 3) (sa_cons (se_ix (RoomG.u1 hr) (se_lc [("other", 10)] (si_seq (se_name 8)) (fun _ _ _ _ _ => (sg_name 10 sc__law_names.nd)) (fun _ _ _ _ _ => (sts_one (SWT.st (sw_and (st_cmp (co_notInA (RoomG.u65 hr)) (se_name 10) (se_name 3)) (sw_and1 (st_cmp (co_notInA (RoomG.u65 hr)) (se_name 10) (se_name 4))))))) (fun _ _ _ _ _ => (se_name 10)) sc__law_names.nd) se_int) sa_nil))))))) (passes_of rfl))
  (ss_one (ss_ret (se_name 3))))))
theorem d__law_names (T : Txt w K mg) (D__law_take : Def P w K mg base "_law_take" "_law_take" st__law_take 1 ["box", "many"] m__law_take) : Def P w K mg base "_law_names" "_law_names" st__law_names 2 ["box", "many"] m__law_names := def_ok ["box", "many", "letters", "found", "out", "k", "name", "j", "free", "letter", "other"] ["box", "many"] 11 b__law_names 1 T.f__law_names sc__law_names rfl (y__law_names T D__law_take)
def l__law_same_1 (F : List D → M W) : M Bool := (bnd (truM (callF 2 F (consA (opM ixG (nameM 0) (nameM 3)) (consA (opM ixG (nameM 1) (nameM 3)) nilA)))) fun b => ret (!b))
def l__law_same_2 (F : List D → M W) : M W := (nameM 3)
def b__law_same (F : List D → M W) : M Fl := (seqM (ifM (truM (callM isiG (consA (nameM 1) (consA (tupM (consA (kD (.ty "list")) (consA (kD (.ty "tuple")) nilA))) nilA))))
  (seqM (asgM 2 (iteM (truM (callM isiG (consA (nameM 1) (consA (kD (.ty "list")) nilA)))) (callM isiG (consA (nameM 0) (consA (kD (.ty "list")) nilA))) (callM isiG (consA (nameM 0) (consA (kD (.ty "tuple")) nilA)))))
  (seqM (ifM (orM (bnd (truM (nameM 2)) fun b => ret (!b)) (cmpM neG (callM lenG (consA (nameM 0) nilA)) (callM lenG (consA (nameM 1) nilA))))
  (retM (kB false))
  nextM)
  (retM (cmpV eqE (lcM [3] (range1I (consA (callM lenG (consA (nameM 1) nilA)) nilA)) (tg1 3) (l__law_same_1 F) (l__law_same_2 F)) (lstM nilA)))))
  nextM)
  (seqM (ifM (cmpM isG (nameM 1) kN)
  (retM (cmpV isG (nameM 0) kN))
  nextM)
  (seqM (ifM (truM (callM isiG (consA (nameM 1) (consA (kD (.ty "bool")) nilA))))
  (retM (iteM (truM (nameM 1)) (cmpV isG (nameM 0) (kB true)) (cmpV isG (nameM 0) (kB false))))
  nextM)
  (seqM (ifM (truM (callM isiG (consA (nameM 1) (consA (kD (.ty "str")) nilA))))
  (retM (andV (callM isiG (consA (nameM 0) (consA (kD (.ty "str")) nilA))) (cmpV eqG (nameM 0) (nameM 1))))
  nextM)
  (retM (andV (callM isiG (consA (nameM 0) (consA (kD (.ty "int")) nilA))) (andV (notV (callM isiG (consA (nameM 0) (consA (kD (.ty "bool")) nilA)))) (cmpV eqG (nameM 0) (nameM 1)))))))))
def m__law_same : Nat → List D → M W
  | 0 => fun _ _ => .stuck
  | n + 1 => fnM 4 (b__law_same (m__law_same n))
theorem sc__law_same : FnScope ["told", "due", "right", "k"] ["told", "due"] (defScope st__law_same) := ⟨rfl, rfl, rfl, by decide +kernel, rfl, by decide +kernel, by decide +kernel⟩
theorem d__law_same (T : Txt w K mg) : ∀ n, Def P w K mg base "_law_same" "_law_same" st__law_same (0 + n) ["told", "due"] (m__law_same n)
  | 0 => def_no T.f__law_same
  | n + 1 => have D0 := d__law_same T n; def_ok ["told", "due", "right", "k"] ["told", "due"] 4 (b__law_same (m__law_same n)) (0 + n) T.f__law_same sc__law_same rfl fun f cdv A outer s H E hr =>
  (ss_cons (ss_if (st_truth (se_callB oc_isi (by rfl) T.b_isinstance bt_isinstance (sa_cons (se_name 1) (sa_cons (se_tup (sa_cons (se_bltTy (by rfl) T.b_list bt_list) (sa_cons (se_bltTy (by rfl) T.b_tuple bt_tuple) sa_nil))) sa_nil))))
  (ss_cons (ss_set 2 (se_if (st_truth (se_callB oc_isi (by rfl) T.b_isinstance bt_isinstance (sa_cons (se_name 1) (sa_cons (se_bltTy (by rfl) T.b_list bt_list) sa_nil)))) (se_callB oc_isi (by rfl) T.b_isinstance bt_isinstance (sa_cons (se_name 0) (sa_cons (se_bltTy (by rfl) T.b_list bt_list) sa_nil))) (se_callB oc_isi (by rfl) T.b_isinstance bt_isinstance (sa_cons (se_name 0) (sa_cons (se_bltTy (by rfl) T.b_tuple bt_tuple) sa_nil)))) sc__law_same.nd)
  (ss_cons (ss_if (SWT.st (sw_or (st_not (st_truth (se_name 2))) (sw_or1 (st_cmp (co_ne hr.units) (se_callB oc_len (by rfl) T.b_len bt_len (sa_cons (se_name 0) sa_nil)) (se_callB oc_len (by rfl) T.b_len bt_len (sa_cons (se_name 1) sa_nil))))))
  (ss_one (ss_ret se_bl))
  ss_nil)
  (ss_one (ss_ret (se_cmp (co_eqE hr.units) (se_lc [("k", 3)] (si_range1 (by rfl) T.b_range (sa_cons (se_callB oc_len (by rfl) T.b_len bt_len (sa_cons (se_name 1) sa_nil)) sa_nil)) (fun _ _ _ _ _ => (sg_name 3 sc__law_same.nd)) (fun _ _ _ _ _ => (sts_one (st_not (st_truth (se_call D0 (hr.mono (Nat.le_refl _)) takes0 (by rfl) (sa_cons (se_ix (RoomG.u1 hr) (se_name 0) (se_name 3)) (sa_cons (se_ix (RoomG.u1 hr) (se_name 1) (se_name 3)) sa_nil))))))) (fun _ _ _ _ _ => (se_name 3)) sc__law_same.nd) (se_lst sa_nil))))))
  ss_nil)
  (ss_cons (ss_if (st_cmp co_is (se_name 1) se_non)
  (ss_one (ss_ret (se_cmp co_is (se_name 0) se_non)))
  ss_nil)
  (ss_cons (ss_if (st_truth (se_callB oc_isi (by rfl) T.b_isinstance bt_isinstance (sa_cons (se_name 1) (sa_cons (se_bltTy (by rfl) T.b_bool bt_bool) sa_nil))))
  (ss_one (ss_ret (se_if (st_truth (se_name 1)) (se_cmp co_is (se_name 0) se_bl) (se_cmp co_is (se_name 0) se_bl))))
  ss_nil)
  (ss_cons (ss_if (st_truth (se_callB oc_isi (by rfl) T.b_isinstance bt_isinstance (sa_cons (se_name 1) (sa_cons (se_bltTy (by rfl) T.b_str bt_str) sa_nil))))
  (ss_one (ss_ret (se_and (se_callB oc_isi (by rfl) T.b_isinstance bt_isinstance (sa_cons (se_name 0) (sa_cons (se_bltTy (by rfl) T.b_str bt_str) sa_nil))) (se_one (se_cmp (co_eq hr.units) (se_name 0) (se_name 1))))))
  ss_nil)
  (ss_one (ss_ret (se_and (se_callB oc_isi (by rfl) T.b_isinstance bt_isinstance (sa_cons (se_name 0) (sa_cons (se_bltTy (by rfl) T.b_int bt_int) sa_nil))) (se_and (se_not (se_callB oc_isi (by rfl) T.b_isinstance bt_isinstance (sa_cons (se_name 0) (sa_cons (se_bltTy (by rfl) T.b_bool bt_bool) sa_nil)))) (se_one (se_cmp (co_eq hr.units) (se_name 0) (se_name 1)))))))))))
def b__law_very : M Fl := (seqM (ifM (cmpM neG (callHM reprQ (consA (nameM 0) nilA)) (callHM reprQ (consA (nameM 1) nilA)))
  (retM (kB false))
  nextM)
  (seqM (ifM (truM (callM isiG (consA (nameM 1) (consA (kD (.ty "list")) nilA))))
  (exprM (muM "list" insertG (nameM 1) (consA (kI 0) (consA (kS "grown") nilA))))
  nextM)
  (retM (cmpV eqG (callHM reprQ (consA (nameM 0) nilA)) (callHM reprQ (consA (nameM 1) nilA))))))
def m__law_very : List D → M W := fnM 2 b__law_very
theorem sc__law_very : FnScope ["given", "value"] ["given", "value"] (defScope st__law_very) := ⟨rfl, rfl, rfl, by decide +kernel, rfl, by decide +kernel, by decide +kernel⟩
theorem y__law_very (T : Txt w K mg) : BodyOk P w K mg base ["given", "value"] "_law_very" st__law_very 0 b__law_very := fun f cdv A outer s H E hr =>
  (ss_cons (ss_if (st_cmp (co_ne hr.units) (se_callH (oc_reprQ hr.g hr.units) (by rfl) T.b_repr bt_repr (sa_cons (se_name 0) sa_nil)) (se_callH (oc_reprQ hr.g hr.units) (by rfl) T.b_repr bt_repr (sa_cons (se_name 1) sa_nil)))
  (ss_one (ss_ret se_bl))
  ss_nil)
  (ss_cons (ss_if (st_truth (se_callB oc_isi (by rfl) T.b_isinstance bt_isinstance (sa_cons (se_name 1) (sa_cons (se_bltTy (by rfl) T.b_list bt_list) sa_nil))))
  (ss_one (ss_expr (se_mu PySem.F.plainAttrs_list PySem.F.slot_list_insert PySem.F.type_list_insert mo_insert (se_name 1) (sa_cons se_int (sa_cons se_str sa_nil)))))
  ss_nil)
  (ss_one (ss_ret (se_cmp (co_eq hr.units) (se_callH (oc_reprQ hr.g hr.units) (by rfl) T.b_repr bt_repr (sa_cons (se_name 0) sa_nil)) (se_callH (oc_reprQ hr.g hr.units) (by rfl) T.b_repr bt_repr (sa_cons (se_name 1) sa_nil)))))))
theorem d__law_very (T : Txt w K mg) : Def P w K mg base "_law_very" "_law_very" st__law_very 1 ["given", "value"] m__law_very := def_ok ["given", "value"] ["given", "value"] 2 b__law_very 0 T.f__law_very sc__law_very rfl (y__law_very T)
def l__law_line_1 : M Fl := (seqM (exprM (muM "list" appendG (nameM 2) (consA (nameM 1) nilA)))
  (asgM 1 (opM addG (nameM 1) (opM ixG (lstM (consA (kI 1) (consA (kI 1) (consA (kI 2) (consA (kI 3) (consA (opM powG (kI 10) (kI 6)) (consA (opM powG (kI 10) (kI 18)) nilA))))))) (callF 2 m__law_take (consA (nameM 0) (consA (kI 6) nilA)))))))
def b__law_line : M Fl := (seqM (par2M 1 2 (opM ixG (lstM (consA (kI 0) (consA (unM negG (kI 3)) (consA (kI 1) (consA (opM powG (kI 10) (kI 19)) (consA (opM addG (unM negG (opM powG (kI 10) (kI 20))) (kI 1)) (consA (kI 7) (consA (unM negG (kI 1)) (consA (kI 2) nilA))))))))) (callF 2 m__law_take (consA (nameM 0) (consA (kI 8) nilA)))) (lstM nilA))
  (seqM (bnd (range1I (consA (kI 5) nilA)) (forM (tg1 3) l__law_line_1))
  (retM (nameM 2))))
def m__law_line : List D → M W := fnM 4 b__law_line
theorem sc__law_line : FnScope ["box", "at", "found", "k"] ["box"] (defScope st__law_line) := ⟨rfl, rfl, rfl, by decide +kernel, rfl, by decide +kernel, by decide +kernel⟩
theorem y__law_line (T : Txt w K mg) (D__law_take : Def P w K mg base "_law_take" "_law_take" st__law_take 1 ["box", "many"] m__law_take) : BodyOk P w K mg base ["box", "at", "found", "k"] "_law_line" st__law_line 1 b__law_line := fun f cdv A outer s H E hr =>
  (ss_cons (ss_par2 1 2 (se_ix (RoomG.u1 hr) (se_lst (sa_cons se_int (sa_cons (se_un ou_neg se_int) (sa_cons se_int (sa_cons (se_op oo_pow se_int se_int) (sa_cons (se_op oo_add (se_un ou_neg (se_op oo_pow se_int se_int)) se_int) (sa_cons se_int (sa_cons (se_un ou_neg se_int) (sa_cons se_int sa_nil))))))))) (se_call D__law_take (hr.mono (by decide)) (takes_of rfl rfl rfl rfl) (by rfl) (sa_cons (se_name 0) (sa_cons se_int sa_nil)))) (se_lst sa_nil) sc__law_line.nd)
  (ss_cons (ss_for (si_range1 (by rfl) T.b_range (sa_cons se_int sa_nil)) (sg_name 3 sc__law_line.nd)
  (ss_cons (ss_expr (se_mu PySem.F.plainAttrs_list PySem.F.slot_list_append PySem.F.type_list_append mo_append (se_name 2) (sa_cons (se_name 1) sa_nil)))
  (ss_one (ss_set 1 (se_op oo_add (se_name 1) (se_ix (RoomG.u1 hr) (se_lst (sa_cons se_int (sa_cons se_int (sa_cons se_int (sa_cons se_int (sa_cons (se_op oo_pow se_int se_int) (sa_cons (se_op oo_pow se_int se_int) sa_nil))))))) (se_call D__law_take (hr.mono (by decide)) (takes_of rfl rfl rfl rfl) (by rfl) (sa_cons (se_name 0) (sa_cons se_int sa_nil))))) sc__law_line.nd))) (passes_of rfl))
  (ss_one (ss_ret (se_name 2)))))
theorem d__law_line (T : Txt w K mg) (D__law_take : Def P w K mg base "_law_take" "_law_take" st__law_take 1 ["box", "many"] m__law_take) : Def P w K mg base "_law_line" "_law_line" st__law_line 2 ["box"] m__law_line := def_ok ["box", "at", "found", "k"] ["box"] 4 b__law_line 1 T.f__law_line sc__law_line rfl (y__law_line T D__law_take)
def b__law_leaf : M Fl := (seqM (par2M 3 4 (opM ixG (nameM 1) (callF 2 m__law_take (consA (nameM 0) (consA (callM lenG (consA (nameM 1) nilA)) nilA)))) (callF 2 m__law_take (consA (nameM 0) (consA (kI 7) nilA))))
  (seqM (par2M 5 6 (opM ixG (nameM 2) (callF 2 m__law_take (consA (nameM 0) (consA (kI 5) nilA)))) (opM ixG (nameM 2) (callF 2 m__law_take (consA (nameM 0) (consA (kI 5) nilA)))))
  (seqM (ifM (cmpM ltG (nameM 4) (kI 2))
  (retM (tupM (consA (kS "is") (consA (nameM 3) (consA (nameM 5) nilA)))))
  nextM)
  (seqM (ifM (cmpM ltG (nameM 4) (kI 6))
  (retM (iteM (cmpM ltG (nameM 4) (kI 5)) (tupM (consA (kS "from") (consA (nameM 3) (consA (callM minG (consA (nameM 5) (consA (nameM 6) nilA))) (consA (callM maxG (consA (nameM 5) (consA (nameM 6) nilA))) nilA))))) (tupM (consA (kS "from") (consA (nameM 3) (consA (nameM 5) (consA (nameM 6) nilA)))))))
  nextM)
  (retM (tupM (consA (kS "any") nilA)))))))
def m__law_leaf : List D → M W := fnM 7 b__law_leaf
theorem sc__law_leaf : FnScope ["box", "names", "line", "name", "way", "one", "other"] ["box", "names", "line"] (defScope st__law_leaf) := ⟨rfl, rfl, rfl, by decide +kernel, rfl, by decide +kernel, by decide +kernel⟩
theorem y__law_leaf (T : Txt w K mg) (D__law_take : Def P w K mg base "_law_take" "_law_take" st__law_take 1 ["box", "many"] m__law_take) : BodyOk P w K mg base ["box", "names", "line", "name", "way", "one", "other"] "_law_leaf" st__law_leaf 1 b__law_leaf := fun f cdv A outer s H E hr =>
  (ss_cons (ss_par2 3 4 (se_ix (RoomG.u1 hr) (se_name 1) (se_call D__law_take (hr.mono (by decide)) (takes_of rfl rfl rfl rfl) (by rfl) (sa_cons (se_name 0) (sa_cons (se_callB oc_len (by rfl) T.b_len bt_len (sa_cons (se_name 1) sa_nil)) sa_nil)))) (se_call D__law_take (hr.mono (by decide)) (takes_of rfl rfl rfl rfl) (by rfl) (sa_cons (se_name 0) (sa_cons se_int sa_nil))) sc__law_leaf.nd)
  (ss_cons (ss_par2 5 6 (se_ix (RoomG.u1 hr) (se_name 2) (se_call D__law_take (hr.mono (by decide)) (takes_of rfl rfl rfl rfl) (by rfl) (sa_cons (se_name 0) (sa_cons se_int sa_nil)))) (se_ix (RoomG.u1 hr) (se_name 2) (se_call D__law_take (hr.mono (by decide)) (takes_of rfl rfl rfl rfl) (by rfl) (sa_cons (se_name 0) (sa_cons se_int sa_nil)))) sc__law_leaf.nd)
  (ss_cons (ss_if (st_cmp co_lt (se_name 4) se_int)
  (ss_one (ss_ret (se_tup (sa_cons se_str (sa_cons (se_name 3) (sa_cons (se_name 5) sa_nil))))))
  ss_nil)
  (ss_cons (ss_if (st_cmp co_lt (se_name 4) se_int)
  (ss_one (ss_ret (se_if (st_cmp co_lt (se_name 4) se_int) (se_tup (sa_cons se_str (sa_cons (se_name 3) (sa_cons (se_callB (oc_min rfl) (by rfl) T.b_min bt_min (sa_cons (se_name 5) (sa_cons (se_name 6) sa_nil))) (sa_cons (se_callB (oc_max rfl) (by rfl) T.b_max bt_max (sa_cons (se_name 5) (sa_cons (se_name 6) sa_nil))) sa_nil))))) (se_tup (sa_cons se_str (sa_cons (se_name 3) (sa_cons (se_name 5) (sa_cons (se_name 6) sa_nil))))))))
  ss_nil)
  (ss_one (ss_ret (se_tup (sa_cons se_str sa_nil))))))))
theorem d__law_leaf (T : Txt w K mg) (D__law_take : Def P w K mg base "_law_take" "_law_take" st__law_take 1 ["box", "many"] m__law_take) : Def P w K mg base "_law_leaf" "_law_leaf" st__law_leaf 2 ["box", "names", "line"] m__law_leaf := def_ok ["box", "names", "line", "name", "way", "one", "other"] ["box", "names", "line"] 7 b__law_leaf 1 T.f__law_leaf sc__law_leaf rfl (y__law_leaf T D__law_take)
def b__law_test (F : List D → M W) : M Fl := (seqM (ifM (cmpM eqG (nameM 3) (kI 1))
  (retM (callF 3 m__law_leaf (consA (nameM 0) (consA (nameM 1) (consA (nameM 2) nilA)))))
  nextM)
  (seqM (asgM 4 (opM ixG (lstM (consA (kS "all") (consA (kS "some") (consA (kS "not") nilA)))) (callF 2 m__law_take (consA (nameM 0) (consA (kI 3) nilA)))))
  (seqM (asgM 5 (callF 4 F (consA (nameM 0) (consA (nameM 1) (consA (nameM 2) (consA (opM subG (nameM 3) (kI 1)) nilA))))))
  (seqM (ifM (cmpM eqG (nameM 4) (kS "not"))
  (retM (tupM (consA (nameM 4) (consA (nameM 5) nilA))))
  nextM)
  (seqM (asgM 6 (callF 4 F (consA (nameM 0) (consA (nameM 1) (consA (nameM 2) (consA (opM addG (kI 1) (callF 2 m__law_take (consA (nameM 0) (consA (callM minG (consA (kI 3) (consA (opM subG (nameM 3) (kI 1)) nilA))) nilA)))) nilA))))))
  (retM (iteM (cmpM eqG (callF 2 m__law_take (consA (nameM 0) (consA (kI 2) nilA))) (kI 0)) (tupM (consA (nameM 4) (consA (nameM 5) (consA (nameM 6) nilA)))) (tupM (consA (nameM 4) (consA (nameM 6) (consA (nameM 5) nilA)))))))))))
def m__law_test : Nat → List D → M W
  | 0 => fun _ _ => .stuck
  | n + 1 => fnM 7 (b__law_test (m__law_test n))
theorem sc__law_test : FnScope ["box", "names", "line", "deep", "word", "inner", "other"] ["box", "names", "line", "deep"] (defScope st__law_test) := ⟨rfl, rfl, rfl, by decide +kernel, rfl, by decide +kernel, by decide +kernel⟩
theorem d__law_test (T : Txt w K mg) (D__law_leaf : Def P w K mg base "_law_leaf" "_law_leaf" st__law_leaf 2 ["box", "names", "line"] m__law_leaf) (D__law_take : Def P w K mg base "_law_take" "_law_take" st__law_take 1 ["box", "many"] m__law_take) : ∀ n, Def P w K mg base "_law_test" "_law_test" st__law_test (2 + n) ["box", "names", "line", "deep"] (m__law_test n)
  | 0 => def_no T.f__law_test
  | n + 1 => have D0 := d__law_test T D__law_leaf D__law_take n; def_ok ["box", "names", "line", "deep", "word", "inner", "other"] ["box", "names", "line", "deep"] 7 (b__law_test (m__law_test n)) (2 + n) T.f__law_test sc__law_test rfl fun f cdv A outer s H E hr =>
  (ss_cons (ss_if (st_cmp (co_eq hr.units) (se_name 3) se_int)
  (ss_one (ss_ret (se_call D__law_leaf (hr.mono (Nat.le_trans (show _ ≤ 2 by decide) (Nat.le_add_right _ _))) (takes_of rfl rfl rfl rfl) (by rfl) (sa_cons (se_name 0) (sa_cons (se_name 1) (sa_cons (se_name 2) sa_nil))))))
  ss_nil)
  (ss_cons (ss_set 4 (se_ix (RoomG.u1 hr) (se_lst (sa_cons se_str (sa_cons se_str (sa_cons se_str sa_nil)))) (se_call D__law_take (hr.mono (Nat.le_trans (show _ ≤ 2 by decide) (Nat.le_add_right _ _))) (takes_of rfl rfl rfl rfl) (by rfl) (sa_cons (se_name 0) (sa_cons se_int sa_nil)))) sc__law_test.nd)
  (ss_cons (ss_set 5 (se_call D0 (hr.mono (Nat.le_refl _)) (takes_of rfl rfl rfl rfl) (by rfl) (sa_cons (se_name 0) (sa_cons (se_name 1) (sa_cons (se_name 2) (sa_cons (se_op oo_sub (se_name 3) se_int) sa_nil))))) sc__law_test.nd)
  (ss_cons (ss_if (st_cmp (co_eq hr.units) (se_name 4) se_str)
  (ss_one (ss_ret (se_tup (sa_cons (se_name 4) (sa_cons (se_name 5) sa_nil)))))
  ss_nil)
  (ss_cons (ss_set 6 (se_call D0 (hr.mono (Nat.le_refl _)) (takes_of rfl rfl rfl rfl) (by rfl) (sa_cons (se_name 0) (sa_cons (se_name 1) (sa_cons (se_name 2) (sa_cons (se_op oo_add se_int (se_call D__law_take (hr.mono (Nat.le_trans (show _ ≤ 2 by decide) (Nat.le_add_right _ _))) (takes_of rfl rfl rfl rfl) (by rfl) (sa_cons (se_name 0) (sa_cons (se_callB (oc_min rfl) (by rfl) T.b_min bt_min (sa_cons se_int (sa_cons (se_op oo_sub (se_name 3) se_int) sa_nil))) sa_nil)))) sa_nil))))) sc__law_test.nd)
  (ss_one (ss_ret (se_if (st_cmp (co_eq hr.units) (se_call D__law_take (hr.mono (Nat.le_trans (show _ ≤ 2 by decide) (Nat.le_add_right _ _))) (takes_of rfl rfl rfl rfl) (by rfl) (sa_cons (se_name 0) (sa_cons se_int sa_nil))) se_int) (se_tup (sa_cons (se_name 4) (sa_cons (se_name 5) (sa_cons (se_name 6) sa_nil)))) (se_tup (sa_cons (se_name 4) (sa_cons (se_name 6) (sa_cons (se_name 5) sa_nil))))))))))))
def b__law_is_int : M Fl := (retM (andV (callM isiG (consA (nameM 0) (consA (kD (.ty "int")) nilA))) (notV (callM isiG (consA (nameM 0) (consA (kD (.ty "bool")) nilA))))))
def m__law_is_int : List D → M W := fnM 1 b__law_is_int
theorem sc__law_is_int : FnScope ["value"] ["value"] (defScope st__law_is_int) := ⟨rfl, rfl, rfl, by decide +kernel, rfl, by decide +kernel, by decide +kernel⟩
theorem y__law_is_int (T : Txt w K mg) : BodyOk P w K mg base ["value"] "_law_is_int" st__law_is_int 0 b__law_is_int := fun f cdv A outer s H E hr =>
  (ss_one (ss_ret (se_and (se_callB oc_isi (by rfl) T.b_isinstance bt_isinstance (sa_cons (se_name 0) (sa_cons (se_bltTy (by rfl) T.b_int bt_int) sa_nil))) (se_one (se_not (se_callB oc_isi (by rfl) T.b_isinstance bt_isinstance (sa_cons (se_name 0) (sa_cons (se_bltTy (by rfl) T.b_bool bt_bool) sa_nil))))))))
theorem d__law_is_int (T : Txt w K mg) : Def P w K mg base "_law_is_int" "_law_is_int" st__law_is_int 1 ["value"] m__law_is_int := def_ok ["value"] ["value"] 1 b__law_is_int 0 T.f__law_is_int sc__law_is_int rfl (y__law_is_int T)
def l__law_is_test_1 (F : List D → M W) : M Bool := (bnd (truM (callF 1 m__law_is_int (consA (nameM 3) nilA))) fun b => ret (!b))
def l__law_is_test_2 (F : List D → M W) : M W := (nameM 3)
def b__law_is_test (F : List D → M W) : M Fl := (seqM (ifM (orM (bnd (truM (callM isiG (consA (nameM 1) (consA (kD (.ty "tuple")) nilA)))) fun b => ret (!b)) (orM (cmpM eqG (callM lenG (consA (nameM 1) nilA)) (kI 0)) (orM (cmpM eqG (nameM 2) (kI 0)) (bnd (truM (callM isiG (consA (opM ixG (nameM 1) (kI 0)) (consA (kD (.ty "str")) nilA)))) fun b => ret (!b)))))
  (retM (kB false))
  nextM)
  (seqM (ifM (cmpM eqG (opM ixG (nameM 1) (kI 0)) (kS "any"))
  (retM (cmpV eqG (callM lenG (consA (nameM 1) nilA)) (kI 1)))
  nextM)
  (seqM (ifM (cmpM inA (opM ixG (nameM 1) (kI 0)) (lstM (consA (kS "is") (consA (kS "from") nilA))))
  (seqM (ifM (orM (cmpM neG (callM lenG (consA (nameM 1) nilA)) (iteM (cmpM eqG (opM ixG (nameM 1) (kI 0)) (kS "is")) (kI 3) (kI 4))) (orM (bnd (truM (callM isiG (consA (opM ixG (nameM 1) (kI 1)) (consA (kD (.ty "str")) nilA)))) fun b => ret (!b)) (cmpM notInA (opM ixG (nameM 1) (kI 1)) (nameM 0))))
  (retM (kB false))
  nextM)
  (retM (cmpV eqE (lcM [3] (seqI (slM (nameM 1) (bnd (intM (kI 2)) fun i => ret (some i)) (ret none))) (tg1 3) (l__law_is_test_1 F) (l__law_is_test_2 F)) (lstM nilA))))
  nextM)
  (seqM (ifM (cmpM eqG (opM ixG (nameM 1) (kI 0)) (kS "not"))
  (retM (andV (cmpV eqG (callM lenG (consA (nameM 1) nilA)) (kI 2)) (callF 3 F (consA (nameM 0) (consA (opM ixG (nameM 1) (kI 1)) (consA (opM subG (nameM 2) (kI 1)) nilA))))))
  nextM)
  (seqM (ifM (andM (cmpM inA (opM ixG (nameM 1) (kI 0)) (lstM (consA (kS "all") (consA (kS "some") nilA)))) (cmpM eqG (callM lenG (consA (nameM 1) nilA)) (kI 3)))
  (retM (andV (callF 3 F (consA (nameM 0) (consA (opM ixG (nameM 1) (kI 1)) (consA (opM subG (nameM 2) (kI 1)) nilA)))) (callF 3 F (consA (nameM 0) (consA (opM ixG (nameM 1) (kI 2)) (consA (opM subG (nameM 2) (kI 1)) nilA))))))
  nextM)
  (retM (kB false)))))))
def m__law_is_test : Nat → List D → M W
  | 0 => fun _ _ => .stuck
  | n + 1 => fnM 4 (b__law_is_test (m__law_is_test n))
theorem sc__law_is_test : FnScope ["names", "value", "deep", "one"] ["names", "value", "deep"] (defScope st__law_is_test) := ⟨rfl, rfl, rfl, by decide +kernel, rfl, by decide +kernel, by decide +kernel⟩
theorem d__law_is_test (T : Txt w K mg) (D__law_is_int : Def P w K mg base "_law_is_int" "_law_is_int" st__law_is_int 1 ["value"] m__law_is_int) : ∀ n, Def P w K mg base "_law_is_test" "_law_is_test" st__law_is_test (1 + n) ["names", "value", "deep"] (m__law_is_test n)
  | 0 => def_no T.f__law_is_test
  | n + 1 => have D0 := d__law_is_test T D__law_is_int n; def_ok ["names", "value", "deep", "one"] ["names", "value", "deep"] 4 (b__law_is_test (m__law_is_test n)) (1 + n) T.f__law_is_test sc__law_is_test rfl fun f cdv A outer s H E hr =>
  (ss_cons (ss_if (SWT.st (sw_or (st_not (st_truth (se_callB oc_isi (by rfl) T.b_isinstance bt_isinstance (sa_cons (se_name 1) (sa_cons (se_bltTy (by rfl) T.b_tuple bt_tuple) sa_nil))))) (sw_or (st_cmp (co_eq hr.units) (se_callB oc_len (by rfl) T.b_len bt_len (sa_cons (se_name 1) sa_nil)) se_int) (sw_or (st_cmp (co_eq hr.units) (se_name 2) se_int) (sw_or1 (st_not (st_truth (se_callB oc_isi (by rfl) T.b_isinstance bt_isinstance (sa_cons (se_ix (RoomG.u1 hr) (se_name 1) se_int) (sa_cons (se_bltTy (by rfl) T.b_str bt_str) sa_nil))))))))))
  (ss_one (ss_ret se_bl))
  ss_nil)
  (ss_cons (ss_if (st_cmp (co_eq hr.units) (se_ix (RoomG.u1 hr) (se_name 1) se_int) se_str)
  (ss_one (ss_ret (se_cmp (co_eq hr.units) (se_callB oc_len (by rfl) T.b_len bt_len (sa_cons (se_name 1) sa_nil)) se_int)))
  ss_nil)
  (ss_cons (ss_if (st_cmp (co_inA (RoomG.u65 hr)) (se_ix (RoomG.u1 hr) (se_name 1) se_int) (se_lst (sa_cons se_str (sa_cons se_str sa_nil))))
  (ss_cons (ss_if (SWT.st (sw_or (st_cmp (co_ne hr.units) (se_callB oc_len (by rfl) T.b_len bt_len (sa_cons (se_name 1) sa_nil)) (se_if (st_cmp (co_eq hr.units) (se_ix (RoomG.u1 hr) (se_name 1) se_int) se_str) se_int se_int)) (sw_or (st_not (st_truth (se_callB oc_isi (by rfl) T.b_isinstance bt_isinstance (sa_cons (se_ix (RoomG.u1 hr) (se_name 1) se_int) (sa_cons (se_bltTy (by rfl) T.b_str bt_str) sa_nil))))) (sw_or1 (st_cmp (co_notInA (RoomG.u65 hr)) (se_ix (RoomG.u1 hr) (se_name 1) se_int) (se_name 0))))))
  (ss_one (ss_ret se_bl))
  ss_nil)
  (ss_one (ss_ret (se_cmp (co_eqE hr.units) (se_lc [("one", 3)] (si_seq (se_slice (se_name 1) (so_some se_int) so_none)) (fun _ _ _ _ _ => (sg_name 3 sc__law_is_test.nd)) (fun _ _ _ _ _ => (sts_one (st_not (st_truth (se_call D__law_is_int (hr.mono (Nat.le_trans (show _ ≤ 1 by decide) (Nat.le_add_right _ _))) takes0 (by rfl) (sa_cons (se_name 3) sa_nil)))))) (fun _ _ _ _ _ => (se_name 3)) sc__law_is_test.nd) (se_lst sa_nil)))))
  ss_nil)
  (ss_cons (ss_if (st_cmp (co_eq hr.units) (se_ix (RoomG.u1 hr) (se_name 1) se_int) se_str)
  (ss_one (ss_ret (se_and (se_cmp (co_eq hr.units) (se_callB oc_len (by rfl) T.b_len bt_len (sa_cons (se_name 1) sa_nil)) se_int) (se_one (se_call D0 (hr.mono (Nat.le_refl _)) (takes_of rfl rfl rfl rfl) (by rfl) (sa_cons (se_name 0) (sa_cons (se_ix (RoomG.u1 hr) (se_name 1) se_int) (sa_cons (se_op oo_sub (se_name 2) se_int) sa_nil))))))))
  ss_nil)
  (ss_cons (ss_if (SWT.st (sw_and (st_cmp (co_inA (RoomG.u65 hr)) (se_ix (RoomG.u1 hr) (se_name 1) se_int) (se_lst (sa_cons se_str (sa_cons se_str sa_nil)))) (sw_and1 (st_cmp (co_eq hr.units) (se_callB oc_len (by rfl) T.b_len bt_len (sa_cons (se_name 1) sa_nil)) se_int))))
  (ss_one (ss_ret (se_and (se_call D0 (hr.mono (Nat.le_refl _)) (takes_of rfl rfl rfl rfl) (by rfl) (sa_cons (se_name 0) (sa_cons (se_ix (RoomG.u1 hr) (se_name 1) se_int) (sa_cons (se_op oo_sub (se_name 2) se_int) sa_nil)))) (se_one (se_call D0 (hr.mono (Nat.le_refl _)) (takes_of rfl rfl rfl rfl) (by rfl) (sa_cons (se_name 0) (sa_cons (se_ix (RoomG.u1 hr) (se_name 1) se_int) (sa_cons (se_op oo_sub (se_name 2) se_int) sa_nil))))))))
  ss_nil)
  (ss_one (ss_ret se_bl)))))))
def b__law_passes (F : List D → M W) : M Fl := (seqM (asgM 3 (opM ixG (nameM 1) (kI 0)))
  (seqM (ifM (cmpM eqG (nameM 3) (kS "any"))
  (retM (kB true))
  nextM)
  (seqM (ifM (cmpM inA (nameM 3) (lstM (consA (kS "is") (consA (kS "from") nilA))))
  (seqM (asgM 4 (opM ixG (nameM 2) (mtM "list" indexG (nameM 0) (consA (opM ixG (nameM 1) (kI 1)) nilA))))
  (retM (iteM (cmpM eqG (nameM 3) (kS "is")) (cmpV eqG (nameM 4) (opM ixG (nameM 1) (kI 2))) (blM (chainM leG leG (opM ixG (nameM 1) (kI 2)) (nameM 4) (opM ixG (nameM 1) (kI 3)))))))
  nextM)
  (seqM (asgM 5 (callF 3 F (consA (nameM 0) (consA (opM ixG (nameM 1) (kI 1)) (consA (nameM 2) nilA)))))
  (seqM (ifM (cmpM eqG (nameM 3) (kS "not"))
  (retM (notV (nameM 5)))
  nextM)
  (seqM (asgM 6 (callF 3 F (consA (nameM 0) (consA (opM ixG (nameM 1) (kI 2)) (consA (nameM 2) nilA)))))
  (retM (iteM (cmpM eqG (nameM 3) (kS "all")) (andV (nameM 5) (nameM 6)) (orV (nameM 5) (nameM 6))))))))))
def m__law_passes : Nat → List D → M W
  | 0 => fun _ _ => .stuck
  | n + 1 => fnM 7 (b__law_passes (m__law_passes n))
theorem sc__law_passes : FnScope ["names", "test", "report", "word", "value", "first", "second"] ["names", "test", "report"] (defScope st__law_passes) := ⟨rfl, rfl, rfl, by decide +kernel, rfl, by decide +kernel, by decide +kernel⟩
theorem d__law_passes (T : Txt w K mg) : ∀ n, Def P w K mg base "_law_passes" "_law_passes" st__law_passes (0 + n) ["names", "test", "report"] (m__law_passes n)
  | 0 => def_no T.f__law_passes
  | n + 1 => have D0 := d__law_passes T n; def_ok ["names", "test", "report", "word", "value", "first", "second"] ["names", "test", "report"] 7 (b__law_passes (m__law_passes n)) (0 + n) T.f__law_passes sc__law_passes rfl fun f cdv A outer s H E hr =>
  (ss_cons (ss_set 3 (se_ix (RoomG.u1 hr) (se_name 1) se_int) sc__law_passes.nd)
  (ss_cons (ss_if (st_cmp (co_eq hr.units) (se_name 3) se_str)
  (ss_one (ss_ret se_bl))
  ss_nil)
  (ss_cons (ss_if (st_cmp (co_inA (RoomG.u65 hr)) (se_name 3) (se_lst (sa_cons se_str (sa_cons se_str sa_nil))))
  (ss_cons (ss_set 4 (se_ix (RoomG.u1 hr) (se_name 2) (se_mt PySem.F.plainAttrs_list PySem.F.slot_list_index PySem.F.type_list_index mo_index (se_name 0) (sa_cons (se_ix (RoomG.u1 hr) (se_name 1) se_int) sa_nil))) sc__law_passes.nd)
  (ss_one (ss_ret (se_if (st_cmp (co_eq hr.units) (se_name 3) se_str) (se_cmp (co_eq hr.units) (se_name 4) (se_ix (RoomG.u1 hr) (se_name 1) se_int)) (se_chain co_le co_le (se_ix (RoomG.u1 hr) (se_name 1) se_int) (se_name 4) (se_ix (RoomG.u1 hr) (se_name 1) se_int))))))
  ss_nil)
  (ss_cons (ss_set 5 (se_call D0 (hr.mono (Nat.le_refl _)) (takes_of rfl rfl rfl rfl) (by rfl) (sa_cons (se_name 0) (sa_cons (se_ix (RoomG.u1 hr) (se_name 1) se_int) (sa_cons (se_name 2) sa_nil)))) sc__law_passes.nd)
  (ss_cons (ss_if (st_cmp (co_eq hr.units) (se_name 3) se_str)
  (ss_one (ss_ret (se_not (se_name 5))))
  ss_nil)
  (ss_cons (ss_set 6 (se_call D0 (hr.mono (Nat.le_refl _)) (takes_of rfl rfl rfl rfl) (by rfl) (sa_cons (se_name 0) (sa_cons (se_ix (RoomG.u1 hr) (se_name 1) se_int) (sa_cons (se_name 2) sa_nil)))) sc__law_passes.nd)
  (ss_one (ss_ret (se_if (st_cmp (co_eq hr.units) (se_name 3) se_str) (se_and (se_name 5) (se_one (se_name 6))) (se_or (se_name 5) (se_one (se_name 6))))))))))))
def b__law_judged : M Fl := (seqM (asgM 3 (callHM reprQ (consA (nameM 1) nilA)))
  (seqM (asgM 4 (iteM (truM (nameM 2)) (callKF 2 2 [1, 0] m_is_test (consA (nameM 1) (consA (nameM 0) nilA))) (callF 2 m_is_test (consA (nameM 0) (consA (nameM 1) nilA)))))
  (retM (iteM (cmpM eqG (callHM reprQ (consA (nameM 1) nilA)) (nameM 3)) (nameM 4) kN))))
def m__law_judged : List D → M W := fnM 5 b__law_judged
theorem sc__law_judged : FnScope ["fields", "value", "named", "text", "told"] ["fields", "value", "named"] (defScope st__law_judged) := ⟨rfl, rfl, rfl, by decide +kernel, rfl, by decide +kernel, by decide +kernel⟩
theorem y__law_judged (T : Txt w K mg) (DK_is_test__value_fields : DefK P w K mg base "is_test" 12 ["fields", "value"] ["value", "fields"] [1, 0] m_is_test) (D_is_test : Def P w K mg base "is_test" "is_test" st_is_test 12 ["fields", "value"] m_is_test) : BodyOk P w K mg base ["fields", "value", "named", "text", "told"] "_law_judged" st__law_judged 12 b__law_judged := fun f cdv A outer s H E hr =>
  (ss_cons (ss_set 3 (se_callH (oc_reprQ hr.g hr.units) (by rfl) T.b_repr bt_repr (sa_cons (se_name 1) sa_nil)) sc__law_judged.nd)
  (ss_cons (ss_set 4 (se_if (st_truth (se_name 2)) (se_callK DK_is_test__value_fields (hr.mono (by decide)) (takes_of rfl rfl rfl rfl) (by rfl) (sk_cons (se_name 1) (sk_cons (se_name 0) sk_nil))) (se_call D_is_test (hr.mono (by decide)) (takes_of rfl rfl rfl rfl) (by rfl) (sa_cons (se_name 0) (sa_cons (se_name 1) sa_nil)))) sc__law_judged.nd)
  (ss_one (ss_ret (se_if (st_cmp (co_eq hr.units) (se_callH (oc_reprQ hr.g hr.units) (by rfl) T.b_repr bt_repr (sa_cons (se_name 1) sa_nil)) (se_name 3)) (se_name 4) se_non)))))
theorem d__law_judged (T : Txt w K mg) (DK_is_test__value_fields : DefK P w K mg base "is_test" 12 ["fields", "value"] ["value", "fields"] [1, 0] m_is_test) (D_is_test : Def P w K mg base "is_test" "is_test" st_is_test 12 ["fields", "value"] m_is_test) : Def P w K mg base "_law_judged" "_law_judged" st__law_judged 13 ["fields", "value", "named"] m__law_judged := def_ok ["fields", "value", "named", "text", "told"] ["fields", "value", "named"] 5 b__law_judged 12 T.f__law_judged sc__law_judged rfl (y__law_judged T DK_is_test__value_fields D_is_test)
def b__law_passed : M Fl := (tryM exTab (retM (lstM (consA (kS "told") (consA (iteM (truM (nameM 3)) (callKF 3 3 [2, 1, 0] m_passes (consA (nameM 2) (consA (nameM 1) (consA (nameM 0) nilA)))) (callF 3 m_passes (consA (nameM 0) (consA (nameM 1) (consA (nameM 2) nilA))))) nilA)))) [("InvalidTest", 4, fun C ns ds => (lstM (consA (kS "test") (consA (fldM erTab C ns ds "given") (consA (isM isTab C "ShareError") nilA))))), ("InvalidReport", 4, fun C ns ds => (lstM (consA (kS "report") (consA (fldM erTab C ns ds "given") (consA (isM isTab C "ShareError") nilA)))))])
def m__law_passed : List D → M W := fnM 5 b__law_passed
theorem sc__law_passed : FnScope ["fields", "test", "report", "named", "e"] ["fields", "test", "report", "named"] (defScope st__law_passed) := ⟨rfl, rfl, rfl, by decide +kernel, rfl, by decide +kernel, by decide +kernel⟩
theorem y__law_passed (T : Txt w K mg) (DK_passes__report_test_fields : DefK P w K mg base "passes" 14 ["fields", "test", "report"] ["report", "test", "fields"] [2, 1, 0] m_passes) (D_passes : Def P w K mg base "passes" "passes" st_passes 14 ["fields", "test", "report"] m_passes) : BodyOk P w K mg base ["fields", "test", "report", "named", "e"] "_law_passed" st__law_passed 14 b__law_passed := fun f cdv A outer s H E hr =>
  (ss_one (ss_try T.ex (fun W pn xe tkB poB => (ss_one (ss_ret (se_lst (sa_cons se_str (sa_cons (se_if (st_truth (se_name 3)) (se_callK DK_passes__report_test_fields (hr.mono (by decide)) tkB (by rfl) (sk_cons (se_name 2) (sk_cons (se_name 1) (sk_cons (se_name 0) sk_nil)))) (se_call D_passes (hr.mono (by decide)) tkB (by rfl) (sa_cons (se_name 0) (sa_cons (se_name 1) (sa_cons (se_name 2) sa_nil))))) sa_nil)))))) (.cons (i := 4) (by rfl) T.k_InvalidTest (by decide) (by rfl) (by rfl) (fun a oe cls d pn hz hf C ns ds => (xe_lst (xa_cons (xe_of se_str) (xa_cons (xe_fld 4 "given" T.xf_given hz hf) (xa_cons (xe_is 4 T.is hz (by rfl) T.b_isinstance bt_isinstance (by rfl)) xa_nil fun _ _ h x q => h.ext x q) fun _ _ h x q => h.ext x q) fun _ _ h x q => h.ext x q))) (.cons (i := 4) (by rfl) T.k_InvalidReport (by decide) (by rfl) (by rfl) (fun a oe cls d pn hz hf C ns ds => (xe_lst (xa_cons (xe_of se_str) (xa_cons (xe_fld 4 "given" T.xf_given hz hf) (xa_cons (xe_is 4 T.is hz (by rfl) T.b_isinstance bt_isinstance (by rfl)) xa_nil fun _ _ h x q => h.ext x q) fun _ _ h x q => h.ext x q) fun _ _ h x q => h.ext x q))) ZCls.nil)) (takes_of rfl rfl rfl rfl) sc__law_passed.nd))
theorem d__law_passed (T : Txt w K mg) (DK_passes__report_test_fields : DefK P w K mg base "passes" 14 ["fields", "test", "report"] ["report", "test", "fields"] [2, 1, 0] m_passes) (D_passes : Def P w K mg base "passes" "passes" st_passes 14 ["fields", "test", "report"] m_passes) : Def P w K mg base "_law_passed" "_law_passed" st__law_passed 15 ["fields", "test", "report", "named"] m__law_passed := def_ok ["fields", "test", "report", "named", "e"] ["fields", "test", "report", "named"] 5 b__law_passed 14 T.f__law_passed sc__law_passed rfl (y__law_passed T DK_passes__report_test_fields D_passes)
def b__law_bent (F : List D → M W) : M Fl := (seqM (asgM 4 (callF 2 m__law_take (consA (nameM 0) (consA (callM maxG (consA (kI 1) (consA (callM lenG (consA (nameM 3) nilA)) nilA))) nilA))))
  (seqM (ifM (andM (cmpM gtG (callM lenG (consA (nameM 3) nilA)) (kI 1)) (andM (truM (callM isiG (consA (opM ixG (nameM 3) (nameM 4)) (consA (kD (.ty "tuple")) nilA)))) (cmpM gtG (callF 2 m__law_take (consA (nameM 0) (consA (kI 4) nilA))) (kI 0))))
  (retM (opM addG (opM addG (slM (nameM 3) (ret none) (bnd (intM (nameM 4)) fun i => ret (some i))) (tupM (consA (callF 4 F (consA (nameM 0) (consA (nameM 1) (consA (nameM 2) (consA (opM ixG (nameM 3) (nameM 4)) nilA))))) nilA))) (slM (nameM 3) (bnd (intM (opM addG (nameM 4) (kI 1))) fun i => ret (some i)) (ret none))))
  nextM)
  (seqM (par2M 5 6 (callF 2 m__law_take (consA (nameM 0) (consA (kI 12) nilA))) (callF 3 m__law_leaf (consA (nameM 0) (consA (nameM 1) (consA (nameM 2) nilA)))))
  (seqM (ifM (cmpM ltG (nameM 5) (kI 6))
  (seqM (asgM 7 (lstM (consA kN (consA (kB true) (consA (kB false) (consA (kS "0") (consA (opM ixG (nameM 1) (kI 0)) (consA (kS "any") (consA (kS "is") (consA (kS "from") (consA (kS "all") (consA (kS "some") (consA (kS "not") (consA (lstM (consA (kI 1) nilA)) (consA dictM (consA (tupM nilA) (consA (kI 1) (consA (opM addG (opM ixG (nameM 1) (unM negG (kI 1))) (kS "a")) (consA (nameM 6) (consA (opM ixG (nameM 2) (kI 0)) (consA (kS "") (consA (kS "none") nilA))))))))))))))))))))))
  (retM (opM addG (opM addG (slM (nameM 3) (ret none) (bnd (intM (nameM 4)) fun i => ret (some i))) (tupM (consA (opM ixG (nameM 7) (callF 2 m__law_take (consA (nameM 0) (consA (kI 20) nilA)))) nilA))) (slM (nameM 3) (bnd (intM (opM addG (nameM 4) (kI 1))) fun i => ret (some i)) (ret none)))))
  nextM)
  (seqM (ifM (cmpM ltG (nameM 5) (kI 8))
  (retM (opM ixG (lstM (consA (slM (nameM 3) (ret none) (bnd (intM (unM negG (kI 1))) fun i => ret (some i))) (consA (opM addG (nameM 3) (slM (nameM 3) (bnd (intM (unM negG (kI 1))) fun i => ret (some i)) (ret none))) (consA (opM addG (nameM 3) (tupM (consA (nameM 6) nilA))) (consA (slM (nameM 3) (bnd (intM (kI 1)) fun i => ret (some i)) (ret none)) nilA))))) (callF 2 m__law_take (consA (nameM 0) (consA (kI 4) nilA)))))
  nextM)
  (seqM (ifM (cmpM eqG (nameM 5) (kI 8))
  (retM (cellM (callM listG (consA (nameM 3) nilA))))
  nextM)
  (seqM (ifM (cmpM eqG (nameM 5) (kI 9))
  (retM (opM addG (slM (nameM 3) (ret none) (bnd (intM (kI 1)) fun i => ret (some i))) (revM (slM (nameM 3) (bnd (intM (kI 1)) fun i => ret (some i)) (ret none)))))
  nextM)
  (retM (opM ixG (lstM (consA (tupM (consA (kS "not") (consA (nameM 3) nilA))) (consA (tupM (consA (nameM 3) nilA)) (consA (tupM (consA (kS "all") (consA (nameM 6) (consA (nameM 3) nilA)))) (consA (tupM (consA (kS "some") (consA (nameM 3) nilA))) (consA (nameM 6) (consA (tupM (consA (kS "any") (consA (nameM 6) nilA))) (consA (opM ixG (nameM 3) (kI 0)) (consA (tupM (consA (kS "all") (consA (nameM 3) (consA (nameM 6) (consA (nameM 6) nilA))))) nilA))))))))) (callF 2 m__law_take (consA (nameM 0) (consA (kI 8) nilA))))))))))))
def m__law_bent : Nat → List D → M W
  | 0 => fun _ _ => .stuck
  | n + 1 => fnM 8 (b__law_bent (m__law_bent n))
theorem sc__law_bent : FnScope ["box", "names", "line", "value", "at", "way", "leaf", "odd"] ["box", "names", "line", "value"] (defScope st__law_bent) := ⟨rfl, rfl, rfl, by decide +kernel, rfl, by decide +kernel, by decide +kernel⟩
theorem d__law_bent (T : Txt w K mg) (D__law_take : Def P w K mg base "_law_take" "_law_take" st__law_take 1 ["box", "many"] m__law_take) (D__law_leaf : Def P w K mg base "_law_leaf" "_law_leaf" st__law_leaf 2 ["box", "names", "line"] m__law_leaf) : ∀ n, Def P w K mg base "_law_bent" "_law_bent" st__law_bent (2 + n) ["box", "names", "line", "value"] (m__law_bent n)
  | 0 => def_no T.f__law_bent
  | n + 1 => have D0 := d__law_bent T D__law_take D__law_leaf n; def_ok ["box", "names", "line", "value", "at", "way", "leaf", "odd"] ["box", "names", "line", "value"] 8 (b__law_bent (m__law_bent n)) (2 + n) T.f__law_bent sc__law_bent rfl fun f cdv A outer s H E hr =>
  (ss_cons (ss_set 4 (se_call D__law_take (hr.mono (Nat.le_trans (show _ ≤ 2 by decide) (Nat.le_add_right _ _))) (takes_of rfl rfl rfl rfl) (by rfl) (sa_cons (se_name 0) (sa_cons (se_callB (oc_max rfl) (by rfl) T.b_max bt_max (sa_cons se_int (sa_cons (se_callB oc_len (by rfl) T.b_len bt_len (sa_cons (se_name 3) sa_nil)) sa_nil))) sa_nil))) sc__law_bent.nd)
  (ss_cons (ss_if (SWT.st (sw_and (st_cmp co_gt (se_callB oc_len (by rfl) T.b_len bt_len (sa_cons (se_name 3) sa_nil)) se_int) (sw_and (st_truth (se_callB oc_isi (by rfl) T.b_isinstance bt_isinstance (sa_cons (se_ix (RoomG.u1 hr) (se_name 3) (se_name 4)) (sa_cons (se_bltTy (by rfl) T.b_tuple bt_tuple) sa_nil)))) (sw_and1 (st_cmp co_gt (se_call D__law_take (hr.mono (Nat.le_trans (show _ ≤ 2 by decide) (Nat.le_add_right _ _))) (takes_of rfl rfl rfl rfl) (by rfl) (sa_cons (se_name 0) (sa_cons se_int sa_nil))) se_int)))))
  (ss_one (ss_ret (se_op oo_add (se_op oo_add (se_slice (se_name 3) so_none (so_some (se_name 4))) (se_tup (sa_cons (se_call D0 (hr.mono (Nat.le_refl _)) (takes_of rfl rfl rfl rfl) (by rfl) (sa_cons (se_name 0) (sa_cons (se_name 1) (sa_cons (se_name 2) (sa_cons (se_ix (RoomG.u1 hr) (se_name 3) (se_name 4)) sa_nil))))) sa_nil))) (se_slice (se_name 3) (so_some (se_op oo_add (se_name 4) se_int)) so_none))))
  ss_nil)
  (ss_cons (ss_par2 5 6 (se_call D__law_take (hr.mono (Nat.le_trans (show _ ≤ 2 by decide) (Nat.le_add_right _ _))) (takes_of rfl rfl rfl rfl) (by rfl) (sa_cons (se_name 0) (sa_cons se_int sa_nil))) (se_call D__law_leaf (hr.mono (Nat.le_trans (show _ ≤ 2 by decide) (Nat.le_add_right _ _))) (takes_of rfl rfl rfl rfl) (by rfl) (sa_cons (se_name 0) (sa_cons (se_name 1) (sa_cons (se_name 2) sa_nil)))) sc__law_bent.nd)
  (ss_cons (ss_if (st_cmp co_lt (se_name 5) se_int)
  (ss_cons (ss_set 7 (se_lst (sa_cons se_non (sa_cons se_bl (sa_cons se_bl (sa_cons se_str (sa_cons (se_ix (RoomG.u1 hr) (se_name 1) se_int) (sa_cons se_str (sa_cons se_str (sa_cons se_str (sa_cons se_str (sa_cons se_str (sa_cons se_str (sa_cons (se_lst (sa_cons se_int sa_nil)) (sa_cons se_dict0 (sa_cons (se_tup sa_nil) (sa_cons se_int (sa_cons (se_op oo_add (se_ix (RoomG.u1 hr) (se_name 1) (se_un ou_neg se_int)) se_str) (sa_cons (se_name 6) (sa_cons (se_ix (RoomG.u1 hr) (se_name 2) se_int) (sa_cons se_str (sa_cons se_str sa_nil))))))))))))))))))))) sc__law_bent.nd)
  (ss_one (ss_ret (se_op oo_add (se_op oo_add (se_slice (se_name 3) so_none (so_some (se_name 4))) (se_tup (sa_cons (se_ix (RoomG.u1 hr) (se_name 7) (se_call D__law_take (hr.mono (Nat.le_trans (show _ ≤ 2 by decide) (Nat.le_add_right _ _))) (takes_of rfl rfl rfl rfl) (by rfl) (sa_cons (se_name 0) (sa_cons se_int sa_nil)))) sa_nil))) (se_slice (se_name 3) (so_some (se_op oo_add (se_name 4) se_int)) so_none)))))
  ss_nil)
  (ss_cons (ss_if (st_cmp co_lt (se_name 5) se_int)
  (ss_one (ss_ret (se_ix (RoomG.u1 hr) (se_lst (sa_cons (se_slice (se_name 3) so_none (so_some (se_un ou_neg se_int))) (sa_cons (se_op oo_add (se_name 3) (se_slice (se_name 3) (so_some (se_un ou_neg se_int)) so_none)) (sa_cons (se_op oo_add (se_name 3) (se_tup (sa_cons (se_name 6) sa_nil))) (sa_cons (se_slice (se_name 3) (so_some se_int) so_none) sa_nil))))) (se_call D__law_take (hr.mono (Nat.le_trans (show _ ≤ 2 by decide) (Nat.le_add_right _ _))) (takes_of rfl rfl rfl rfl) (by rfl) (sa_cons (se_name 0) (sa_cons se_int sa_nil))))))
  ss_nil)
  (ss_cons (ss_if (st_cmp (co_eq hr.units) (se_name 5) se_int)
  (ss_one (ss_ret (se_cell (se_callTy oc_list (by rfl) T.b_list bt_list (sa_cons (se_name 3) sa_nil)))))
  ss_nil)
  (ss_cons (ss_if (st_cmp (co_eq hr.units) (se_name 5) se_int)
  (ss_one (ss_ret (se_op oo_add (se_slice (se_name 3) so_none (so_some se_int)) (se_rev (se_slice (se_name 3) (so_some se_int) so_none)))))
  ss_nil)
  (ss_one (ss_ret (se_ix (RoomG.u1 hr) (se_lst (sa_cons (se_tup (sa_cons se_str (sa_cons (se_name 3) sa_nil))) (sa_cons (se_tup (sa_cons (se_name 3) sa_nil)) (sa_cons (se_tup (sa_cons se_str (sa_cons (se_name 6) (sa_cons (se_name 3) sa_nil)))) (sa_cons (se_tup (sa_cons se_str (sa_cons (se_name 3) sa_nil))) (sa_cons (se_name 6) (sa_cons (se_tup (sa_cons se_str (sa_cons (se_name 6) sa_nil))) (sa_cons (se_ix (RoomG.u1 hr) (se_name 3) se_int) (sa_cons (se_tup (sa_cons se_str (sa_cons (se_name 3) (sa_cons (se_name 6) (sa_cons (se_name 6) sa_nil))))) sa_nil))))))))) (se_call D__law_take (hr.mono (Nat.le_trans (show _ ≤ 2 by decide) (Nat.le_add_right _ _))) (takes_of rfl rfl rfl rfl) (by rfl) (sa_cons (se_name 0) (sa_cons se_int sa_nil)))))))))))))
def l__law_odd_reports_1 : M W := (opM addG (slM (nameM 0) (ret none) (bnd (intM (unM negG (kI 1))) fun i => ret (some i))) (tupM (consA (nameM 2) nilA)))
def b__law_odd_reports : M Fl := (seqM (asgM 1 (lstM (consA (cellM (callM listG (consA (nameM 0) nilA))) (consA (opM addG (nameM 0) (tupM (consA (kI 0) nilA))) (consA (slM (nameM 0) (bnd (intM (kI 1)) fun i => ret (some i)) (ret none)) (consA kN (consA (kI 0) (consA (kB true) (consA (kS "0") (consA (tupM nilA) (consA (cellM (lstM nilA)) (consA dictM (consA (tupM (consA (nameM 0) nilA)) (consA (cellM (lstM (consA (nameM 0) nilA))) nilA))))))))))))))
  (retM (opM addG (nameM 1) (lcM [2] (seqI (lstM (consA (kB true) (consA kN (consA (kS "1") (consA (tupM (consA (kI 1) nilA)) (consA (lstM (consA (kI 1) nilA)) (consA dictM nilA)))))))) (tg1 2) yesM l__law_odd_reports_1))))
def m__law_odd_reports : List D → M W := fnM 3 b__law_odd_reports
theorem sc__law_odd_reports : FnScope ["report", "found", "one"] ["report"] (defScope st__law_odd_reports) := ⟨rfl, rfl, rfl, by decide +kernel, rfl, by decide +kernel, by decide +kernel⟩
theorem y__law_odd_reports (T : Txt w K mg) : BodyOk P w K mg base ["report", "found", "one"] "_law_odd_reports" st__law_odd_reports 0 b__law_odd_reports := fun f cdv A outer s H E hr =>
  (ss_cons (ss_set 1 (se_lst (sa_cons (se_cell (se_callTy oc_list (by rfl) T.b_list bt_list (sa_cons (se_name 0) sa_nil))) (sa_cons (se_op oo_add (se_name 0) (se_tup (sa_cons se_int sa_nil))) (sa_cons (se_slice (se_name 0) (so_some se_int) so_none) (sa_cons se_non (sa_cons se_int (sa_cons se_bl (sa_cons se_str (sa_cons (se_tup sa_nil) (sa_cons (se_cell (se_lst sa_nil)) (sa_cons se_dict0 (sa_cons (se_tup (sa_cons (se_name 0) sa_nil)) (sa_cons (se_cell (se_lst (sa_cons (se_name 0) sa_nil))) sa_nil))))))))))))) sc__law_odd_reports.nd)
  (ss_one (ss_ret (se_op oo_add (se_name 1) (se_lc [("one", 2)] (si_seq (se_lst (sa_cons se_bl (sa_cons se_non (sa_cons se_str (sa_cons (se_tup (sa_cons se_int sa_nil)) (sa_cons (se_lst (sa_cons se_int sa_nil)) (sa_cons se_dict0 sa_nil)))))))) (fun _ _ _ _ _ => (sg_name 2 sc__law_odd_reports.nd)) (fun _ _ _ _ _ => sts_nil) (fun _ _ _ _ _ => (se_op oo_add (se_slice (se_name 0) so_none (so_some (se_un ou_neg se_int))) (se_tup (sa_cons (se_name 2) sa_nil)))) sc__law_odd_reports.nd)))))
theorem d__law_odd_reports (T : Txt w K mg) : Def P w K mg base "_law_odd_reports" "_law_odd_reports" st__law_odd_reports 1 ["report"] m__law_odd_reports := def_ok ["report", "found", "one"] ["report"] 3 b__law_odd_reports 0 T.f__law_odd_reports sc__law_odd_reports rfl (y__law_odd_reports T)
def l__law_right_1 : M W := (opM addG (opM ixG (nameM 4) (callF 2 m__law_take (consA (nameM 0) (consA (kI 5) nilA)))) (opM ixG (lstM (consA (kI 0) (consA (kI 0) (consA (kI 0) (consA (kI 1) nilA))))) (callF 2 m__law_take (consA (nameM 0) (consA (kI 4) nilA)))))
def l__law_right_2 : M W := (callM tupleG (consA (lcM [8] (seqI (nameM 2)) (tg1 8) yesM l__law_right_1) nilA))
def l__law_right_3 : M W := (callF 4 (m__law_bent 8) (consA (nameM 0) (consA (nameM 2) (consA (nameM 4) (consA (nameM 6) nilA)))))
def l__law_right_4 : M Fl := (seqM (asgM 15 (callF 4 m__law_passed (consA (nameM 1) (consA (nameM 12) (consA (nameM 14) (consA (nameM 3) nilA))))))
  (ifM (truM (nameM 13))
  (ifM (bnd (truM (callF 2 (m__law_same 8) (consA (nameM 15) (consA (lstM (consA (kS "told") (consA (callF 3 (m__law_passes 8) (consA (nameM 2) (consA (nameM 12) (consA (nameM 14) nilA)))) nilA))) nilA)))) fun b => ret (!b))
  (retM (kB false))
  nextM)
  (ifM (orM (cmpM neG (opM ixG (nameM 15) (kI 0)) (kS "test")) (orM (cmpM isNotG (opM ixG (nameM 15) (kI 2)) (kB true)) (bnd (truM (callF 2 m__law_very (consA (opM ixG (nameM 15) (kI 1)) (consA (nameM 12) nilA)))) fun b => ret (!b))))
  (retM (kB false))
  nextM)))
def l__law_right_5 : M Fl := (seqM (asgM 13 (callF 3 (m__law_is_test 8) (consA (nameM 2) (consA (nameM 12) (consA (kI 5) nilA)))))
  (seqM (ifM (bnd (truM (callF 2 (m__law_same 8) (consA (lstM (consA (callF 3 m__law_judged (consA (nameM 1) (consA (nameM 12) (consA (nameM 3) nilA)))) (consA (callF 3 m__law_judged (consA (nameM 1) (consA (nameM 12) (consA (notV (nameM 3)) nilA)))) nilA))) (consA (lstM (consA (nameM 13) (consA (nameM 13) nilA))) nilA)))) fun b => ret (!b))
  (retM (kB false))
  nextM)
  (bnd (seqI (iteM (truM (nameM 13)) (nameM 7) (slM (nameM 7) (ret none) (bnd (intM (kI 1)) fun i => ret (some i))))) (forM (tg1 14) l__law_right_4))))
def l__law_right_6 : M Fl := (seqM (asgM 18 (callF 4 m__law_passed (consA (nameM 1) (consA (callM listG (consA (nameM 17) nilA)) (consA (nameM 14) (consA (nameM 3) nilA))))))
  (seqM (asgM 15 (callF 4 m__law_passed (consA (nameM 1) (consA (nameM 17) (consA (nameM 14) (consA (notV (nameM 3)) nilA))))))
  (ifM (orM (cmpM neG (opM ixG (nameM 18) (kI 0)) (kS "test")) (orM (cmpM neG (opM ixG (nameM 15) (kI 0)) (kS "report")) (orM (cmpM isNotG (opM ixG (nameM 15) (kI 2)) (kB true)) (bnd (truM (callF 2 m__law_very (consA (opM ixG (nameM 15) (kI 1)) (consA (nameM 14) nilA)))) fun b => ret (!b)))))
  (retM (kB false))
  nextM)))
def b__law_right : M Fl := (seqM (par2M 4 5 (callF 1 m__law_line (consA (nameM 0) nilA)) (opM ixG (lstM (consA (kI 1) (consA (kI 2) (consA (kI 3) (consA (kI 4) (consA (kI 5) (consA (kI 5) (consA (kI 6) (consA (kI 2) nilA))))))))) (callF 2 m__law_take (consA (nameM 0) (consA (kI 8) nilA)))))
  (seqM (asgM 6 (callF 4 (m__law_test 8) (consA (nameM 0) (consA (nameM 2) (consA (nameM 4) (consA (nameM 5) nilA))))))
  (seqM (asgM 7 (lcM [9] (range1I (consA (kI 5) nilA)) (tg1 9) yesM l__law_right_2))
  (seqM (asgM 10 (lstM (consA (tupM (consA (kS "is") (consA (opM ixG (nameM 2) (unM negG (kI 1))) (consA (kB true) nilA)))) (consA (tupM (consA (kS "from") (consA (opM ixG (nameM 2) (kI 0)) (consA (kB false) (consA (kI 5) nilA))))) (consA (tupM (consA (kS "from") (consA (opM ixG (nameM 2) (kI 0)) (consA (unM negG (kI 5)) (consA (kB true) nilA))))) (consA (tupM (consA (kS "not") (consA (tupM (consA (kS "is") (consA (opM ixG (nameM 2) (kI 0)) (consA (kB false) nilA)))) nilA))) nilA))))))
  (seqM (asgM 11 (opM addG (opM addG (lstM (consA (nameM 6) nilA)) (lcM [9] (range1I (consA (kI 6) nilA)) (tg1 9) yesM l__law_right_3)) (lstM (consA (opM ixG (lstM (consA kN (consA (kS "any") (consA (kI 0) (consA (kB true) (consA (cellM (lstM nilA)) (consA dictM (consA (tupM nilA) (consA (cellM (lstM (consA (kS "any") nilA))) (consA (kS "is") nilA)))))))))) (callF 2 m__law_take (consA (nameM 0) (consA (kI 9) nilA)))) nilA))))
  (seqM (exprM (muM "list" appendG (nameM 11) (consA (opM ixG (nameM 10) (callF 2 m__law_take (consA (nameM 0) (consA (kI 4) nilA)))) nilA)))
  (seqM (bnd (seqI (nameM 11)) (forM (tg1 12) l__law_right_5))
  (seqM (par2M 16 17 (slM (callF 2 m__law_mixed (consA (nameM 0) (consA (callF 1 m__law_odd_reports (consA (opM ixG (nameM 7) (kI 0)) nilA)) nilA))) (ret none) (bnd (intM (kI 3)) fun i => ret (some i))) (callF 4 (m__law_test 8) (consA (nameM 0) (consA (nameM 2) (consA (nameM 4) (consA (kI 2) nilA))))))
  (seqM (bnd (seqI (nameM 16)) (forM (tg1 14) l__law_right_6))
  (retM (kB true)))))))))))
def m__law_right : List D → M W := fnM 19 b__law_right
theorem sc__law_right : FnScope ["box", "fields", "names", "named", "line", "deep", "test", "reports", "name", "k", "truths", "values", "value", "right", "report", "told", "odd", "good", "bad"] ["box", "fields", "names", "named"] (defScope st__law_right) := ⟨rfl, rfl, rfl, by decide +kernel, rfl, by decide +kernel, by decide +kernel⟩
theorem y__law_right (T : Txt w K mg) (D__law_line : Def P w K mg base "_law_line" "_law_line" st__law_line 2 ["box"] m__law_line) (D__law_take : Def P w K mg base "_law_take" "_law_take" st__law_take 1 ["box", "many"] m__law_take) (D__law_test : ∀ n, Def P w K mg base "_law_test" "_law_test" st__law_test (2 + n) ["box", "names", "line", "deep"] (m__law_test n)) (D__law_bent : ∀ n, Def P w K mg base "_law_bent" "_law_bent" st__law_bent (2 + n) ["box", "names", "line", "value"] (m__law_bent n)) (D__law_is_test : ∀ n, Def P w K mg base "_law_is_test" "_law_is_test" st__law_is_test (1 + n) ["names", "value", "deep"] (m__law_is_test n)) (D__law_same : ∀ n, Def P w K mg base "_law_same" "_law_same" st__law_same (0 + n) ["told", "due"] (m__law_same n)) (D__law_judged : Def P w K mg base "_law_judged" "_law_judged" st__law_judged 13 ["fields", "value", "named"] m__law_judged) (D__law_passed : Def P w K mg base "_law_passed" "_law_passed" st__law_passed 15 ["fields", "test", "report", "named"] m__law_passed) (D__law_passes : ∀ n, Def P w K mg base "_law_passes" "_law_passes" st__law_passes (0 + n) ["names", "test", "report"] (m__law_passes n)) (D__law_very : Def P w K mg base "_law_very" "_law_very" st__law_very 1 ["given", "value"] m__law_very) (D__law_mixed : Def P w K mg base "_law_mixed" "_law_mixed" st__law_mixed 2 ["box", "items"] m__law_mixed) (D__law_odd_reports : Def P w K mg base "_law_odd_reports" "_law_odd_reports" st__law_odd_reports 1 ["report"] m__law_odd_reports) : BodyOk P w K mg base ["box", "fields", "names", "named", "line", "deep", "test", "reports", "name", "k", "truths", "values", "value", "right", "report", "told", "odd", "good", "bad"] "_law_right" st__law_right 15 b__law_right := fun f cdv A outer s H E hr =>
  (ss_cons (ss_parC 4 5 (se_call D__law_line (hr.mono (by decide)) (takes_of rfl rfl rfl rfl) (by rfl) (sa_cons (se_name 0) sa_nil)) (se_ix (RoomG.u1 hr) (se_lst (sa_cons se_int (sa_cons se_int (sa_cons se_int (sa_cons se_int (sa_cons se_int (sa_cons se_int (sa_cons se_int (sa_cons se_int sa_nil))))))))) (se_call D__law_take (hr.mono (by decide)) (takes_of rfl rfl rfl rfl) (by rfl) (sa_cons (se_name 0) (sa_cons se_int sa_nil)))) sc__law_right.nd)
  (ss_cons (ss_set 6 (se_call (D__law_test 8) (hr.mono (by decide)) (takes_of rfl rfl rfl rfl) (by rfl) (sa_cons (se_name 0) (sa_cons (se_name 2) (sa_cons (se_name 4) (sa_cons (se_name 5) sa_nil))))) sc__law_right.nd)
  (ss_cons (ss_setLc 7 [("k", 9)] (si_range1 (by rfl) T.b_range (sa_cons se_int sa_nil)) (fun _ _ _ _ _ => (sg_name 9 sc__law_right.nd)) (fun _ _ _ _ _ => sts_nil) (fun _ _ _ _ _ => (se_callTy oc_tuple (by rfl) T.b_tuple bt_tuple (sa_cons (se_lc [("name", 8)] (si_seq (se_name 2)) (fun _ _ _ _ _ => (sg_name 8 sc__law_right.nd)) (fun _ _ _ _ _ => sts_nil) (fun _ _ _ _ _ => (se_op oo_add (se_ix (RoomG.u1 hr) (se_name 4) (se_call D__law_take (hr.mono (by decide)) takes0 (by rfl) (sa_cons (se_name 0) (sa_cons se_int sa_nil)))) (se_ix (RoomG.u1 hr) (se_lst (sa_cons se_int (sa_cons se_int (sa_cons se_int (sa_cons se_int sa_nil))))) (se_call D__law_take (hr.mono (by decide)) takes0 (by rfl) (sa_cons (se_name 0) (sa_cons se_int sa_nil)))))) sc__law_right.nd) sa_nil))) sc__law_right.nd (sw_true rfl rfl rfl rfl))
  (ss_cons (ss_set 10 (se_lst (sa_cons (se_tup (sa_cons se_str (sa_cons (se_ix (RoomG.u1 hr) (se_name 2) (se_un ou_neg se_int)) (sa_cons se_bl sa_nil)))) (sa_cons (se_tup (sa_cons se_str (sa_cons (se_ix (RoomG.u1 hr) (se_name 2) se_int) (sa_cons se_bl (sa_cons se_int sa_nil))))) (sa_cons (se_tup (sa_cons se_str (sa_cons (se_ix (RoomG.u1 hr) (se_name 2) se_int) (sa_cons (se_un ou_neg se_int) (sa_cons se_bl sa_nil))))) (sa_cons (se_tup (sa_cons se_str (sa_cons (se_tup (sa_cons se_str (sa_cons (se_ix (RoomG.u1 hr) (se_name 2) se_int) (sa_cons se_bl sa_nil)))) sa_nil))) sa_nil))))) sc__law_right.nd)
  (ss_cons (ss_set 11 (se_op oo_add (se_op oo_add (se_lst (sa_cons (se_name 6) sa_nil)) (se_lc [("k", 9)] (si_range1 (by rfl) T.b_range (sa_cons se_int sa_nil)) (fun _ _ _ _ _ => (sg_name 9 sc__law_right.nd)) (fun _ _ _ _ _ => sts_nil) (fun _ _ _ _ _ => (se_call (D__law_bent 8) (hr.mono (by decide)) takes0 (by rfl) (sa_cons (se_name 0) (sa_cons (se_name 2) (sa_cons (se_name 4) (sa_cons (se_name 6) sa_nil)))))) sc__law_right.nd)) (se_lst (sa_cons (se_ix (RoomG.u1 hr) (se_lst (sa_cons se_non (sa_cons se_str (sa_cons se_int (sa_cons se_bl (sa_cons (se_cell (se_lst sa_nil)) (sa_cons se_dict0 (sa_cons (se_tup sa_nil) (sa_cons (se_cell (se_lst (sa_cons se_str sa_nil))) (sa_cons se_str sa_nil)))))))))) (se_call D__law_take (hr.mono (by decide)) (takes_of rfl rfl rfl rfl) (by rfl) (sa_cons (se_name 0) (sa_cons se_int sa_nil)))) sa_nil))) sc__law_right.nd)
  (ss_cons (ss_expr (se_mu PySem.F.plainAttrs_list PySem.F.slot_list_append PySem.F.type_list_append mo_append (se_name 11) (sa_cons (se_ix (RoomG.u1 hr) (se_name 10) (se_call D__law_take (hr.mono (by decide)) (takes_of rfl rfl rfl rfl) (by rfl) (sa_cons (se_name 0) (sa_cons se_int sa_nil)))) sa_nil)))
  (ss_cons (ss_for (si_seq (se_name 11)) (sg_name 12 sc__law_right.nd)
  (ss_cons (ss_set 13 (se_call (D__law_is_test 8) (hr.mono (by decide)) (takes_of rfl rfl rfl rfl) (by rfl) (sa_cons (se_name 2) (sa_cons (se_name 12) (sa_cons se_int sa_nil)))) sc__law_right.nd)
  (ss_cons (ss_if (st_not (st_truth (se_call (D__law_same 8) (hr.mono (by decide)) (takes_of rfl rfl rfl rfl) (by rfl) (sa_cons (se_lst (sa_cons (se_call D__law_judged (hr.mono (by decide)) (takes_of rfl rfl rfl rfl) (by rfl) (sa_cons (se_name 1) (sa_cons (se_name 12) (sa_cons (se_name 3) sa_nil)))) (sa_cons (se_call D__law_judged (hr.mono (by decide)) (takes_of rfl rfl rfl rfl) (by rfl) (sa_cons (se_name 1) (sa_cons (se_name 12) (sa_cons (se_not (se_name 3)) sa_nil)))) sa_nil))) (sa_cons (se_lst (sa_cons (se_name 13) (sa_cons (se_name 13) sa_nil))) sa_nil)))))
  (ss_one (ss_ret se_bl))
  ss_nil)
  (ss_one (ss_for (si_seq (se_if (st_truth (se_name 13)) (se_name 7) (se_slice (se_name 7) so_none (so_some se_int)))) (sg_name 14 sc__law_right.nd)
  (ss_cons (ss_set 15 (se_call D__law_passed (hr.mono (by decide)) (takes_of rfl rfl rfl rfl) (by rfl) (sa_cons (se_name 1) (sa_cons (se_name 12) (sa_cons (se_name 14) (sa_cons (se_name 3) sa_nil))))) sc__law_right.nd)
  (ss_one (ss_if (st_truth (se_name 13))
  (ss_one (ss_if (st_not (st_truth (se_call (D__law_same 8) (hr.mono (by decide)) (takes_of rfl rfl rfl rfl) (by rfl) (sa_cons (se_name 15) (sa_cons (se_lst (sa_cons se_str (sa_cons (se_call (D__law_passes 8) (hr.mono (by decide)) (takes_of rfl rfl rfl rfl) (by rfl) (sa_cons (se_name 2) (sa_cons (se_name 12) (sa_cons (se_name 14) sa_nil)))) sa_nil))) sa_nil)))))
  (ss_one (ss_ret se_bl))
  ss_nil))
  (ss_one (ss_if (SWT.st (sw_or (st_cmp (co_ne hr.units) (se_ix (RoomG.u1 hr) (se_name 15) se_int) se_str) (sw_or (st_cmp co_isNot (se_ix (RoomG.u1 hr) (se_name 15) se_int) se_bl) (sw_or1 (st_not (st_truth (se_call D__law_very (hr.mono (by decide)) (takes_of rfl rfl rfl rfl) (by rfl) (sa_cons (se_ix (RoomG.u1 hr) (se_name 15) se_int) (sa_cons (se_name 12) sa_nil)))))))))
  (ss_one (ss_ret se_bl))
  ss_nil))))) (passes_of rfl))))) (passes_of rfl))
  (ss_cons (ss_par2 16 17 (se_slice (se_call D__law_mixed (hr.mono (by decide)) (takes_of rfl rfl rfl rfl) (by rfl) (sa_cons (se_name 0) (sa_cons (se_call D__law_odd_reports (hr.mono (by decide)) (takes_of rfl rfl rfl rfl) (by rfl) (sa_cons (se_ix (RoomG.u1 hr) (se_name 7) se_int) sa_nil)) sa_nil))) so_none (so_some se_int)) (se_call (D__law_test 8) (hr.mono (by decide)) (takes_of rfl rfl rfl rfl) (by rfl) (sa_cons (se_name 0) (sa_cons (se_name 2) (sa_cons (se_name 4) (sa_cons se_int sa_nil))))) sc__law_right.nd)
  (ss_cons (ss_for (si_seq (se_name 16)) (sg_name 14 sc__law_right.nd)
  (ss_cons (ss_set 18 (se_call D__law_passed (hr.mono (by decide)) (takes_of rfl rfl rfl rfl) (by rfl) (sa_cons (se_name 1) (sa_cons (se_callTy oc_list (by rfl) T.b_list bt_list (sa_cons (se_name 17) sa_nil)) (sa_cons (se_name 14) (sa_cons (se_name 3) sa_nil))))) sc__law_right.nd)
  (ss_cons (ss_set 15 (se_call D__law_passed (hr.mono (by decide)) (takes_of rfl rfl rfl rfl) (by rfl) (sa_cons (se_name 1) (sa_cons (se_name 17) (sa_cons (se_name 14) (sa_cons (se_not (se_name 3)) sa_nil))))) sc__law_right.nd)
  (ss_one (ss_if (SWT.st (sw_or (st_cmp (co_ne hr.units) (se_ix (RoomG.u1 hr) (se_name 18) se_int) se_str) (sw_or (st_cmp (co_ne hr.units) (se_ix (RoomG.u1 hr) (se_name 15) se_int) se_str) (sw_or (st_cmp co_isNot (se_ix (RoomG.u1 hr) (se_name 15) se_int) se_bl) (sw_or1 (st_not (st_truth (se_call D__law_very (hr.mono (by decide)) (takes_of rfl rfl rfl rfl) (by rfl) (sa_cons (se_ix (RoomG.u1 hr) (se_name 15) se_int) (sa_cons (se_name 14) sa_nil))))))))))
  (ss_one (ss_ret se_bl))
  ss_nil)))) (passes_of rfl))
  (ss_one (ss_ret se_bl)))))))))))
theorem d__law_right (T : Txt w K mg) (D__law_line : Def P w K mg base "_law_line" "_law_line" st__law_line 2 ["box"] m__law_line) (D__law_take : Def P w K mg base "_law_take" "_law_take" st__law_take 1 ["box", "many"] m__law_take) (D__law_test : ∀ n, Def P w K mg base "_law_test" "_law_test" st__law_test (2 + n) ["box", "names", "line", "deep"] (m__law_test n)) (D__law_bent : ∀ n, Def P w K mg base "_law_bent" "_law_bent" st__law_bent (2 + n) ["box", "names", "line", "value"] (m__law_bent n)) (D__law_is_test : ∀ n, Def P w K mg base "_law_is_test" "_law_is_test" st__law_is_test (1 + n) ["names", "value", "deep"] (m__law_is_test n)) (D__law_same : ∀ n, Def P w K mg base "_law_same" "_law_same" st__law_same (0 + n) ["told", "due"] (m__law_same n)) (D__law_judged : Def P w K mg base "_law_judged" "_law_judged" st__law_judged 13 ["fields", "value", "named"] m__law_judged) (D__law_passed : Def P w K mg base "_law_passed" "_law_passed" st__law_passed 15 ["fields", "test", "report", "named"] m__law_passed) (D__law_passes : ∀ n, Def P w K mg base "_law_passes" "_law_passes" st__law_passes (0 + n) ["names", "test", "report"] (m__law_passes n)) (D__law_very : Def P w K mg base "_law_very" "_law_very" st__law_very 1 ["given", "value"] m__law_very) (D__law_mixed : Def P w K mg base "_law_mixed" "_law_mixed" st__law_mixed 2 ["box", "items"] m__law_mixed) (D__law_odd_reports : Def P w K mg base "_law_odd_reports" "_law_odd_reports" st__law_odd_reports 1 ["report"] m__law_odd_reports) : Def P w K mg base "_law_right" "_law_right" st__law_right 16 ["box", "fields", "names", "named"] m__law_right := def_ok ["box", "fields", "names", "named", "line", "deep", "test", "reports", "name", "k", "truths", "values", "value", "right", "report", "told", "odd", "good", "bad"] ["box", "fields", "names", "named"] 19 b__law_right 15 T.f__law_right sc__law_right rfl (y__law_right T D__law_line D__law_take D__law_test D__law_bent D__law_is_test D__law_same D__law_judged D__law_passed D__law_passes D__law_very D__law_mixed D__law_odd_reports)
def l_law_1 : M Fl := (seqM (asgM 5 (callF 2 m__law_names (consA (nameM 2) (consA (opM addG (kI 1) (callF 2 m__law_take (consA (nameM 2) (consA (kI 3) nilA)))) nilA))))
  (exprM (muM "list" appendG (nameM 3) (consA (lstM (consA (makeM "Fields" 2 m_Fields_init (consA (nameM 5) nilA)) (consA (nameM 5) nilA))) nilA))))
def l_law_2 : M Fl := (seqM (unpM (opM ixG (nameM 3) (opM modG (callM intG (consA (nameM 6) nilA)) (kI 2))) (tgN [(tg1 7), (tg1 5)]))
  (ifM (bnd (truM (callF 4 m__law_right (consA (nameM 2) (consA (nameM 7) (consA (callM listG (consA (nameM 5) nilA)) (consA (cmpV eqG (callF 2 m__law_take (consA (nameM 2) (consA (kI 2) nilA))) (kI 0)) nilA)))))) fun b => ret (!b))
  (retM (kB false))
  nextM))
def l_law_3 : M Fl := (seqM (par2M 2 3 (cellM (callF 1 m__law_box (consA (callF 2 m__law_cell (consA (nameM 0) (consA (nameM 1) nilA))) nilA))) (lstM nilA))
  (seqM (bnd (range1I (consA (kI 2) nilA)) (forM (tg1 4) l_law_1))
  (bnd (range1I (consA (kI 4) nilA)) (forM (tg1 6) l_law_2))))
def b_law : M Fl := (seqM (bnd (range1I (consA (callM maxG (consA (kI 2) (consA (callM minG (consA (kI 4) (consA (callM lenG (consA (nameM 0) nilA)) nilA))) nilA))) nilA)) (forM (tg1 1) l_law_3))
  (retM (kB true)))
def m_law : List D → M W := fnM 8 b_law
theorem sc_law : FnScope ["script", "k", "box", "pairs", "j", "names", "turn", "fields"] ["script"] (defScope st_law) := ⟨rfl, rfl, rfl, by decide +kernel, rfl, by decide +kernel, by decide +kernel⟩
theorem y_law (T : Txt w K mg) (D__law_box : Def P w K mg base "_law_box" "_law_box" st__law_box 1 ["great"] m__law_box) (D__law_cell : Def P w K mg base "_law_cell" "_law_cell" st__law_cell 1 ["script", "k"] m__law_cell) (D__law_names : Def P w K mg base "_law_names" "_law_names" st__law_names 2 ["box", "many"] m__law_names) (D__law_take : Def P w K mg base "_law_take" "_law_take" st__law_take 1 ["box", "many"] m__law_take) (K_Fields : KDef P w K mg base "Fields" 4 ["self", "names"] m_Fields_init) (D__law_right : Def P w K mg base "_law_right" "_law_right" st__law_right 16 ["box", "fields", "names", "named"] m__law_right) : BodyOk P w K mg base ["script", "k", "box", "pairs", "j", "names", "turn", "fields"] "law" st_law 16 b_law := fun f cdv A outer s H E hr =>
  (ss_cons (ss_for (si_range1 (by rfl) T.b_range (sa_cons (se_callB (oc_max rfl) (by rfl) T.b_max bt_max (sa_cons se_int (sa_cons (se_callB (oc_min rfl) (by rfl) T.b_min bt_min (sa_cons se_int (sa_cons (se_callB oc_len (by rfl) T.b_len bt_len (sa_cons (se_name 0) sa_nil)) sa_nil))) sa_nil))) sa_nil)) (sg_name 1 sc_law.nd)
  (ss_cons (ss_par2 2 3 (se_cell (se_call D__law_box (hr.mono (by decide)) (takes_of rfl rfl rfl rfl) (by rfl) (sa_cons (se_call D__law_cell (hr.mono (by decide)) (takes_of rfl rfl rfl rfl) (by rfl) (sa_cons (se_name 0) (sa_cons (se_name 1) sa_nil))) sa_nil))) (se_lst sa_nil) sc_law.nd)
  (ss_cons (ss_for (si_range1 (by rfl) T.b_range (sa_cons se_int sa_nil)) (sg_name 4 sc_law.nd)
  (ss_cons (ss_set 5 (se_call D__law_names (hr.mono (by decide)) (takes_of rfl rfl rfl rfl) (by rfl) (sa_cons (se_name 2) (sa_cons (se_op oo_add se_int (se_call D__law_take (hr.mono (by decide)) (takes_of rfl rfl rfl rfl) (by rfl) (sa_cons (se_name 2) (sa_cons se_int sa_nil)))) sa_nil))) sc_law.nd)
  (ss_one (ss_expr (se_mu PySem.F.plainAttrs_list PySem.F.slot_list_append PySem.F.type_list_append mo_append (se_name 3) (sa_cons (se_lst (sa_cons (se_make K_Fields (hr.mono (by decide)) (takes_of rfl rfl rfl rfl) (by rfl) (sa_cons (se_name 5) sa_nil)) (sa_cons (se_name 5) sa_nil))) sa_nil))))) (passes_of rfl))
  (ss_one (ss_for (si_range1 (by rfl) T.b_range (sa_cons se_int sa_nil)) (sg_name 6 sc_law.nd)
  (ss_cons (ss_unp (se_ix (RoomG.u1 hr) (se_name 3) (se_op oo_mod (se_callTy oc_int (by rfl) T.b_int bt_int (sa_cons (se_name 6) sa_nil)) se_int)) (sg_tup (sgs_cons (sg_name 7 sc_law.nd) (sgs_cons (sg_name 5 sc_law.nd) sgs_nil))))
  (ss_one (ss_if (st_not (st_truth (se_call D__law_right (hr.mono (by decide)) (takes_of rfl rfl rfl rfl) (by rfl) (sa_cons (se_name 2) (sa_cons (se_name 7) (sa_cons (se_callTy oc_list (by rfl) T.b_list bt_list (sa_cons (se_name 5) sa_nil)) (sa_cons (se_cmp (co_eq hr.units) (se_call D__law_take (hr.mono (by decide)) (takes_of rfl rfl rfl rfl) (by rfl) (sa_cons (se_name 2) (sa_cons se_int sa_nil))) se_int) sa_nil)))))))
  (ss_one (ss_ret se_bl))
  ss_nil))) (passes_of rfl))))) (passes_of rfl))
  (ss_one (ss_ret se_bl)))
theorem d_law (T : Txt w K mg) (D__law_box : Def P w K mg base "_law_box" "_law_box" st__law_box 1 ["great"] m__law_box) (D__law_cell : Def P w K mg base "_law_cell" "_law_cell" st__law_cell 1 ["script", "k"] m__law_cell) (D__law_names : Def P w K mg base "_law_names" "_law_names" st__law_names 2 ["box", "many"] m__law_names) (D__law_take : Def P w K mg base "_law_take" "_law_take" st__law_take 1 ["box", "many"] m__law_take) (K_Fields : KDef P w K mg base "Fields" 4 ["self", "names"] m_Fields_init) (D__law_right : Def P w K mg base "_law_right" "_law_right" st__law_right 16 ["box", "fields", "names", "named"] m__law_right) : Def P w K mg base "law" "law" st_law 17 ["script"] m_law := def_ok ["script", "k", "box", "pairs", "j", "names", "turn", "fields"] ["script"] 8 b_law 16 T.f_law sc_law rfl (y_law T D__law_box D__law_cell D__law_names D__law_take K_Fields D__law_right)
theorem d_all (T : Txt w K mg) : Def P w K mg base "law" "law" st_law 17 ["script"] m_law := by
  have E_InvalidReport : ErrF P w K mg base "InvalidReport" := err_InvalidReport T
  have E_InvalidTest : ErrF P w K mg base "InvalidTest" := err_InvalidTest T
  have D_is_whole : Def P w K mg base "is_whole" "is_whole" st_is_whole 1 ["value"] m_is_whole := d_is_whole T
  have D_is_listed : Def P w K mg base "is_listed" "is_listed" st_is_listed 1 ["value"] m_is_listed := d_is_listed T
  have D_is_tuple_of : Def P w K mg base "is_tuple_of" "is_tuple_of" st_is_tuple_of 1 ["value", "many"] m_is_tuple_of := d_is_tuple_of T
  have D_are_whole : Def P w K mg base "are_whole" "are_whole" st_are_whole 2 ["value"] m_are_whole := d_are_whole T D_is_listed D_is_whole
  have D_is_word : Def P w K mg base "is_word" "is_word" st_is_word 1 ["value"] m_is_word := d_is_word T
  have D_is_name : Def P w K mg base "is_name" "is_name" st_is_name 2 ["value"] m_is_name := d_is_name T D_is_word
  have D_are_unlike : Def P w K mg base "are_unlike" "are_unlike" st_are_unlike 1 ["items"] m_are_unlike := d_are_unlike T
  have D_are_unlike_names : Def P w K mg base "are_unlike_names" "are_unlike_names" st_are_unlike_names 3 ["value", "least", "most"] m_are_unlike_names := d_are_unlike_names T D_is_listed D_is_name D_are_unlike
  have K_Fields : KDef P w K mg base "Fields" 4 ["self", "names"] m_Fields_init := d_Fields_init T D_are_unlike_names
  have M_Fields_is_report : MDef P w K mg base "Fields" "is_report" 2 ["self", "value"] m_Fields_is_report := d_Fields_is_report T D_is_tuple_of D_is_whole
  have D_is_field : Def P w K mg base "is_field" "is_field" st_is_field 1 ["fields", "value"] m_is_field := d_is_field T
  have D_check_report : Def P w K mg base "check_report" "check_report" st_check_report 3 ["fields", "report"] m_check_report := d_check_report T M_Fields_is_report E_InvalidReport
  have D_is_plain : Def P w K mg base "is_plain" "is_plain" st_is_plain 3 ["fields", "word", "parts"] m_is_plain := d_is_plain T D_is_field D_are_whole
  have D_is_test_of : ∀ n, Def P w K mg base "is_test_of" "is_test_of" st_is_test_of (3 + n) ["fields", "value", "depth"] (m_is_test_of n) := d_is_test_of T D_is_plain
  have D_is_test : Def P w K mg base "is_test" "is_test" st_is_test 12 ["fields", "value"] m_is_test := d_is_test T D_is_test_of
  have DK_is_test__value_fields : DefK P w K mg base "is_test" 12 ["fields", "value"] ["value", "fields"] [1, 0] m_is_test := dk_is_test__value_fields T D_is_test_of
  have D_check_test : Def P w K mg base "check_test" "check_test" st_check_test 13 ["fields", "test"] m_check_test := d_check_test T D_is_test E_InvalidTest
  have D_value_at : Def P w K mg base "value_at" "value_at" st_value_at 1 ["fields", "name", "report"] m_value_at := d_value_at T
  have D_does_pass : ∀ n, Def P w K mg base "does_pass" "does_pass" st_does_pass (1 + n) ["fields", "test", "report"] (m_does_pass n) := d_does_pass T D_value_at
  have D_passes : Def P w K mg base "passes" "passes" st_passes 14 ["fields", "test", "report"] m_passes := d_passes T D_check_test D_check_report D_does_pass
  have DK_passes__report_test_fields : DefK P w K mg base "passes" 14 ["fields", "test", "report"] ["report", "test", "fields"] [2, 1, 0] m_passes := dk_passes__report_test_fields T D_check_test D_check_report D_does_pass
  have D__law_cell : Def P w K mg base "_law_cell" "_law_cell" st__law_cell 1 ["script", "k"] m__law_cell := d__law_cell T
  have D__law_box : Def P w K mg base "_law_box" "_law_box" st__law_box 1 ["great"] m__law_box := d__law_box T
  have D__law_take : Def P w K mg base "_law_take" "_law_take" st__law_take 1 ["box", "many"] m__law_take := d__law_take T
  have D__law_mixed : Def P w K mg base "_law_mixed" "_law_mixed" st__law_mixed 2 ["box", "items"] m__law_mixed := d__law_mixed T D__law_take
  have D__law_names : Def P w K mg base "_law_names" "_law_names" st__law_names 2 ["box", "many"] m__law_names := d__law_names T D__law_take
  have D__law_same : ∀ n, Def P w K mg base "_law_same" "_law_same" st__law_same (0 + n) ["told", "due"] (m__law_same n) := d__law_same T
  have D__law_very : Def P w K mg base "_law_very" "_law_very" st__law_very 1 ["given", "value"] m__law_very := d__law_very T
  have D__law_line : Def P w K mg base "_law_line" "_law_line" st__law_line 2 ["box"] m__law_line := d__law_line T D__law_take
  have D__law_leaf : Def P w K mg base "_law_leaf" "_law_leaf" st__law_leaf 2 ["box", "names", "line"] m__law_leaf := d__law_leaf T D__law_take
  have D__law_test : ∀ n, Def P w K mg base "_law_test" "_law_test" st__law_test (2 + n) ["box", "names", "line", "deep"] (m__law_test n) := d__law_test T D__law_leaf D__law_take
  have D__law_is_int : Def P w K mg base "_law_is_int" "_law_is_int" st__law_is_int 1 ["value"] m__law_is_int := d__law_is_int T
  have D__law_is_test : ∀ n, Def P w K mg base "_law_is_test" "_law_is_test" st__law_is_test (1 + n) ["names", "value", "deep"] (m__law_is_test n) := d__law_is_test T D__law_is_int
  have D__law_passes : ∀ n, Def P w K mg base "_law_passes" "_law_passes" st__law_passes (0 + n) ["names", "test", "report"] (m__law_passes n) := d__law_passes T
  have D__law_judged : Def P w K mg base "_law_judged" "_law_judged" st__law_judged 13 ["fields", "value", "named"] m__law_judged := d__law_judged T DK_is_test__value_fields D_is_test
  have D__law_passed : Def P w K mg base "_law_passed" "_law_passed" st__law_passed 15 ["fields", "test", "report", "named"] m__law_passed := d__law_passed T DK_passes__report_test_fields D_passes
  have D__law_bent : ∀ n, Def P w K mg base "_law_bent" "_law_bent" st__law_bent (2 + n) ["box", "names", "line", "value"] (m__law_bent n) := d__law_bent T D__law_take D__law_leaf
  have D__law_odd_reports : Def P w K mg base "_law_odd_reports" "_law_odd_reports" st__law_odd_reports 1 ["report"] m__law_odd_reports := d__law_odd_reports T
  have D__law_right : Def P w K mg base "_law_right" "_law_right" st__law_right 16 ["box", "fields", "names", "named"] m__law_right := d__law_right T D__law_line D__law_take D__law_test D__law_bent D__law_is_test D__law_same D__law_judged D__law_passed D__law_passes D__law_very D__law_mixed D__law_odd_reports
  have D_law : Def P w K mg base "law" "law" st_law 17 ["script"] m_law := d_law T D__law_box D__law_cell D__law_names D__law_take K_Fields D__law_right
  exact D_law
end
theorem bi_is_whole : BindOk "is_whole" "is_whole" st_is_whole ["value"] := fun _ _ _ _ _ _ us hl => match us, hl with | [_], _ => rfl
theorem bi_is_listed : BindOk "is_listed" "is_listed" st_is_listed ["value"] := fun _ _ _ _ _ _ us hl => match us, hl with | [_], _ => rfl
theorem bi_is_tuple_of : BindOk "is_tuple_of" "is_tuple_of" st_is_tuple_of ["value", "many"] := fun _ _ _ _ _ _ us hl => match us, hl with | [_, _], _ => rfl
theorem bi_are_whole : BindOk "are_whole" "are_whole" st_are_whole ["value"] := fun _ _ _ _ _ _ us hl => match us, hl with | [_], _ => rfl
theorem bi_is_word : BindOk "is_word" "is_word" st_is_word ["value"] := fun _ _ _ _ _ _ us hl => match us, hl with | [_], _ => rfl
theorem bi_is_name : BindOk "is_name" "is_name" st_is_name ["value"] := fun _ _ _ _ _ _ us hl => match us, hl with | [_], _ => rfl
theorem bi_are_unlike : BindOk "are_unlike" "are_unlike" st_are_unlike ["items"] := fun _ _ _ _ _ _ us hl => match us, hl with | [_], _ => rfl
theorem bi_are_unlike_names : BindOk "are_unlike_names" "are_unlike_names" st_are_unlike_names ["value", "least", "most"] := fun _ _ _ _ _ _ us hl => match us, hl with | [_, _, _], _ => rfl
theorem bi_Fields_init : BindOk "__init__" "Fields.__init__" st_Fields_init ["self", "names"] := fun _ _ _ _ _ _ us hl => match us, hl with | [_, _], _ => rfl
theorem bi_Fields_is_report : BindOk "is_report" "Fields.is_report" st_Fields_is_report ["self", "value"] := fun _ _ _ _ _ _ us hl => match us, hl with | [_, _], _ => rfl
theorem bi_is_field : BindOk "is_field" "is_field" st_is_field ["fields", "value"] := fun _ _ _ _ _ _ us hl => match us, hl with | [_, _], _ => rfl
theorem bi_check_report : BindOk "check_report" "check_report" st_check_report ["fields", "report"] := fun _ _ _ _ _ _ us hl => match us, hl with | [_, _], _ => rfl
theorem bi_is_plain : BindOk "is_plain" "is_plain" st_is_plain ["fields", "word", "parts"] := fun _ _ _ _ _ _ us hl => match us, hl with | [_, _, _], _ => rfl
theorem bi_is_test_of : BindOk "is_test_of" "is_test_of" st_is_test_of ["fields", "value", "depth"] := fun _ _ _ _ _ _ us hl => match us, hl with | [_, _, _], _ => rfl
theorem bi_is_test : BindOk "is_test" "is_test" st_is_test ["fields", "value"] := fun _ _ _ _ _ _ us hl => match us, hl with | [_, _], _ => rfl
theorem bi_check_test : BindOk "check_test" "check_test" st_check_test ["fields", "test"] := fun _ _ _ _ _ _ us hl => match us, hl with | [_, _], _ => rfl
theorem bi_value_at : BindOk "value_at" "value_at" st_value_at ["fields", "name", "report"] := fun _ _ _ _ _ _ us hl => match us, hl with | [_, _, _], _ => rfl
theorem bi_does_pass : BindOk "does_pass" "does_pass" st_does_pass ["fields", "test", "report"] := fun _ _ _ _ _ _ us hl => match us, hl with | [_, _, _], _ => rfl
theorem bi_passes : BindOk "passes" "passes" st_passes ["fields", "test", "report"] := fun _ _ _ _ _ _ us hl => match us, hl with | [_, _, _], _ => rfl
theorem bi__law_cell : BindOk "_law_cell" "_law_cell" st__law_cell ["script", "k"] := fun _ _ _ _ _ _ us hl => match us, hl with | [_, _], _ => rfl
theorem bi__law_box : BindOk "_law_box" "_law_box" st__law_box ["great"] := fun _ _ _ _ _ _ us hl => match us, hl with | [_], _ => rfl
theorem bi__law_take : BindOk "_law_take" "_law_take" st__law_take ["box", "many"] := fun _ _ _ _ _ _ us hl => match us, hl with | [_, _], _ => rfl
theorem bi__law_mixed : BindOk "_law_mixed" "_law_mixed" st__law_mixed ["box", "items"] := fun _ _ _ _ _ _ us hl => match us, hl with | [_, _], _ => rfl
theorem bi__law_names : BindOk "_law_names" "_law_names" st__law_names ["box", "many"] := fun _ _ _ _ _ _ us hl => match us, hl with | [_, _], _ => rfl
theorem bi__law_same : BindOk "_law_same" "_law_same" st__law_same ["told", "due"] := fun _ _ _ _ _ _ us hl => match us, hl with | [_, _], _ => rfl
theorem bi__law_very : BindOk "_law_very" "_law_very" st__law_very ["given", "value"] := fun _ _ _ _ _ _ us hl => match us, hl with | [_, _], _ => rfl
theorem bi__law_line : BindOk "_law_line" "_law_line" st__law_line ["box"] := fun _ _ _ _ _ _ us hl => match us, hl with | [_], _ => rfl
theorem bi__law_leaf : BindOk "_law_leaf" "_law_leaf" st__law_leaf ["box", "names", "line"] := fun _ _ _ _ _ _ us hl => match us, hl with | [_, _, _], _ => rfl
theorem bi__law_test : BindOk "_law_test" "_law_test" st__law_test ["box", "names", "line", "deep"] := fun _ _ _ _ _ _ us hl => match us, hl with | [_, _, _, _], _ => rfl
theorem bi__law_is_int : BindOk "_law_is_int" "_law_is_int" st__law_is_int ["value"] := fun _ _ _ _ _ _ us hl => match us, hl with | [_], _ => rfl
theorem bi__law_is_test : BindOk "_law_is_test" "_law_is_test" st__law_is_test ["names", "value", "deep"] := fun _ _ _ _ _ _ us hl => match us, hl with | [_, _, _], _ => rfl
theorem bi__law_passes : BindOk "_law_passes" "_law_passes" st__law_passes ["names", "test", "report"] := fun _ _ _ _ _ _ us hl => match us, hl with | [_, _, _], _ => rfl
theorem bi__law_judged : BindOk "_law_judged" "_law_judged" st__law_judged ["fields", "value", "named"] := fun _ _ _ _ _ _ us hl => match us, hl with | [_, _, _], _ => rfl
theorem bi__law_passed : BindOk "_law_passed" "_law_passed" st__law_passed ["fields", "test", "report", "named"] := fun _ _ _ _ _ _ us hl => match us, hl with | [_, _, _, _], _ => rfl
theorem bi__law_bent : BindOk "_law_bent" "_law_bent" st__law_bent ["box", "names", "line", "value"] := fun _ _ _ _ _ _ us hl => match us, hl with | [_, _, _, _], _ => rfl
theorem bi__law_odd_reports : BindOk "_law_odd_reports" "_law_odd_reports" st__law_odd_reports ["report"] := fun _ _ _ _ _ _ us hl => match us, hl with | [_], _ => rfl
theorem bi__law_right : BindOk "_law_right" "_law_right" st__law_right ["box", "fields", "names", "named"] := fun _ _ _ _ _ _ us hl => match us, hl with | [_, _, _, _], _ => rfl
theorem bi_law : BindOk "law" "law" st_law ["script"] := fun _ _ _ _ _ _ us hl => match us, hl with | [_], _ => rfl
theorem bk_is_test__value_fields : BindKOk "is_test" "is_test" st_is_test ["fields", "value"] ["value", "fields"] [1, 0] := fun _ _ _ _ _ _ us hl => match us, hl with | [_, _], _ => rfl
theorem bk_passes__report_test_fields : BindKOk "passes" "passes" st_passes ["fields", "test", "report"] ["report", "test", "fields"] [2, 1, 0] := fun _ _ _ _ _ _ us hl => match us, hl with | [_, _, _], _ => rfl
theorem bi_E_InvalidReport : BindOk "__init__" "InvalidReport.__init__" st_E_InvalidReport ["self", "given"] := fun _ _ _ _ _ _ us hl => match us, hl with | [_, _], _ => rfl
theorem bi_E_InvalidTest : BindOk "__init__" "InvalidTest.__init__" st_E_InvalidTest ["self", "given"] := fun _ _ _ _ _ _ us hl => match us, hl with | [_, _], _ => rfl
end Z

namespace Z
open PySem L2
local macro_rules | `(tactic| walk_at "zs") => `(tactic| (first | with_reducible apply st_go | ((with_reducible apply w_opt); (focus (with_reducible apply g_isT); (focus exact rfl); (focus exact rfl))) | ((with_reducible apply w_opt); (focus (with_reducible apply g_isF); (focus exact rfl); (focus exact rfl))) | ((with_reducible apply w_opt); (focus (with_reducible apply g_ipT); (focus exact rfl); (focus exact rfl))) | ((with_reducible apply w_opt); (focus (with_reducible apply g_ipF); (focus exact rfl); (focus exact rfl))) | ((with_reducible apply w_opt); (focus (first | (with_reducible assumption) | ((with_reducible apply g_fdivI); (first | (with_reducible assumption) | omega | (simp [sizeLine_eq]; done) | (simp [sizeLine_eq] <;> omega))) | ((with_reducible apply g_modI); (first | (with_reducible assumption) | omega | (simp [sizeLine_eq]; done) | (simp [sizeLine_eq] <;> omega))) | ((with_reducible apply g_addL); (first | (with_reducible assumption) | omega | (simp [sizeLine_eq]; done) | (simp [sizeLine_eq] <;> omega))) | ((with_reducible apply g_addT); (first | (with_reducible assumption) | omega | (simp [sizeLine_eq]; done) | (simp [sizeLine_eq] <;> omega))) | ((with_reducible apply g_addS); (first | (with_reducible assumption) | omega | (simp [sizeLine_eq]; done) | (simp [sizeLine_eq] <;> omega))) | ((with_reducible apply g_lenS); (first | (with_reducible assumption) | omega | (simp [sizeLine_eq]; done) | (simp [sizeLine_eq] <;> omega))) | ((with_reducible apply g_append); (first | (with_reducible assumption) | omega | (simp [sizeLine_eq]; done) | (simp [sizeLine_eq] <;> omega))) | ((with_reducible apply g_slS); (first | (with_reducible assumption) | omega | (simp [sizeLine_eq]; done) | (simp [sizeLine_eq] <;> omega)))))) | ((with_reducible apply w_bW); (focus (first | (with_reducible assumption) | ((with_reducible apply g_fdivI); (first | (with_reducible assumption) | omega | (simp [sizeLine_eq]; done) | (simp [sizeLine_eq] <;> omega))) | ((with_reducible apply g_modI); (first | (with_reducible assumption) | omega | (simp [sizeLine_eq]; done) | (simp [sizeLine_eq] <;> omega))) | ((with_reducible apply g_addL); (first | (with_reducible assumption) | omega | (simp [sizeLine_eq]; done) | (simp [sizeLine_eq] <;> omega))) | ((with_reducible apply g_addT); (first | (with_reducible assumption) | omega | (simp [sizeLine_eq]; done) | (simp [sizeLine_eq] <;> omega))) | ((with_reducible apply g_addS); (first | (with_reducible assumption) | omega | (simp [sizeLine_eq]; done) | (simp [sizeLine_eq] <;> omega))) | ((with_reducible apply g_lenS); (first | (with_reducible assumption) | omega | (simp [sizeLine_eq]; done) | (simp [sizeLine_eq] <;> omega))) | ((with_reducible apply g_append); (first | (with_reducible assumption) | omega | (simp [sizeLine_eq]; done) | (simp [sizeLine_eq] <;> omega))) | ((with_reducible apply g_slS); (first | (with_reducible assumption) | omega | (simp [sizeLine_eq]; done) | (simp [sizeLine_eq] <;> omega)))))) | ((with_reducible apply w_vdN); (focus assumption)) | ((with_reducible apply w_vdR); (focus assumption); dsimp only [Cell.toD]) | ((with_reducible apply w_updO); (focus first | with_reducible apply ge0 | with_reducible apply ge1 | with_reducible apply ge2 | with_reducible apply ge3 | with_reducible apply ge4 | with_reducible apply ge5 | with_reducible apply ge6 | with_reducible apply ge7 | with_reducible apply ge8 | with_reducible apply ge9 | with_reducible apply ge10 | with_reducible apply ge11 | with_reducible apply ge12 | with_reducible apply ge13 | with_reducible apply ge14 | with_reducible apply ge15 | with_reducible apply ge16 | with_reducible apply ge17 | with_reducible apply ge18 | with_reducible apply ge19); (focus (first | (with_reducible assumption) | ((with_reducible apply g_fdivI); (first | (with_reducible assumption) | omega | (simp [sizeLine_eq]; done) | (simp [sizeLine_eq] <;> omega))) | ((with_reducible apply g_modI); (first | (with_reducible assumption) | omega | (simp [sizeLine_eq]; done) | (simp [sizeLine_eq] <;> omega))) | ((with_reducible apply g_addL); (first | (with_reducible assumption) | omega | (simp [sizeLine_eq]; done) | (simp [sizeLine_eq] <;> omega))) | ((with_reducible apply g_addT); (first | (with_reducible assumption) | omega | (simp [sizeLine_eq]; done) | (simp [sizeLine_eq] <;> omega))) | ((with_reducible apply g_addS); (first | (with_reducible assumption) | omega | (simp [sizeLine_eq]; done) | (simp [sizeLine_eq] <;> omega))) | ((with_reducible apply g_lenS); (first | (with_reducible assumption) | omega | (simp [sizeLine_eq]; done) | (simp [sizeLine_eq] <;> omega))) | ((with_reducible apply g_append); (first | (with_reducible assumption) | omega | (simp [sizeLine_eq]; done) | (simp [sizeLine_eq] <;> omega))) | ((with_reducible apply g_slS); (first | (with_reducible assumption) | omega | (simp [sizeLine_eq]; done) | (simp [sizeLine_eq] <;> omega))))); dsimp only [List.set_cons_zero, List.set_cons_succ, Cell.toD]) | ((with_reducible apply w_updR); (focus first | with_reducible apply ge0 | with_reducible apply ge1 | with_reducible apply ge2 | with_reducible apply ge3 | with_reducible apply ge4 | with_reducible apply ge5 | with_reducible apply ge6 | with_reducible apply ge7 | with_reducible apply ge8 | with_reducible apply ge9 | with_reducible apply ge10 | with_reducible apply ge11 | with_reducible apply ge12 | with_reducible apply ge13 | with_reducible apply ge14 | with_reducible apply ge15 | with_reducible apply ge16 | with_reducible apply ge17 | with_reducible apply ge18 | with_reducible apply ge19); (focus assumption); (focus (first | (with_reducible assumption) | ((with_reducible apply g_fdivI); (first | (with_reducible assumption) | omega | (simp [sizeLine_eq]; done) | (simp [sizeLine_eq] <;> omega))) | ((with_reducible apply g_modI); (first | (with_reducible assumption) | omega | (simp [sizeLine_eq]; done) | (simp [sizeLine_eq] <;> omega))) | ((with_reducible apply g_addL); (first | (with_reducible assumption) | omega | (simp [sizeLine_eq]; done) | (simp [sizeLine_eq] <;> omega))) | ((with_reducible apply g_addT); (first | (with_reducible assumption) | omega | (simp [sizeLine_eq]; done) | (simp [sizeLine_eq] <;> omega))) | ((with_reducible apply g_addS); (first | (with_reducible assumption) | omega | (simp [sizeLine_eq]; done) | (simp [sizeLine_eq] <;> omega))) | ((with_reducible apply g_lenS); (first | (with_reducible assumption) | omega | (simp [sizeLine_eq]; done) | (simp [sizeLine_eq] <;> omega))) | ((with_reducible apply g_append); (first | (with_reducible assumption) | omega | (simp [sizeLine_eq]; done) | (simp [sizeLine_eq] <;> omega))) | ((with_reducible apply g_slS); (first | (with_reducible assumption) | omega | (simp [sizeLine_eq]; done) | (simp [sizeLine_eq] <;> omega)))))) | ((with_reducible apply w_st); (focus exact rfl); dsimp only [List.set_cons_zero, List.set_cons_succ, Cell.toD]) | ((with_reducible apply w_guardD); (focus first | exact rfl | (simp [mtyD]; done))) | ((with_reducible apply w_iteDT); (focus first | assumption | omega | decide)) | ((with_reducible apply w_iteDF); (focus first | assumption | omega | decide)) | ((with_reducible apply p_iteDT); (focus first | assumption | omega | decide)) | ((with_reducible apply p_iteDF); (focus first | assumption | omega | decide)) | ((with_reducible apply and_le); (focus (first | (with_reducible assumption) | omega | (simp [sizeLine_eq]; done) | (simp [sizeLine_eq] <;> omega)))) | ((with_reducible apply and_eq); (focus exact rfl)) | ((with_reducible apply and_ee); (focus exact rfl); (focus exact rfl))))
local macro_rules | `(tactic| walk_at "zgos") => `(tactic| ((try dsimp only [List.set_cons_zero, List.set_cons_succ, Cell.toD, wipeE, backE, List.getD_cons_zero, List.getD_cons_succ]); repeat walk_at "zs"; (try dsimp only)))
local macro_rules | `(tactic| walk_at "zgo") => `(tactic| ((try dsimp only [List.set_cons_zero, List.set_cons_succ, Cell.toD, wipeE, backE, List.getD_cons_zero, List.getD_cons_succ]); repeat (first | walk_at "zs" | with_reducible apply w_seq); (try dsimp only)))
abbrev boxC (a : Int) (b : Bool) (m d : Int) : Cell := .lst [.int a, .bl b, .int m, .int d]
theorem take_big {h : Hh} {n : Nat} {a m d : Int} (hn : h[n]? = some (boxC a true m d)) (ha : 0 < a) {many : Nat} (h0 : 0 < many) (hs : many < 2 ^ 64) :
    m__law_take [.ref n, .int many] ⟨[], h⟩ = .ok (.val (.int (a % many))) ⟨[], h.set n (boxC (a / many) true m d)⟩ := by
  have l1 : (many : Int).natAbs.log2 < 9000 := by
    have := log2_lt (n := (many : Int).natAbs) (k := 64) (by omega)
    omega
  have l2 : many.log2 < 9000 := l1
  have p0 : (0 : Int) < many := by omega
  have hlt : n < h.length := (List.getElem?_eq_some_iff.mp hn).1
  simp [m__law_take, b__law_take, fnM, env0, outF, seqM, ifM, andM, bnd, truM, opM, nameM, kI, ret, view, viewD, hn, opt, ixG, seqOf, Cell.toD, atI, truD, cmpM, gtG, ha, asgM, modG, callM, intG, consA, nilA, fix, views, p0, setM, subM, toD, fdivG, l2, updW, setG, ixN, h0, retM]
theorem take_small {h : Hh} {n : Nat} {a m d : Int} {b : Bool} (hn : h[n]? = some (boxC a b m d)) (hb : b = false ∨ a ≤ 0) (hm : 0 ≤ m ∧ m < 2 ^ 31) (hd : 0 ≤ d ∧ d < 2 ^ 30) {many : Nat} (h0 : 0 < many) :
    ∃ r : Nat, r < many ∧ m__law_take [.ref n, .int many] ⟨[], h⟩ = .ok (.val (.int r)) ⟨[], h.set n (boxC a b m (d + 1))⟩ := by
  have hlt : n < h.length := (List.getElem?_eq_some_iff.mp hn).1
  have p0 : (0 : Int) < many := by omega
  have hm1 := hm.1
  have hm2 := hm.2
  have hd1 := hd.1
  have hd2 := hd.2
  have c1 : Nat.log2 15485863 + (d + 1).natAbs.log2 < 1000000 := by
    have := log2_lt (n := (d + 1).natAbs) (k := 64) (by omega)
    have : Nat.log2 15485863 = 23 := by decide
    omega
  have c2 : (m + 15485863 * (d + 1) + 179424673).natAbs < 18446744073709551616 := by omega
  generalize hx : (m + 15485863 * (d + 1) + 179424673) ^ 5 % 2147483647 = x
  have x1 : 0 ≤ x := by rw [← hx]; exact Int.emod_nonneg _ (by decide)
  have x2 : x < 2147483647 := by rw [← hx]; exact Int.emod_lt_of_pos _ (by decide)
  have c3 : x.natAbs.log2 + Nat.log2 48271 < 1000000 := by
    have := log2_lt (n := x.natAbs) (k := 64) (by omega)
    have : Nat.log2 48271 = 15 := by decide
    omega
  have c4 : Nat.log2 104729 + (d + 1).natAbs.log2 < 1000000 := by
    have := log2_lt (n := (d + 1).natAbs) (k := 64) (by omega)
    have : Nat.log2 104729 = 16 := by decide
    omega
  have c5 : (x * 48271 + 104729 * (d + 1)).natAbs < 18446744073709551616 := by omega
  refine ⟨((x * 48271 + 104729 * (d + 1)) ^ 3 % 2147483587 / 64 % many).toNat, ?_, ?_⟩
  · have := Int.emod_lt_of_pos ((x * 48271 + 104729 * (d + 1)) ^ 3 % 2147483587 / 64) p0
    have := Int.emod_nonneg ((x * 48271 + 104729 * (d + 1)) ^ 3 % 2147483587 / 64) (show (many : Int) ≠ 0 by omega)
    omega
  · have e : ((((x * 48271 + 104729 * (d + 1)) ^ 3 % 2147483587 / 64 % many).toNat : Nat) : Int) = (x * 48271 + 104729 * (d + 1)) ^ 3 % 2147483587 / 64 % many := Int.toNat_of_nonneg (Int.emod_nonneg _ (by omega))
    rw [e]
    have lg : Nat.log2 64 < 9000 := by decide
    generalize hh : h.set n (boxC a b m (d + 1)) = h'
    have hn' : h'[n]? = some (boxC a b m (d + 1)) := by rw [← hh]; exact List.getElem?_set_self hlt
    refine r_fn (e := [.fz (.ref n), .fz (.int many), .un, .fz (.int x)]) ?_ (.inl ⟨_, rfl⟩)
    refine r_seq (s1 := ⟨[.fz (.ref n), .fz (.int many), .un, .un], h⟩) ?_ (r_seq (s1 := ⟨[.fz (.ref n), .fz (.int many), .un, .un], h'⟩) ?_ (r_seq (s1 := ⟨[.fz (.ref n), .fz (.int many), .un, .fz (.int x)], h'⟩) ?_ ?_))
    · refine r_if (b := false) (s1 := ⟨[.fz (.ref n), .fz (.int many), .un, .un], h⟩) ?_ rfl
      rcases hb with hb | hb
      · subst hb
        simp [env0, andM, orM, andV, orV, notV, truM, bnd, opM, unM, nameM, kI, kB, kN, kS, kD, ret, view, viewD, opt, ixG, seqOf, lstOf, Cell.toD, atI, ixN, truD, cmpM, cmpV, bW, chainM, blM, gtG, ltG, leG, geG, addG, subG, mulG, powG, fdivG, modG, negG, callM, consA, nilA, fix, views, toD, toDs, asgM, setM, subM, setG, updW, retM, exprM, stM, tupM, lstM, iteM, nextM, hn]
      · cases b <;> simp [env0, andM, orM, andV, orV, notV, truM, bnd, opM, unM, nameM, kI, kB, kN, kS, kD, ret, view, viewD, opt, ixG, seqOf, lstOf, Cell.toD, atI, ixN, truD, cmpM, cmpV, bW, chainM, blM, gtG, ltG, leG, geG, addG, subG, mulG, powG, fdivG, modG, negG, callM, consA, nilA, fix, views, toD, toDs, asgM, setM, subM, setG, updW, retM, exprM, stM, tupM, lstM, iteM, nextM, hn, show ¬ (0 < a) by omega]
    · simp [env0, andM, orM, andV, orV, notV, truM, bnd, opM, unM, nameM, kI, kB, kN, kS, kD, ret, view, viewD, opt, ixG, seqOf, lstOf, Cell.toD, atI, ixN, truD, cmpM, cmpV, bW, chainM, blM, gtG, ltG, leG, geG, addG, subG, mulG, powG, fdivG, modG, negG, callM, consA, nilA, fix, views, toD, toDs, asgM, setM, subM, setG, updW, retM, exprM, stM, tupM, lstM, iteM, nextM, hn, hh]
    · simp [env0, andM, orM, andV, orV, notV, truM, bnd, opM, unM, nameM, kI, kB, kN, kS, kD, ret, view, viewD, opt, ixG, seqOf, lstOf, Cell.toD, atI, ixN, truD, cmpM, cmpV, bW, chainM, blM, gtG, ltG, leG, geG, addG, subG, mulG, powG, fdivG, modG, negG, callM, consA, nilA, fix, views, toD, toDs, asgM, setM, subM, setG, updW, retM, exprM, stM, tupM, lstM, iteM, nextM, hn', intG, c1, c2, hx]
    · simp [env0, andM, orM, andV, orV, notV, truM, bnd, opM, unM, nameM, kI, kB, kN, kS, kD, ret, view, viewD, opt, ixG, seqOf, lstOf, Cell.toD, atI, ixN, truD, cmpM, cmpV, bW, chainM, blM, gtG, ltG, leG, geG, addG, subG, mulG, powG, fdivG, modG, negG, callM, consA, nilA, fix, views, toD, toDs, asgM, setM, subM, setG, updW, retM, exprM, stM, tupM, lstM, iteM, nextM, hn', intG, p0, h0, lg, c3, c4, c5]
def BoxAt (h : Hh) (n B : Nat) : Prop := ∃ a b m d, h[n]? = some (boxC a b m d) ∧ 0 ≤ m ∧ m < 2 ^ 31 ∧ 0 ≤ d ∧ d ≤ B
/-- all but the cell n as it was -/
def Keep (n : Nat) (h h' : Hh) : Prop := h.length ≤ h'.length ∧ ∀ i, i ≠ n → i < h.length → h'[i]? = h[i]?
theorem Keep.refl (n : Nat) (h : Hh) : Keep n h h := ⟨Nat.le_refl _, fun _ _ _ => rfl⟩
theorem Keep.trans {n : Nat} {h h1 h2 : Hh} (a : Keep n h h1) (b : Keep n h1 h2) : Keep n h h2 := ⟨Nat.le_trans a.1 b.1, fun i ne hi => (b.2 i ne (Nat.lt_of_lt_of_le hi a.1)).trans (a.2 i ne hi)⟩
theorem Keep.set {n : Nat} {h : Hh} {c : Cell} : Keep n h (h.set n c) := ⟨by rw [List.length_set]; exact Nat.le_refl _, fun i ne _ => List.getElem?_set_ne (Ne.symm ne)⟩
theorem Keep.push {n : Nat} {h : Hh} {c : Cell} : Keep n h (h ++ [c]) := ⟨by rw [List.length_append]; exact Nat.le_add_right _ _, fun i _ hi => List.getElem?_append_left hi⟩
theorem Keep.at {n i : Nat} {h h' : Hh} {c : Cell} (k : Keep n h h') (ne : i ≠ n) (e : h[i]? = some c) : h'[i]? = some c := (k.2 i ne (List.getElem?_eq_some_iff.mp e).1).trans e
theorem BoxAt.lt {h : Hh} {n B : Nat} (b : BoxAt h n B) : n < h.length := by
  obtain ⟨_, _, _, _, e, _⟩ := b
  exact (List.getElem?_eq_some_iff.mp e).1
theorem BoxAt.mono {h : Hh} {n B B' : Nat} (b : BoxAt h n B) (l : B ≤ B') : BoxAt h n B' := by
  obtain ⟨a, b, m, d, e, h1, h2, h3, h4⟩ := b
  exact ⟨a, b, m, d, e, h1, h2, h3, by omega⟩
theorem BoxAt.push {h : Hh} {n B : Nat} {c : Cell} (b : BoxAt h n B) : BoxAt (h ++ [c]) n B := by
  obtain ⟨a, b, m, d, e, q⟩ := b
  exact ⟨a, b, m, d, by rw [List.getElem?_append_left (List.getElem?_eq_some_iff.mp e).1]; exact e, q⟩
/-- a draw -/
theorem take_run {h : Hh} {n B : Nat} (hb : BoxAt h n B) (hB : B < 2 ^ 29) (many : Int) (h0 : 0 < many) (hs : many < 2 ^ 64) :
    ∃ (r : Nat) (h' : Hh), (r : Int) < many ∧ m__law_take [.ref n, .int many] ⟨[], h⟩ = .ok (.val (.int r)) ⟨[], h'⟩ ∧ BoxAt h' n (B + 1) ∧ Keep n h h' := by
  obtain ⟨a, b, m, d, e, h1, h2, h3, h4⟩ := hb
  have hlt : n < h.length := (List.getElem?_eq_some_iff.mp e).1
  obtain ⟨k, rfl⟩ : ∃ k : Nat, many = k := ⟨many.toNat, (Int.toNat_of_nonneg (by omega)).symm⟩
  by_cases hc : b = true ∧ 0 < a
  · obtain ⟨rfl, ha⟩ := hc
    have z := take_big e ha (many := k) (by omega) (by omega)
    have q1 := Int.emod_nonneg a (show (k : Int) ≠ 0 by omega)
    have q2 := Int.emod_lt_of_pos a h0
    refine ⟨(a % k).toNat, h.set n (boxC (a / k) true m d), by omega, ?_, ⟨a / k, true, m, d, List.getElem?_set_self hlt, h1, h2, h3, by omega⟩, Keep.set⟩
    rw [Int.toNat_of_nonneg q1]
    exact z
  · obtain ⟨r, q1, q2⟩ := take_small e (by cases b <;> simp_all) ⟨h1, h2⟩ ⟨h3, by omega⟩ (many := k) (by omega)
    exact ⟨r, h.set n (boxC a b m (d + 1)), by omega, q2, ⟨a, b, m, d + 1, List.getElem?_set_self hlt, h1, h2, by omega, by omega⟩, Keep.set⟩
/-! ## binomials -/
theorem run_range1 {fs : M (List W)} {s s1 : S} {w : W} {j : Int} (h1 : fs s = .ok [w] s1) (h2 : view w s1 = .ok (.int j) s1) (h3 : -4611686018427387904 ≤ j) (h4 : j < 4611686018427387904) : range1I fs s = .ok (rangeL 0 j.toNat) s1 := by
  unfold range1I
  refine r_bnd h1 (r_bnd (a := [.int j]) (s1 := s1) ?_ ?_)
  · unfold views
    exact r_bnd h2 rfl
  · show opt (if _ then _ else _) s1 = _
    rw [if_pos ⟨h3, h4⟩]
    rfl
theorem atI_nat {α : Type} {xs : List α} {i : Nat} {d : α} (h : xs[i]? = some d) : atI xs (i : Int) = some d := by
  have l : i < xs.length := (List.getElem?_eq_some_iff.mp h).1
  unfold atI ixN
  rw [if_pos (by omega), if_pos (by omega)]
  exact h
theorem atI_last {α : Type} {xs : List α} {d : α} : atI (xs ++ [d]) (-1) = some d := by
  unfold atI ixN
  rw [if_neg (by decide), if_pos (by rw [List.length_append]; simp; omega)]
  show (xs ++ [d])[(-1 + (((xs ++ [d]).length : Nat) : Int)).toNat]? = some d
  have e : (-1 + (((xs ++ [d]).length : Nat) : Int)).toNat = xs.length := by rw [List.length_append]; simp; omega
  rw [e]
  simp
theorem run_lc {vs : List Nat} {fi : M (List D)} {tg : Tgf} {tt : M Bool} {fe : M W} {s s1 : S} {items : List D} (g : D → D) (it : fi s = .ok items s1) (calm : calmE s1.e vs = true) (len : items.length ≤ sizeLine)
    (step : ∀ (i : Nat) (d : D), items[i]? = some d → ∀ acc : List D, lcTurn vs tg tt fe d acc ⟨wipeE s1.e vs, s1.h⟩ = some (acc ++ [g d], ⟨wipeE s1.e vs, s1.h⟩)) (back : backE s1.e (wipeE s1.e vs) vs = s1.e) : lcM vs fi tg tt fe s = .ok (.new (.lst (items.map g))) s1 := by
  unfold lcM
  refine r_bnd it ?_
  rw [if_pos ⟨calm, len⟩]
  have lp := lcLoop_map (vs := vs) (tg := tg) (tt := tt) (fe := fe) (s := ⟨wipeE s1.e vs, s1.h⟩) (fun d => [g d]) items [] (fun d hd acc => by
    obtain ⟨i, hi⟩ := List.getElem?_of_mem hd
    exact step i d hi acc)
  show (match lcLoop vs tg tt fe items [] ⟨wipeE s1.e vs, s1.h⟩ with | some (acc, s2) => _ | none => _) = _
  rw [lp]
  dsimp only
  rw [back, List.nil_append]
  have e : items.flatMap (fun d => [g d]) = items.map g := by
    clear lp step len it
    induction items with
    | nil => rfl
    | cons x t ih => rw [List.flatMap_cons, ih]; rfl
  rw [e]
theorem turn_lc {vs : List Nat} {tg : Tgf} {fe : M W} {d y : D} {acc : List D} {s s1 s2 : S} {w : W} (h1 : tg d s = some s1) (h2 : fe s1 = .ok w s2) (h3 : toD w s2 = .ok y s2) (h4 : wipeE s2.e vs = s.e) (h5 : s2.h = s.h) : lcTurn vs tg yesM fe d acc s = some (acc ++ [y], s) := by
  unfold lcTurn
  rw [h1]
  show (match datM fe s1 with | .ok y s3 => some (acc ++ [y], { s3 with e := wipeE s3.e vs }) | _ => none) = _
  unfold datM
  rw [r_bnd h2 h3]
  dsimp only
  rw [h4, h5]
def FieldsAt (h : Hh) (f k : Nat) : Prop := ∃ a b, h[f]? = some (.ins "Fields" ["names", "many", "places"] [a, .int k, b])
theorem whole_int (i : Int) (h : Hh) : m_is_whole [.int i] ⟨[], h⟩ = .ok (.val (.bl true)) ⟨[], h⟩ := rfl
theorem ix_lst {xs : List D} {i : Nat} {d : D} (h : xs[i]? = some d) : ixG (.lst xs) (.int (i : Int)) = some (.val d) := by
  unfold ixG seqOf
  dsimp only
  rw [atI_nat h]
theorem box_run (h : Hh) (g : Int) : ∃ a b m, m__law_box [.int g] ⟨[], h⟩ = .ok (.new (boxC a b m 0)) ⟨[], h⟩ ∧ 0 ≤ m ∧ m < 2 ^ 31 := by
  have h4 : 4 ≤ sizeLine := by rw [sizeLine_eq]; decide
  refine ⟨if g < 0 then -g else g, decide (1000000000000000000 ≤ (if g < 0 then -g else g)), (if g < 0 then -g else g) % 2147483629, ?_, ?_, ?_⟩
  · simp [env0, andM, orM, andV, orV, notV, truM, bnd, opM, unM, nameM, kI, kB, kN, kS, kD, ret, view, viewD, opt, ixG, seqOf, lstOf, Cell.toD, atI, ixN, truD, cmpM, cmpV, bW, chainM, blM, gtG, ltG, leG, geG, addG, subG, mulG, powG, fdivG, modG, negG, callM, consA, nilA, fix, views, toD, toDs, asgM, setM, subM, setG, updW, retM, exprM, stM, tupM, lstM, iteM, nextM, m__law_box, b__law_box, fnM, env0, outF, absG, intG, h4]
  · omega
  · omega
theorem box_at (h : Hh) {a m : Int} {b : Bool} (m0 : 0 ≤ m) (m1 : m < 2 ^ 31) : BoxAt (h ++ [boxC a b m 0]) h.length 0 :=
  ⟨a, b, m, 0, by simp, m0, m1, by decide, by decide⟩
theorem lst_ints (ns : List Int) : allOf intOf (ns.map D.int) = some ns := by
  induction ns with
  | nil => rfl
  | cons x t ih => simp [allOf, intOf, ih]
theorem cut_map (ns : List Int) (lo hi : Option Int) : cutL (ns.map D.int) lo hi = (cutL ns lo hi).map D.int := by
  unfold cutL
  rw [List.length_map, List.map_take, List.map_drop]
theorem cell_run (h : Hh) (ns : List Int) (k : Nat) (hk : k < 1000) : ∃ g, m__law_cell [.scr (ns.map .int), .int k] ⟨[], h⟩ = .ok (.val (.int g)) ⟨[], h⟩ := by
  by_cases q : k < ns.length
  · refine ⟨ns[k], ?_⟩
    have e : ixG (.scr (ns.map .int)) (.int k) = some (.val (.int ns[k])) := by
      unfold ixG seqOf
      dsimp only
      rw [atI_nat (d := D.int ns[k]) (by simp [q])]
    refine r_fn (e := [.fz (.scr (ns.map .int)), .fz (.int k)]) ?_ (.inl ⟨_, rfl⟩)
    simp only [ixG, seqOf] at e
    simp [env0, andM, orM, andV, orV, notV, truM, bnd, opM, unM, nameM, kI, kB, kN, kS, kD, ret, view, viewD, opt, ixG, seqOf, lstOf, Cell.toD, atI, ixN, truD, cmpM, cmpV, bW, chainM, blM, gtG, ltG, leG, geG, addG, subG, mulG, powG, fdivG, modG, negG, callM, consA, nilA, fix, views, toD, toDs, asgM, setM, subM, setG, updW, retM, exprM, stM, tupM, lstM, iteM, nextM, b__law_cell, env0, lenG, q, e]
  · have l1 : Nat.log2 6089 = 12 := by decide
    have l2 : Nat.log2 k ≤ 64 := log2_lt (n := k) (k := 64) (by omega)
    have lg : Nat.log2 6089 + Nat.log2 k < 1000000 := by omega
    refine ⟨6089 * k + (cutL ns none (some 1)).sum % 1000033, ?_⟩
    refine r_fn (e := [.fz (.scr (ns.map .int)), .fz (.int k)]) ?_ (.inl ⟨_, rfl⟩)
    simp [env0, andM, orM, andV, orV, notV, truM, bnd, opM, unM, nameM, kI, kB, kN, kS, kD, ret, view, viewD, opt, ixG, seqOf, lstOf, Cell.toD, atI, ixN, truD, cmpM, cmpV, bW, chainM, blM, gtG, ltG, leG, geG, addG, subG, mulG, powG, fdivG, modG, negG, callM, consA, nilA, fix, views, toD, toDs, asgM, setM, subM, setG, updW, retM, exprM, stM, tupM, lstM, iteM, nextM, b__law_cell, env0, lenG, q, sumG, slM, slG, intM, intOf, cut_map, lst_ints, intG, lg]
/-- a small letter -/
def Let (c : Nat) : Prop := 97 ≤ c ∧ c ≤ 122
def WordS (x : Str) : Prop := (1 ≤ x.length ∧ x.length ≤ 8) ∧ ∀ c ∈ x.cps.toList, Let c
theorem let_in {c : Nat} (h : Let c) : inA (.str ⟨#[c]⟩) (.str "abcdefghijklmnopqrstuvwxyz") = some true := by
  have all : ∀ i : Fin 26, inA (.str ⟨#[97 + i.val]⟩) (.str "abcdefghijklmnopqrstuvwxyz") = some true := by decide +kernel
  have z := all ⟨c - 97, by unfold Let at h; omega⟩
  rw [show 97 + (⟨c - 97, by unfold Let at h; omega⟩ : Fin 26).val = c by unfold Let at h; show 97 + (c - 97) = c; omega] at z
  exact z
theorem all_true (n : Nat) : allOf blOf (List.replicate n (D.bl true)) = some (List.replicate n true) := by
  induction n with
  | zero => rfl
  | succ n ih => rw [List.replicate_succ, List.replicate_succ]; simp [allOf, blOf, ih]
theorem all_rep (n : Nat) : (List.replicate n true).all id = true := by
  induction n with
  | zero => rfl
  | succ n ih => rw [List.replicate_succ, List.all_cons, ih]; rfl
theorem word_run {x : Str} (w : WordS x) (h : Hh) : m_is_word [.str x] ⟨[], h⟩ = .ok (.val (.bl true)) ⟨[], h⟩ := by
  obtain ⟨⟨l1, l2⟩, al⟩ := w
  have hs : sizeLine = 16777216 := sizeLine_eq
  let e : Env := [.fz (.str x), .un]
  have sl : (signs x).length ≤ sizeLine := by
    show (x.cps.toList.map _).length ≤ _
    rw [List.length_map, Array.length_toList]
    have : x.cps.size ≤ 8 := l2
    omega
  have c : lcM [1] (strI (nameM 0)) (tg1 1) yesM l_is_word_1 ⟨e, h⟩ = .ok (.new (.lst ((signs x).map fun _ => D.bl true))) ⟨e, h⟩ := by
    refine run_lc (fun _ => D.bl true) (s1 := ⟨e, h⟩) (items := signs x) (r_bnd rfl (r_bnd rfl rfl)) rfl sl ?_ rfl
    intro i d hd acc
    obtain ⟨cc, hc, rfl⟩ : ∃ cc, cc ∈ x.cps.toList ∧ d = .str ⟨#[cc]⟩ := by
      have m := List.mem_of_getElem? hd
      obtain ⟨cc, hc, e⟩ := List.mem_map.mp m
      exact ⟨cc, hc, e.symm⟩
    let e2 : Env := [.fz (.str x), .fz (.str ⟨#[cc]⟩)]
    refine turn_lc (s1 := ⟨e2, h⟩) (s2 := ⟨e2, h⟩) (w := .val (.bl true)) rfl ?_ rfl rfl rfl
    unfold l_is_word_1 cmpV opM
    refine r_bnd (a := W.slot 1) (s1 := ⟨e2, h⟩) rfl (r_bnd rfl (r_bnd rfl (r_bnd rfl ?_)))
    show opt (bW (inA (.str ⟨#[cc]⟩) (.str "abcdefghijklmnopqrstuvwxyz"))) _ = _
    rw [let_in (al cc hc)]
    rfl
  have cn : (signs x).map (fun _ => D.bl true) = List.replicate (signs x).length (D.bl true) := by
    rw [List.map_const']
  rw [cn] at c
  have ag : allG [.lst (List.replicate (signs x).length (D.bl true))] = some (.val (.bl true)) := by
    show (match allOf blOf (List.replicate (signs x).length (D.bl true)) with | some ns => some (W.val (D.bl (ns.all id))) | none => none) = _
    rw [all_true]
    dsimp only
    rw [all_rep]
  have i1 : isiG [.str x, .ty "str"] = some (.val (.bl true)) := rfl
  have len : lenG [.str x] = some (.val (.int x.length)) := by
    show (if x.length ≤ sizeLine then some (W.val (D.int x.length)) else none) = _
    rw [if_pos (by omega)]
  have q1 : (1 : Int) ≤ x.length := by omega
  have q2 : (x.length : Int) ≤ 8 := by omega
  show fnM 2 b_is_word _ _ = _
  unfold b_is_word
  generalize lcM [1] (strI (nameM 0)) (tg1 1) yesM l_is_word_1 = comp at c ⊢
  refine r_fn (e := e) ?_ (.inl ⟨_, rfl⟩)
  show retM _ ⟨e, h⟩ = _
  simp [env0, andM, orM, andV, orV, notV, truM, bnd, opM, unM, nameM, kI, kB, kN, kS, kD, ret, view, viewD, opt, ixG, seqOf, lstOf, Cell.toD, atI, ixN, truD, cmpM, cmpV, bW, chainM, blM, gtG, ltG, leG, geG, addG, subG, mulG, powG, fdivG, modG, negG, callM, consA, nilA, fix, views, toD, toDs, asgM, setM, subM, setG, updW, retM, exprM, stM, tupM, lstM, iteM, nextM, e, i1, len, q1, q2] at c ⊢
  simp [env0, andM, orM, andV, orV, notV, truM, bnd, opM, unM, nameM, kI, kB, kN, kS, kD, ret, view, viewD, opt, ixG, seqOf, lstOf, Cell.toD, atI, ixN, truD, cmpM, cmpV, bW, chainM, blM, gtG, ltG, leG, geG, addG, subG, mulG, powG, fdivG, modG, negG, callM, consA, nilA, fix, views, toD, toDs, asgM, setM, subM, setG, updW, retM, exprM, stM, tupM, lstM, iteM, nextM, e, c, ag]
def forb : List Str := ["all", "some", "not", "none", "any", "if"]
theorem any_mem (x : Str) (ys : List Str) : ((ys.map D.str).any fun y => eqF y (.str x)) = decide (x ∈ ys) := by
  rw [Bool.eq_iff_iff, List.any_eq_true, decide_eq_true_iff]
  constructor
  · rintro ⟨d, hm, he⟩
    obtain ⟨y, hy, rfl⟩ := List.mem_map.mp hm
    have q : (y == x) = true := he
    exact (beq_iff_eq.mp q) ▸ hy
  · intro hx
    exact ⟨.str x, List.mem_map.mpr ⟨x, hx, rfl⟩, (beq_self_eq_true x : (x == x) = true)⟩
theorem flat_strs (ys : List Str) : (ys.map D.str).all flatD = true := by
  induction ys with
  | nil => rfl
  | cons y t ih => rw [List.map_cons, List.all_cons, ih]; rfl
theorem in_strs {x : Str} {ys : List Str} {d : D} (hd : d = .lst (ys.map D.str) ∨ d = .ktp (ys.map D.str)) : inA (.str x) d = some (decide (x ∈ ys)) := by
  have fl := flat_strs ys
  have am := any_mem x ys
  rcases hd with rfl | rfl
  · show (if flatD (.str x) = true ∧ (ys.map D.str).all flatD = true then some ((ys.map D.str).any fun y => eqF y (.str x)) else _) = _
    rw [if_pos ⟨rfl, fl⟩, am]
  · show (if flatD (.str x) = true ∧ (ys.map D.str).all flatD = true then some ((ys.map D.str).any fun y => eqF y (.str x)) else _) = _
    rw [if_pos ⟨rfl, fl⟩, am]
theorem notin_strs {x : Str} {ys : List Str} {d : D} (hd : d = .lst (ys.map D.str) ∨ d = .ktp (ys.map D.str)) : notInA (.str x) d = some (!decide (x ∈ ys)) := by
  unfold notInA
  rw [in_strs hd]
def NameS (x : Str) : Prop := WordS x ∧ x ∉ forb
theorem name_run {x : Str} (w : NameS x) (h : Hh) : m_is_name [.str x] ⟨[], h⟩ = .ok (.val (.bl true)) ⟨[], h⟩ := by
  have z1 := word_run w.1 h
  have z2 : notInA (.str x) k_NO_NAMES = some true := by
    show notInA (.str x) (.ktp (forb.map D.str)) = _
    rw [notin_strs (ys := forb) (.inr rfl), decide_eq_false w.2]
    rfl
  let e : Env := [.fz (.str x)]
  refine r_fn (e := e) ?_ (.inl ⟨_, rfl⟩)
  refine r_bnd (a := W.val (.bl true)) (s1 := ⟨e, h⟩) ?_ rfl
  have a1 : callF 1 m_is_word (consA (nameM 0) nilA) ⟨e, h⟩ = .ok (.val (.bl true)) ⟨e, h⟩ := r_callF (e := e) (s1 := ⟨e, h⟩) (ws := [.slot 0]) (ds := [.str x]) rfl rfl rfl z1
  refine r_bnd a1 (r_bnd rfl ?_)
  show cmpV notInA (nameM 0) (kD k_NO_NAMES) ⟨e, h⟩ = _
  unfold cmpV opM
  refine r_bnd (a := W.slot 0) (s1 := ⟨e, h⟩) rfl (r_bnd rfl (r_bnd rfl (r_bnd rfl ?_)))
  show opt (bW (notInA (.str x) k_NO_NAMES)) _ = _
  rw [z2]
  rfl
theorem uniq_nodup : ∀ (xs acc : List Str), xs.Nodup → (∀ x ∈ xs, x ∉ acc) → (uniq acc xs).length = acc.length + xs.length
  | [], acc, _, _ => rfl
  | x :: xs, acc, nd, h => by
    have nx : acc.contains x = false := by
      rw [Bool.eq_false_iff]
      intro q
      exact h x (List.mem_cons_self) (List.contains_iff_mem.mp q)
    show (uniq (if acc.contains x = true then acc else acc ++ [x]) xs).length = _
    rw [nx, if_neg (by decide)]
    rw [uniq_nodup xs (acc ++ [x]) (List.nodup_cons.mp nd).2 (fun y hy q => by
      rcases List.mem_append.mp q with q | q
      · exact h y (List.mem_cons_of_mem _ hy) q
      · rw [List.mem_singleton] at q
        subst q
        exact (List.nodup_cons.mp nd).1 hy)]
    simp only [List.length_append, List.length_cons, List.length_nil]
    omega
theorem all_strs (xs : List Str) : allOf strOf (xs.map D.str) = some xs := by
  induction xs with
  | nil => rfl
  | cons x t ih => simp [allOf, strOf, ih]
theorem unlike_run {xs : List Str} (nd : xs.Nodup) (hl : xs.length ≤ 4000) (h : Hh) : m_are_unlike [.lst (xs.map .str)] ⟨[], h⟩ = .ok (.val (.bl true)) ⟨[], h⟩ := by
  have u := uniq_nodup xs [] nd (fun _ _ => List.not_mem_nil)
  rw [List.length_nil, Nat.zero_add] at u
  let e : Env := [.fz (.lst (xs.map .str))]
  have c : lenSetM (nameM 0) ⟨e, h⟩ = .ok (.val (.int xs.length)) ⟨e, h⟩ := by
    refine r_bnd rfl (r_bnd rfl ?_)
    show opt (match allOf strOf (xs.map D.str) with | some xs => if xs.length ≤ 4000 then some (W.val (.int ((uniq [] xs).length : Nat))) else none | none => none) _ = _
    rw [all_strs]
    dsimp only
    rw [if_pos hl, u]
    rfl
  have len : lenG [.lst (xs.map D.str)] = some (.val (.int xs.length)) := by
    show some (W.val (.int ((xs.map D.str).length : Nat))) = _
    rw [List.length_map]
  refine r_fn (e := e) ?_ (.inl ⟨_, rfl⟩)
  show retM _ ⟨e, h⟩ = _
  have q : eqG (.int (xs.length : Int)) (.int (xs.length : Int)) = some true := by
    show some (decide ((xs.length : Int) = xs.length)) = _
    rw [decide_eq_true rfl]
  simp [env0, andM, orM, andV, orV, notV, truM, bnd, opM, unM, nameM, kI, kB, kN, kS, kD, ret, view, viewD, opt, ixG, seqOf, lstOf, Cell.toD, atI, ixN, truD, cmpM, cmpV, bW, chainM, blM, gtG, ltG, leG, geG, addG, subG, mulG, powG, fdivG, modG, negG, callM, consA, nilA, fix, views, toD, toDs, asgM, setM, subM, setG, updW, retM, exprM, stM, tupM, lstM, iteM, nextM, c, len, e, q]
theorem names_run {xs : List Str} (nd : xs.Nodup) (l1 : 1 ≤ xs.length) (l2 : xs.length ≤ 3) (nm : ∀ x ∈ xs, NameS x) (h : Hh) : m_are_unlike_names [.lst (xs.map .str), .int 1, .int 3] ⟨[], h⟩ = .ok (.val (.bl true)) ⟨[], h⟩ := by
  have hs : sizeLine = 16777216 := sizeLine_eq
  let e : Env := [.fz (.lst (xs.map .str)), .fz (.int 1), .fz (.int 3), .un]
  have c : lcM [3] (seqI (nameM 0)) (tg1 3) yesM l_are_unlike_names_1 ⟨e, h⟩ = .ok (.new (.lst ((xs.map D.str).map fun _ => D.bl true))) ⟨e, h⟩ := by
    refine run_lc (fun _ => D.bl true) (s1 := ⟨e, h⟩) (items := xs.map D.str) ?_ rfl (by rw [List.length_map]; omega) ?_ rfl
    · exact r_bnd rfl (r_bnd rfl rfl)
    · intro i d hd acc
      obtain ⟨x, hx, rfl⟩ := List.mem_map.mp (List.mem_of_getElem? hd)
      let e2 : Env := [.fz (.lst (xs.map .str)), .fz (.int 1), .fz (.int 3), .fz (.str x)]
      exact turn_lc (s1 := ⟨e2, h⟩) (s2 := ⟨e2, h⟩) (w := .val (.bl true)) rfl (r_callF (e := e2) (s1 := ⟨e2, h⟩) (ws := [.slot 3]) (ds := [.str x]) rfl rfl rfl (name_run (nm x hx) h)) rfl rfl rfl
  have cn : (xs.map D.str).map (fun _ => D.bl true) = List.replicate (xs.map D.str).length (D.bl true) := by
    rw [List.map_const']
  rw [cn] at c
  have ag : allG [.lst (List.replicate (xs.map D.str).length (D.bl true))] = some (.val (.bl true)) := by
    show (match allOf blOf (List.replicate (xs.map D.str).length (D.bl true)) with | some ns => some (W.val (D.bl (ns.all id))) | none => none) = _
    rw [all_true]
    dsimp only
    rw [all_rep]
  have z1 : m_is_listed [.lst (xs.map .str)] ⟨[], h⟩ = .ok (.val (.bl true)) ⟨[], h⟩ := rfl
  have z2 := unlike_run nd (by omega) h
  have len : lenG [.lst (xs.map D.str)] = some (.val (.int xs.length)) := by
    show some (W.val (.int ((xs.map D.str).length : Nat))) = _
    rw [List.length_map]
  have q1 : (1 : Int) ≤ xs.length := by omega
  have q2 : (xs.length : Int) ≤ 3 := by omega
  have b1 : callF 1 m_is_listed (consA (nameM 0) nilA) ⟨e, h⟩ = .ok (.val (.bl true)) ⟨e, h⟩ := r_callF (e := e) (s1 := ⟨e, h⟩) (ws := [.slot 0]) (ds := [.lst (xs.map .str)]) rfl rfl rfl z1
  have b2 : callF 1 m_are_unlike (consA (nameM 0) nilA) ⟨e, h⟩ = .ok (.val (.bl true)) ⟨e, h⟩ := r_callF (e := e) (s1 := ⟨e, h⟩) (ws := [.slot 0]) (ds := [.lst (xs.map .str)]) rfl rfl rfl z2
  have b3 : chainM leG leG (nameM 1) (callM lenG (consA (nameM 0) nilA)) (nameM 2) ⟨e, h⟩ = .ok true ⟨e, h⟩ := by
    simp [env0, andM, orM, andV, orV, notV, truM, bnd, opM, unM, nameM, kI, kB, kN, kS, kD, ret, view, viewD, opt, ixG, seqOf, lstOf, Cell.toD, atI, ixN, truD, cmpM, cmpV, bW, chainM, blM, gtG, ltG, leG, geG, addG, subG, mulG, powG, fdivG, modG, negG, callM, consA, nilA, fix, views, toD, toDs, asgM, setM, subM, setG, updW, retM, exprM, stM, tupM, lstM, iteM, nextM, e, len, q1, q2]
  have b4 : callM allG (consA (lcM [3] (seqI (nameM 0)) (tg1 3) yesM l_are_unlike_names_1) nilA) ⟨e, h⟩ = .ok (.val (.bl true)) ⟨e, h⟩ := by
    refine r_bnd (a := [.val (.lst (List.replicate (xs.map D.str).length (D.bl true)))]) (s1 := ⟨e, h⟩) (r_bnd c rfl) (r_bnd (a := [.lst (List.replicate (xs.map D.str).length (D.bl true))]) (s1 := ⟨e, h⟩) rfl ?_)
    rw [ag]
    rfl
  refine r_fn (e := e) ?_ (.inl ⟨.bl true, rfl⟩)
  refine r_seq (s1 := ⟨e, h⟩) (r_if (b := false) (s1 := ⟨e, h⟩) ?_ rfl) ?_
  · exact r_bnd (a := false) (s1 := ⟨e, h⟩) (r_bnd (a := true) (s1 := ⟨e, h⟩) (r_bnd b1 rfl) rfl) (r_bnd b3 rfl)
  · exact r_bnd (a := W.val (.bl true)) (s1 := ⟨e, h⟩) (r_bnd b4 (r_bnd rfl b2)) rfl
theorem w_take {h : Hh} {n B : Nat} {many : Int} {Q : W → S → Prop} {E : XQ} (hb : BoxAt h n B) (hB : B < 2 ^ 29) (h0 : 0 < many) (hs : many < 2 ^ 64)
    (k : ∀ (r : Nat) (h' : Hh), (r : Int) < many → BoxAt h' n (B + 1) → Keep n h h' → Q (.val (.int r)) ⟨[], h'⟩) : wpM (m__law_take [.ref n, .int many]) ⟨[], h⟩ Q E := by
  obtain ⟨r, h', a, b, c, d⟩ := take_run hb hB many h0 hs
  exact w_eq b (k r h' a c d)
/-! ## words -/
theorem nodup_le {α : Type} [DecidableEq α] : ∀ (xs ys : List α), xs.Nodup → (∀ x ∈ xs, x ∈ ys) → xs.length ≤ ys.length
  | [], _, _, _ => Nat.zero_le _
  | x :: xs, ys, nd, sub => by
    have hx := sub x List.mem_cons_self
    have z := nodup_le xs (ys.erase x) (List.nodup_cons.mp nd).2 (fun y hy => by
      have ne : y ≠ x := fun e => (List.nodup_cons.mp nd).1 (e ▸ hy)
      exact (List.mem_erase_of_ne ne).mpr (sub y (List.mem_cons_of_mem _ hy)))
    have l := List.length_erase_of_mem hx
    have p := List.length_pos_of_mem hx
    rw [List.length_cons]
    omega
abbrev abc : Str := "abcdefghijklmnopqrstuvwxyz"
theorem abc_eq : abc.cps.toList = List.range' 97 26 := by decide +kernel
theorem abc_len : abc.length = 26 := by decide +kernel
/-- all but the last sign -/
abbrev ini (x : Str) : Str := cutS x none (some (-1))
def with_ (x : Str) (c : Nat) : Str := ini x ++ ⟨#[c]⟩
theorem ini_list (x : Str) : (ini x).cps.toList = x.cps.toList.take (x.length - 1) := by
  have e : HT.sIx x.length x.length (some (-1)) = x.length - 1 := by
    show (if (-1 : Int) < 0 then ((-1 : Int) + (x.length : Int)).toNat else min (-1 : Int).toNat x.length) = _
    rw [if_pos (by decide)]
    omega
  show ((x.cps.toList.drop 0).take (HT.sIx x.length x.length (some (-1)) - 0)).toArray.toList = _
  rw [e]
  simp
theorem app_list (x y : Str) : (x ++ y).cps.toList = x.cps.toList ++ y.cps.toList := by
  show (x.cps ++ y.cps).toList = _
  simp
theorem len_list (x : Str) : x.length = x.cps.toList.length := by
  show x.cps.size = _
  simp
theorem with_list (x : Str) (c : Nat) : (with_ x c).cps.toList = x.cps.toList.take (x.length - 1) ++ [c] := by
  show (ini x ++ ⟨#[c]⟩).cps.toList = _
  rw [app_list, ini_list]
theorem with_word {x : Str} (w : WordS x) {c : Nat} (hc : Let c) : WordS (with_ x c) := by
  obtain ⟨⟨l1, l2⟩, al⟩ := w
  refine ⟨?_, fun d hd => ?_⟩
  · rw [len_list, with_list, List.length_append, List.length_take, ← len_list]
    simp only [List.length_cons, List.length_nil]
    omega
  · rw [with_list] at hd
    rcases List.mem_append.mp hd with hd | hd
    · exact al d (List.mem_of_mem_take hd)
    · rw [List.mem_singleton.mp hd]; exact hc
theorem with_inj {x : Str} {c d : Nat} (e : with_ x c = with_ x d) : c = d := by
  have z : (with_ x c).cps.toList = (with_ x d).cps.toList := by rw [e]
  rw [with_list, with_list] at z
  have z2 := List.append_cancel_left z
  exact (List.cons.inj z2).1
def vars (x : Str) : List Str := (List.range' 97 26).map (with_ x)
theorem vars_word {x : Str} (w : WordS x) : ∀ y ∈ x :: vars x, WordS y := by
  intro y hy
  rcases List.mem_cons.mp hy with rfl | hy
  · exact w
  · obtain ⟨c, hc, rfl⟩ := List.mem_map.mp hy
    rw [List.mem_range'_1] at hc
    exact with_word w (by unfold Let; omega)
theorem vars_nodup (x : Str) : (vars x).Nodup := by
  unfold vars
  have nd : (List.range' 97 26).Nodup := List.nodup_range'
  exact List.Pairwise.map _ (fun a b ne e => ne (with_inj e)) nd
/-- some variant is none of the forbidden words -/
theorem vars_free (x : Str) (bad : List Str) (hb : bad.length ≤ 25) : ∃ y ∈ x :: vars x, y ∉ bad := by
  apply Classical.byContradiction
  intro no
  have sub : ∀ y ∈ vars x, y ∈ bad := fun y hy => Classical.byContradiction fun q => no ⟨y, List.mem_cons_of_mem _ hy, q⟩
  have z := nodup_le (vars x) bad (vars_nodup x) sub
  have l : (vars x).length = 26 := by unfold vars; simp
  omega
theorem cut8_word {x : Str} (h1 : 1 ≤ x.length) (al : ∀ c ∈ x.cps.toList, Let c) : WordS (cutS x none (some 8)) := by
  have e : HT.sIx x.length x.length (some 8) = min 8 x.length := HT.sIx_nat x.length x.length 8
  have ls : (cutS x none (some 8)).cps.toList = x.cps.toList.take (min 8 x.length) := by
    show ((x.cps.toList.drop 0).take (HT.sIx x.length x.length (some 8) - 0)).toArray.toList = _
    rw [e]
    simp
  refine ⟨?_, fun d hd => ?_⟩
  · rw [len_list, ls, List.length_take, ← len_list]
    omega
  · rw [ls] at hd
    exact al d (List.mem_of_mem_take hd)
theorem join_list : ∀ ls : List Nat, (Str.join "" (ls.map fun c => (⟨#[c]⟩ : Str))).cps.toList = ls
  | [] => rfl
  | [c] => rfl
  | c :: d :: ls => by
    show ((⟨#[c]⟩ : Str) ++ ("" : Str) ++ Str.join "" ((d :: ls).map fun c => (⟨#[c]⟩ : Str))).cps.toList = _
    have e : ("" : Str).cps.toList = [] := by decide +kernel
    rw [app_list, app_list, e, join_list (d :: ls)]
    rfl
theorem join_abc {ls : List Nat} (hl : ls.length ≤ 1000) : joinG (.str "") [.lst (ls.map fun c => D.str ⟨#[c]⟩)] = some (.val (.str (Str.join "" (ls.map fun c => (⟨#[c]⟩ : Str))))) := by
  have e : (ls.map fun c => D.str ⟨#[c]⟩) = (ls.map fun c => (⟨#[c]⟩ : Str)).map D.str := by rw [List.map_map]; rfl
  have e0 : ("" : Str).length = 0 := by decide +kernel
  have len : (((ls.map fun c => (⟨#[c]⟩ : Str))).map (·.length)).sum = ls.length := by
    clear hl e
    induction ls with
    | nil => rfl
    | cons c t ih =>
      rw [List.map_cons, List.map_cons, List.sum_cons, ih, List.length_cons]
      show 1 + t.length = _
      omega
  rw [e]
  show (match allOf strOf ((ls.map fun c => (⟨#[c]⟩ : Str)).map D.str) with | some ys => _ | none => _) = _
  rw [all_strs]
  dsimp only
  rw [len, e0, if_pos (by rw [List.length_map]; omega)]
  show some (W.val (.str (Builtin.Str.glued "" _))) = _
  rw [StrLaws.glued_eq_join]
theorem ne_nil {xs : List Str} (ok : ∀ x ∈ xs, WordS x) : neG (.lst (xs.map D.str)) (.lst []) = some (!xs.isEmpty) := by
  have pys_ok : pys (xs.map D.str) = some (xs.map PyData.str) := by
    clear ok
    induction xs with
    | nil => rfl
    | cons x t ih =>
      show (match some (PyData.str x), pys (t.map D.str) with | some p, some ps => some (p :: ps) | _, _ => none) = _
      rw [ih]
      rfl
  have lay : PyData.canLayAll0 (xs.map PyData.str) = true := by
    clear pys_ok
    induction xs with
    | nil => rfl
    | cons x t ih =>
      have h1 : PyData.strOk x = true := by
        unfold PyData.strOk
        rw [← Array.all_toList, List.all_eq_true]
        intro c hc
        have z := (ok x List.mem_cons_self).2 c hc
        unfold Let at z
        rw [decide_eq_true_iff]
        omega
      show (PyData.strOk x && PyData.canLayAll0 (t.map PyData.str)) = true
      rw [h1, ih fun y hy => ok y (List.mem_cons_of_mem _ hy)]
      rfl
  have dep : PyData.depthAll (xs.map PyData.str) = 0 := by
    clear pys_ok lay ok
    induction xs with
    | nil => rfl
    | cons x t ih =>
      show max 0 (PyData.depthAll (t.map PyData.str)) = 0
      rw [ih]
      rfl
  have sh : SeqAt.shaped (.list (xs.map PyData.str)) = true := by
    show (PyData.canLayAll0 (xs.map PyData.str) && decide (PyData.depthAll (xs.map PyData.str) + 1 ≤ 64)) = true
    rw [lay, dep]
    rfl
  have e : eqG (.lst (xs.map D.str)) (.lst []) = some xs.isEmpty := by
    show (match (match pys (xs.map D.str) with | some ps => some (PyData.list ps) | none => none), some (PyData.list []) with
      | some a, some b => if SeqAt.shaped a = true ∧ SeqAt.shaped b = true then some (PyData.eqv a b) else none
      | _, _ => none) = _
    rw [pys_ok]
    show (if SeqAt.shaped (.list (xs.map PyData.str)) = true ∧ SeqAt.shaped (.list []) = true then some (PyData.eqv (.list (xs.map PyData.str)) (.list [])) else none) = _
    rw [if_pos ⟨sh, by decide⟩]
    cases xs <;> rfl
  unfold neG
  rw [e]
theorem ix_abc {r : Nat} (hr : r < 26) : ixG (.str abc) (.int (r : Int)) = some (.val (.str ⟨#[97 + r]⟩)) := by
  refine g_ixS (by rw [abc_len, sizeLine_eq]; decide) (atI_nat ?_)
  rw [abc_eq, List.getElem?_range' hr]
  simp
theorem signs_abc : signs abc = (List.range' 97 26).map fun c => D.str ⟨#[c]⟩ := by
  unfold signs
  rw [abc_eq]
theorem chr_len (c : Nat) : (⟨#[c]⟩ : Str).length = 1 := rfl
/-- a drawn word -/
theorem word_draw {n B : Nat} {h : Hh} (hb : BoxAt h n B) (hB : B + 10 < 2 ^ 29) (e : Env) (e0 : e[0]? = some (.fz (.ref n))) (e2 : e[2]? = some (.fz (.str abc))) (e7 : e[7]? = some .un) (hl : e.length = 11) {Q : W → S → Prop} {E : XQ}
    (q : ∀ x h', WordS x → BoxAt h' n (B + 9) → Keep n h h' → Q (.val (.str x)) ⟨e, h'⟩) :
    wpM (mtM "str" joinG (kS "") (consA (lcM [7] (range1I (consA (opM addG (kI 1) (callF 2 m__law_take (consA (nameM 0) (consA (kI 8) nilA)))) nilA)) (tg1 7) yesM l__law_names_1) nilA)) ⟨e, h⟩ Q E := by
  obtain ⟨a0, a1, a2, a3, a4, a5, a6, a7, a8, a9, a10, rfl⟩ : ∃ a0 a1 a2 a3 a4 a5 a6 a7 a8 a9 a10, e = [a0, a1, a2, a3, a4, a5, a6, a7, a8, a9, a10] := by
    match e, hl with
    | [a0, a1, a2, a3, a4, a5, a6, a7, a8, a9, a10], _ => exact ⟨_, _, _, _, _, _, _, _, _, _, _, rfl⟩
  obtain rfl : a0 = .fz (.ref n) := by simpa using e0
  obtain rfl : a2 = .fz (.str abc) := by simpa using e2
  obtain rfl : a7 = .un := by simpa using e7
  walk_at "zgo"
  refine w_lc (fun j acc s => ∃ (ls : List Nat) (h2 : Hh), acc = ls.map (fun c => D.str ⟨#[c]⟩) ∧ ls.length = j ∧ (∀ c ∈ ls, Let c) ∧ s = ⟨[.fz (.ref n), a1, .fz (.str abc), a3, a4, a5, a6, .un, a8, a9, a10], h2⟩ ∧ BoxAt h2 n (B + 1 + j) ∧ Keep n h h2) ?_
  walk_at "zgo"
  refine w_take (by assumption) (by omega) (by decide) (by decide) ?_; intro r1 h1 hr1 hb1 hk1
  walk_at "zgo"
  refine ⟨_, rfl, ⟨by omega, by omega⟩, ?_⟩
  refine ⟨⟨rfl, by rw [rangeL_len, sizeLine_eq]; omega⟩, ⟨[], h1, rfl, rfl, by simp, rfl, hb1, hk1⟩, ?_, ?_⟩
  · rintro i d acc s hd ⟨ls, h2, rfl, rfl, al, rfl, b2, k2⟩
    obtain ⟨hlt, rfl⟩ := rangeL_get hd
    refine ⟨_, rfl, ?_⟩
    unfold l__law_names_1
    walk_at "zgo"
    refine w_take (by assumption) (by omega) (by decide) (by decide) ?_; intro r3 h3 hr3 hb3 hk3
    walk_at "zgo"
    refine w_opt (ix_abc (by omega)) ?_
    walk_at "zgo"
    refine ⟨ls ++ [97 + r3], h3, by simp, by simp, fun c hc => ?_, rfl, hb3.mono (by omega), k2.trans hk3⟩
    rcases List.mem_append.mp hc with hc | hc
    · exact al c hc
    · rw [List.mem_singleton.mp hc]; unfold Let; omega
  · rintro acc s' ⟨ls, h2, rfl, len, al, rfl, b2, k2⟩
    rw [rangeL_len] at len b2
    walk_at "zgo"
    refine w_opt (join_abc (by omega)) ?_
    refine q _ h2 ⟨?_, ?_⟩ (b2.mono (by omega)) k2
    · rw [len_list, join_list]
      omega
    · rw [join_list]
      exact al
theorem free_list (x : Str) : ((signs abc).filter fun _ => true).map (fun d => match d with | .str y => D.str (ini x ++ y) | d => d) = (vars x).map D.str := by
  rw [signs_abc]
  unfold vars
  rw [List.filter_eq_self.mpr (fun _ _ => rfl), List.map_map, List.map_map]
  rfl
def okD (found : List Str) (d : D) : Bool := match d with
  | .str y => !decide (y ∈ found) && !decide (y ∈ forb)
  | _ => false
theorem ok_list (found ys : List Str) : ((ys.map D.str).filter (okD found)).map id = (ys.filter fun y => !decide (y ∈ found) && !decide (y ∈ forb)).map D.str := by
  rw [List.map_id, List.filter_map]
  rfl
theorem names_turn {n B : Nat} {h : Hh} (hb : BoxAt h n B) (hB : B + 10 < 2 ^ 29) (m : Int) (found : List Str) (fl : found.length ≤ 2) (nm : ∀ x ∈ found, NameS x) (k : Int) (s6 s8 : Slot) {Q : Fl → S → Prop} {E : XQ}
    (q : ∀ (y : Str) (s6 s8 : Slot) (h' : Hh), NameS y → y ∉ found → BoxAt h' n (B + 10) → Keep n h h' → Q .next ⟨[.fz (.ref n), .fz (.int m), .fz (.str abc), .ow (.lst ((found ++ [y]).map .str)), .ow (.lst (forb.map .str)), .fz (.int k), s6, .un, s8, .un, .un], h'⟩) :
    wpM l__law_names_5 ⟨[.fz (.ref n), .fz (.int m), .fz (.str abc), .ow (.lst (found.map .str)), .ow (.lst (forb.map .str)), .fz (.int k), s6, .un, s8, .un, .un], h⟩ Q E := by
  unfold l__law_names_5
  refine w_seq (w_asg ?_)
  refine word_draw hb hB _ (by rfl) (by rfl) (by rfl) (by rfl) ?_
  intro x h1 wx hb1 hk1
  walk_at "zgos"
  refine w_seqP (P := fun s => ∃ y h2, WordS y ∧ s = ⟨[.fz (.ref n), .fz (.int m), .fz (.str abc), .ow (.lst (found.map .str)), .ow (.lst (forb.map .str)), .fz (.int k), .fz (.str y), .un, s8, .un, .un], h2⟩ ∧ BoxAt h2 n (B + 10) ∧ Keep n h h2) ?_ ?_
  · have same : ∃ y h2, WordS y ∧ (⟨[.fz (.ref n), .fz (.int m), .fz (.str abc), .ow (.lst (found.map .str)), .ow (.lst (forb.map .str)), .fz (.int k), .fz (.str x), .un, s8, .un, .un], h1⟩ : S) = ⟨[.fz (.ref n), .fz (.int m), .fz (.str abc), .ow (.lst (found.map .str)), .ow (.lst (forb.map .str)), .fz (.int k), .fz (.str y), .un, s8, .un, .un], h2⟩ ∧ BoxAt h2 n (B + 10) ∧ Keep n h h2 := ⟨x, h1, wx, rfl, hb1.mono (by omega), hk1⟩
    walk_at "zgo"
    refine w_opt (ne_nil fun x hx => (nm x hx).1) ?_
    walk_at "zgo"
    rcases List.eq_nil_or_concat found with rfl | ⟨init, last, e0⟩
    · refine w_live rfl ?_
      walk_at "zgo"
      exact same
    · rw [List.concat_eq_append] at e0
      subst e0
      have e : (init ++ [last]).isEmpty = false := by cases init <;> rfl
      have lm : NameS last := nm last (by simp)
      obtain ⟨⟨⟨l1, l2⟩, al⟩, _⟩ := id lm
      obtain ⟨⟨x1, x2⟩, ax⟩ := id wx
      refine w_dead e ?_
      walk_at "zgo"
      refine w_take (by assumption) (by omega) (by decide) (by decide) ?_; intro r3 h3 hr3 hb3 hk3
      walk_at "zgo"
      refine w_iteD (fun hr => ?_) (fun hr => ?_)
      · walk_at "zgo"
        have z : 1 ≤ (last ++ x).length := by rw [len_list, app_list, List.length_append, ← len_list, ← len_list]; omega
        have z2 : (last ++ x).length ≤ sizeLine := by rw [len_list, app_list, List.length_append, ← len_list, ← len_list, sizeLine_eq]; omega
        refine w_opt (g_ixL (d := .str last) (by rw [List.map_append]; exact atI_last)) ?_
        walk_at "zgo"
        refine ⟨_, h3, cut8_word z ?_, rfl, hb3.mono (by omega), hk1.trans hk3⟩
        intro c hc
        rw [app_list] at hc
        rcases List.mem_append.mp hc with hc | hc
        · exact al c hc
        · exact ax c hc
      · walk_at "zgo"
        exact ⟨x, h3, wx, rfl, hb3.mono (by omega), hk1.trans hk3⟩
  · rintro s1 ⟨y, h2, wy, rfl, b2, k2⟩
    obtain ⟨⟨y1, y2⟩, ay⟩ := id wy
    have yi : (cutS y none (some (-1))).length ≤ 8 := by rw [len_list, ini_list, List.length_take, ← len_list]; omega
    walk_at "zgo"
    refine w_lcP (fun _ => true) (fun d => match d with | .str z => D.str (ini y ++ z) | d => d) ?_
    walk_at "zgo"
    refine ⟨_, rfl, ⟨rfl, ?_⟩, ?_, rfl, ?_⟩
    · rw [signs_abc, sizeLine_eq, List.length_map, List.length_range']
      decide
    · intro i d hd
      rw [signs_abc] at hd
      obtain ⟨c, hc, rfl⟩ := List.mem_map.mp (List.mem_of_getElem? hd)
      have ad : addG (.str (cutS y none (some (-1)))) (.str ⟨#[c]⟩) = some (.val (.str (ini y ++ ⟨#[c]⟩))) := g_addS (by rw [chr_len, sizeLine_eq]; omega)
      have sl : slG (.str y) none (some (-1)) = some (.val (.str (cutS y none (some (-1))))) := g_slS (by rw [sizeLine_eq]; omega)
      refine ⟨_, rfl, ?_⟩
      unfold l__law_names_2
      walk_at "zgo"
    · rw [free_list]
      have ad : addG (.lst [.str y]) (.lst ((vars y).map .str)) = some (.new (.lst ((y :: vars y).map .str))) := g_addL (by rw [List.length_map, show (vars y).length = 26 by unfold vars; simp, sizeLine_eq]; simp)
      walk_at "zgo"
      refine w_lcP (okD found) id ?_
      walk_at "zgo"
      refine ⟨⟨rfl, ?_⟩, ?_, rfl, ?_⟩
      · rw [List.length_map, List.length_cons, show (vars y).length = 26 by unfold vars; simp, sizeLine_eq]
        simp
      · intro i d hd
        obtain ⟨c, hc, rfl⟩ := List.mem_map.mp (List.mem_of_getElem? hd)
        refine ⟨_, rfl, ?_⟩
        unfold l__law_names_3 l__law_names_4
        walk_at "zgo"
        refine w_opt (notin_strs (.inl rfl)) ?_
        walk_at "zgo"
        by_cases hf : c ∈ found
        · have e : okD found (.str c) = false := by unfold okD; simp [hf]
          rw [e]
          walk_at "zgo"
        · walk_at "zgo"
          refine w_opt (notin_strs (.inl rfl)) ?_
          have e : okD found (.str c) = !decide (c ∈ forb) := by unfold okD; simp [hf]
          rw [e]
          walk_at "zgo"
          by_cases hg : c ∈ forb
          · rw [decide_eq_true hg]
            walk_at "zgo"
          · rw [decide_eq_false hg]
            walk_at "zgo"
      · rw [ok_list]
        obtain ⟨z, hz, nz⟩ := vars_free y (found ++ forb) (by rw [List.length_append]; show _ + 6 ≤ 25; omega)
        have hz2 : z ∈ (y :: vars y).filter fun y => !decide (y ∈ found) && !decide (y ∈ forb) := by
          rw [List.mem_filter]
          refine ⟨hz, ?_⟩
          rw [List.mem_append, not_or] at nz
          simp [nz.1, nz.2]
        have sub : ∀ w ∈ (y :: vars y).filter fun y => !decide (y ∈ found) && !decide (y ∈ forb), NameS w ∧ w ∉ found := by
          intro w hw
          obtain ⟨h1, h2⟩ := List.mem_filter.mp hw
          simp only [Bool.and_eq_true, Bool.not_eq_true', decide_eq_false_iff_not] at h2
          exact ⟨⟨vars_word wy w h1, h2.2⟩, h2.1⟩
        generalize (y :: vars y).filter (fun y => !decide (y ∈ found) && !decide (y ∈ forb)) = free at hz2 sub
        cases free with
        | nil => exact absurd hz2 List.not_mem_nil
        | cons w t =>
          obtain ⟨nw, fw⟩ := sub w List.mem_cons_self
          walk_at "zgo"
          refine w_opt (g_ixL (d := .str w) (atI_nat (i := 0) rfl)) ?_
          walk_at "zgo"
          have e : found.map D.str ++ [.str w] = (found ++ [w]).map D.str := by rw [List.map_append]; rfl
          rw [e]
          exact q w _ _ h2 nw fw b2 k2
theorem names_ok {n B : Nat} {h : Hh} (hb : BoxAt h n B) (hB : B + 40 < 2 ^ 29) (k : Nat) (hk : k ≤ 3) {Q : W → S → Prop} {E : XQ}
    (q : ∀ (xs : List Str) (h' : Hh), xs.length = k → xs.Nodup → (∀ x ∈ xs, NameS x) → BoxAt h' n (B + 40) → Keep n h h' → Q (.new (.lst (xs.map .str))) ⟨[], h'⟩) : wpM (m__law_names [.ref n, .int k]) ⟨[], h⟩ Q E := by
  unfold m__law_names; refine w_fn ?_; dsimp only [b__law_names, env0, List.map, List.length_cons, List.length_nil, List.replicate_succ, List.replicate_zero, List.cons_append, List.nil_append, Nat.reduceSub, Nat.reduceAdd]
  walk_at "zgo"
  refine ⟨_, rfl, ⟨by omega, by omega⟩, ?_⟩
  refine w_for (fun i s => ∃ (xs : List Str) (s5 s6 s8 : Slot) (h' : Hh), s = ⟨[.fz (.ref n), .fz (.int k), .fz (.str abc), .ow (.lst (xs.map .str)), .ow (.lst (forb.map .str)), s5, s6, .un, s8, .un, .un], h'⟩ ∧ xs.length = i ∧ xs.Nodup ∧ (∀ x ∈ xs, NameS x) ∧ BoxAt h' n (B + 10 * i) ∧ Keep n h h') ?_ ?_ ?_
  · exact ⟨[], .un, .un, .un, h, rfl, rfl, List.nodup_nil, by simp, hb, Keep.refl _ _⟩
  · rintro i d s hd ⟨xs, s5, s6, s8, h', rfl, rfl, nd, nm, b1, k1⟩
    obtain ⟨hlt, rfl⟩ := rangeL_get hd
    refine ⟨_, rfl, ?_⟩
    refine names_turn b1 (by omega) k xs (by omega) nm _ s6 s8 ?_
    intro y s6 s8 h2 ny fy b2 k2
    refine u_next ⟨xs ++ [y], _, _, _, _, rfl, by simp, ?_, ?_, b2.mono (by omega), k1.trans k2⟩
    · rw [List.nodup_append]
      refine ⟨nd, by simp, ?_⟩
      intro a ha b hb e
      rw [List.mem_singleton.mp hb] at e
      exact fy (e ▸ ha)
    · intro x hx
      rcases List.mem_append.mp hx with hx | hx
      · exact nm x hx
      · rw [List.mem_singleton.mp hx]; exact ny
  · rintro s ⟨xs, s5, s6, s8, h', rfl, hl, nd, nm, b1, k1⟩
    rw [rangeL_len] at hl b1
    walk_at "zgo"
    exact q xs h' (by omega) nd nm (b1.mono (by omega)) k1
theorem set_last {h : Hh} {c c' : Cell} : (h ++ [c]).set h.length c' = h ++ [c'] := by
  rw [List.set_append_right _ _ (Nat.le_refl _)]
  simp
theorem get_last {h : Hh} {c : Cell} : (h ++ [c])[h.length]? = some c := by simp
def placesK (xs : List Str) : List Key := xs.map Sum.inr
def placesV (n : Nat) : List D := (List.range n).map fun i => D.int (i : Nat)
def fieldsC (xs : List Str) : Cell := .ins "Fields" ["names", "many", "places"] [.tup (xs.map .str), .int xs.length, .dK (placesK xs) (placesV xs.length)]
theorem fields_init {h : Hh} {xs : List Str} (nd : xs.Nodup) (l1 : 1 ≤ xs.length) (l2 : xs.length ≤ 3) (nm : ∀ x ∈ xs, NameS x) {Q : W → S → Prop} {E : XQ}
    (q : Q (.val .non) ⟨[], h ++ [fieldsC xs]⟩) : wpM (m_Fields_init [.ref h.length, .lst (xs.map .str)]) ⟨[], h ++ [.ins "Fields" [] []]⟩ Q E := by
  have g0 : (h ++ [.ins "Fields" [] []])[h.length]? = some (.ins "Fields" [] []) := get_last
  unfold m_Fields_init; refine w_fn ?_; dsimp only [b_Fields_init, env0, List.map, List.length_cons, List.length_nil, List.replicate_succ, List.replicate_zero, List.cons_append, List.nil_append, Nat.reduceSub, Nat.reduceAdd]
  walk_at "zgo"
  refine w_eq (names_run nd l1 l2 nm _) ?_
  walk_at "zgo"
  refine w_updR ge0 g0 (cl' := .ins "Fields" ["names"] [.tup (xs.map .str)]) (a := ()) rfl ?_
  rw [set_last]
  have g1 : (h ++ [.ins "Fields" ["names"] [.tup (xs.map .str)]])[h.length]? = some (.ins "Fields" ["names"] [.tup (xs.map .str)]) := get_last
  walk_at "zgo"
  refine ⟨_, _, _, _, rfl, rfl, rfl, ?_⟩
  walk_at "zgo"
  rw [List.length_map]
  refine w_updR ge0 g1 (cl' := .ins "Fields" ["names", "many"] [.tup (xs.map .str), .int xs.length]) (a := ()) rfl ?_
  rw [set_last]
  have g2 : (h ++ [.ins "Fields" ["names", "many"] [.tup (xs.map .str), .int xs.length]])[h.length]? = some (.ins "Fields" ["names", "many"] [.tup (xs.map .str), .int xs.length]) := get_last
  walk_at "zgo"
  refine w_dc (fun i ks acc s => s = ⟨[.fz (.ref h.length), .fz (.lst (xs.map .str)), .un, .un], h ++ [.ins "Fields" ["names", "many"] [.tup (xs.map .str), .int xs.length]]⟩ ∧ i ≤ xs.length ∧ ks = placesK (xs.take i) ∧ acc = placesV i) ?_
  walk_at "zgo"
  refine ⟨_, _, _, _, rfl, rfl, rfl, ?_⟩
  walk_at "zgo"
  refine ⟨_, _, rfl, rfl, ⟨rfl, ?_⟩, ⟨rfl, Nat.zero_le _, rfl, rfl⟩, ?_, ?_⟩
  · rw [enumL_len, List.length_map, sizeLine_eq]; omega
  · rintro i d ks acc s hd ⟨rfl, hi, rfl, rfl⟩
    obtain ⟨y, hy, rfl⟩ := enumL_get hd
    have hlt : i < xs.length := by
      have := (List.getElem?_eq_some_iff.mp hy).1
      simpa using this
    have ey : y = .str xs[i] := by
      rw [List.getElem?_map, List.getElem?_eq_getElem hlt] at hy
      exact (Option.some.inj hy).symm
    subst ey
    refine ⟨_, rfl, ?_⟩
    dsimp only [List.set_cons_zero, List.set_cons_succ, Cell.toD]
    unfold l_Fields_init_1 l_Fields_init_2
    walk_at "zgo"
    refine ⟨_, rfl, ?_⟩
    walk_at "zgo"
    have fresh : (Sum.inr xs[i] : Key) ∉ placesK (xs.take i) := by
      intro m
      obtain ⟨y, m1, m2⟩ := List.mem_map.mp m
      cases m2
      have e : xs = xs.take i ++ (xs[i] :: xs.drop (i + 1)) := by rw [← List.drop_eq_getElem_cons hlt, List.take_append_drop]
      rw [e] at nd
      exact (List.nodup_append.mp nd).2.2 _ m1 _ List.mem_cons_self rfl
    have e1 : putKD (Sum.inr xs[i] : Key) (D.int (i : Nat)) (placesK (xs.take i)) (placesV i) = (placesK (xs.take (i + 1)), placesV (i + 1)) := by
      unfold putKD
      rw [if_neg fresh]
      unfold placesK placesV
      rw [List.take_succ_eq_append_getElem hlt, List.map_append, List.range_succ, List.map_append]
      rfl
    rw [Nat.zero_add]
    refine ⟨hlt, ?_, ?_⟩
    · exact congrArg Prod.fst e1
    · exact congrArg Prod.snd e1
  · rintro ks acc s ⟨rfl, _, rfl, rfl⟩
    walk_at "zgo"
    rw [enumL_len, List.length_map, List.take_length]
    refine w_updR ge0 g2 (cl' := fieldsC xs) (a := ()) rfl ?_
    rw [set_last]
    walk_at "zgo"
    exact q
/-- the values that are judged -/
inductive Vk (h : Hh) : D → Prop
  | non : Vk h .non
  | bl (b : Bool) : Vk h (.bl b)
  | int (i : Int) : Vk h (.int i)
  | str (x : Str) : Vk h (.str x)
  | lst (ds : List D) : Vk h (.lst ds)
  | dK (ks : List Key) (ds : List D) : Vk h (.dK ks ds)
  | tup {ds : List D} (l : ds.length ≤ 1000) (k : ∀ d ∈ ds, Vk h d) : Vk h (.tup ds)
  | ref {k : Nat} {ds : List D} (e : h[k]? = some (.lst ds)) : Vk h (.ref k)
def isIntD : D → Bool
  | .int _ => true
  | _ => false
theorem whole_V {h : Hh} {d : D} {Q : W → S → Prop} {E : XQ} (v : Vk h d) (q : Q (.val (.bl (isIntD d))) ⟨[], h⟩) : wpM (m_is_whole [d]) ⟨[], h⟩ Q E := by
  unfold m_is_whole; refine w_fn ?_; dsimp only [b_is_whole, env0, List.map, List.length_cons, List.length_nil, List.replicate_succ, List.replicate_zero, List.cons_append, List.nil_append, Nat.reduceSub, Nat.reduceAdd]
  cases v <;> (walk_at "zgo"; exact q)
theorem lwhole_V {h : Hh} {d : D} {Q : W → S → Prop} {E : XQ} (v : Vk h d) (q : Q (.val (.bl (isIntD d))) ⟨[], h⟩) : wpM (m__law_is_int [d]) ⟨[], h⟩ Q E := by
  unfold m__law_is_int; refine w_fn ?_; dsimp only [b__law_is_int, env0, List.map, List.length_cons, List.length_nil, List.replicate_succ, List.replicate_zero, List.cons_append, List.nil_append, Nat.reduceSub, Nat.reduceAdd]
  cases v <;> (walk_at "zgo"; exact q)
theorem look_places (x : Str) : ∀ (xs : List Str) (k : Nat), lookD (xs.map (Sum.inr : Str → Key)) ((List.range' k xs.length).map fun i => D.int (i : Nat)) (Sum.inr x) = if x ∈ xs then some (.int ((k + xs.idxOf x : Nat) : Int)) else none
  | [], k => rfl
  | y :: xs, k => by
    rw [List.map_cons, List.length_cons, List.range'_succ, List.map_cons]
    unfold lookD
    by_cases e : y = x
    · subst e
      simp
    · have e2 : ¬ (Sum.inr y : Key) = Sum.inr x := fun z => e (Sum.inr.inj z)
      have e3 : (y == x) = false := by simpa using e
      have e4 : ¬ x = y := fun z => e z.symm
      rw [if_neg e2, look_places x xs (k + 1)]
      simp only [List.mem_cons, e4, false_or, List.idxOf_cons, e3, cond_false]
      split
      · congr 2; omega
      · rfl
theorem places_get (xs : List Str) (x : Str) : dgetG (.dK (placesK xs) (placesV xs.length)) (.str x) = some (if x ∈ xs then some (.int (xs.idxOf x : Nat)) else none) := by
  show some (lookD _ _ _) = _
  unfold placesK placesV
  rw [List.range_eq_range', look_places x xs 0, Nat.zero_add]
theorem places_in (xs : List Str) (x : Str) : inA (.str x) (.dK (placesK xs) (placesV xs.length)) = some (decide (x ∈ xs)) := by
  unfold inA
  dsimp only
  rw [places_get]
  by_cases h : x ∈ xs <;> simp [h]
def isFieldD (ns : List Str) : D → Bool
  | .str x => decide (x ∈ ns)
  | _ => false
theorem field_V {h : Hh} {f : Nat} {ns : List Str} {d : D} {Q : W → S → Prop} {E : XQ} (F : h[f]? = some (fieldsC ns)) (v : Vk h d) (q : Q (.val (.bl (isFieldD ns d))) ⟨[], h⟩) : wpM (m_is_field [.ref f, d]) ⟨[], h⟩ Q E := by
  unfold m_is_field; refine w_fn ?_; dsimp only [b_is_field, env0, List.map, List.length_cons, List.length_nil, List.replicate_succ, List.replicate_zero, List.cons_append, List.nil_append, Nat.reduceSub, Nat.reduceAdd]
  cases v with
  | str x =>
    walk_at "zgo"
    refine ⟨_, _, _, _, rfl, rfl, rfl, ?_⟩
    walk_at "zgo"
    refine w_opt (places_in ns x) ?_
    walk_at "zgo"
    exact q
  | _ => walk_at "zgo"; exact q
theorem listed_L {h : Hh} {ds : List D} {Q : W → S → Prop} {E : XQ} (q : Q (.val (.bl true)) ⟨[], h⟩) : wpM (m_is_listed [.lst ds]) ⟨[], h⟩ Q E := by
  unfold m_is_listed; refine w_fn ?_; dsimp only [b_is_listed, env0, List.map, List.length_cons, List.length_nil, List.replicate_succ, List.replicate_zero, List.cons_append, List.nil_append, Nat.reduceSub, Nat.reduceAdd]
  walk_at "zgo"
  exact q
theorem all_bls (f : D → Bool) (ds : List D) : allOf blOf ((ds.filter fun _ => true).map fun d => D.bl (f d)) = some (ds.map f) := by
  induction ds with
  | nil => rfl
  | cons d ds ih => simp only [List.filter_cons_of_pos, List.map_cons, allOf, blOf, ih]
theorem all_bl (f : D → Bool) (ds : List D) : allG [.lst ((ds.filter fun _ => true).map fun d => D.bl (f d))] = some (.val (.bl (ds.all f))) := by
  show (match allOf blOf ((ds.filter fun _ => true).map fun d => D.bl (f d)) with | some ns => some (W.val (.bl (ns.all id))) | none => none) = _
  rw [all_bls]
  simp [List.all_map, Function.comp_def]
theorem wholes_V {h : Hh} {ds : List D} {Q : W → S → Prop} {E : XQ} (l : ds.length ≤ 1000) (v : ∀ d ∈ ds, Vk h d) (q : Q (.val (.bl (ds.all isIntD))) ⟨[], h⟩) : wpM (m_are_whole [.lst ds]) ⟨[], h⟩ Q E := by
  unfold m_are_whole; refine w_fn ?_; dsimp only [b_are_whole, env0, List.map, List.length_cons, List.length_nil, List.replicate_succ, List.replicate_zero, List.cons_append, List.nil_append, Nat.reduceSub, Nat.reduceAdd]
  walk_at "zgo"
  refine listed_L ?_
  walk_at "zgo"
  refine w_lcP (fun _ => true) (fun d => .bl (isIntD d)) ?_
  walk_at "zgo"
  refine ⟨⟨rfl, by rw [sizeLine_eq]; omega⟩, ?_, rfl, ?_⟩
  · intro i d hd
    refine ⟨_, rfl, ?_⟩
    dsimp only [List.set_cons_zero, List.set_cons_succ, Cell.toD]
    unfold l_are_whole_1
    walk_at "zgo"
    refine whole_V (v d (List.mem_of_getElem? hd)) ?_
    walk_at "zgo"
  · walk_at "zgo"
    refine w_opt (all_bl isIntD ds) ?_
    walk_at "zgo"
    exact q
theorem g_tabIn {x w : Str} {tbl : List (Str × Int)} : tabIn x tbl (.str w) (.cls x) = some (tbl.lookup w).isSome := if_pos rfl
theorem g_tabIx {x w : Str} {tbl : List (Str × Int)} {i : Int} (h : tbl.lookup w = some i) : tabIx x tbl (.cls x) (.str w) = some (.val (.int i)) := by
  show (if x = x then (tbl.lookup w).map (fun i => W.val (.int i)) else none) = _
  rw [if_pos rfl, h]
  rfl
theorem ix0 {a : D} {r : List D} : ixG (.lst (a :: r)) (.int 0) = some (.val a) := g_ixL (atI_nat (i := 0) rfl)
theorem ixT0 {a : D} {r : List D} : ixG (.tup (a :: r)) (.int 0) = some (.val a) := g_ixT (atI_nat (i := 0) rfl)
theorem ixT1 {a b : D} {r : List D} : ixG (.tup (a :: b :: r)) (.int 1) = some (.val b) := g_ixT (atI_nat (i := 1) rfl)
theorem ixT2 {a b c : D} {r : List D} : ixG (.tup (a :: b :: c :: r)) (.int 2) = some (.val c) := g_ixT (atI_nat (i := 2) rfl)
theorem ixT3 {a b c d : D} {r : List D} : ixG (.tup (a :: b :: c :: d :: r)) (.int 3) = some (.val d) := g_ixT (atI_nat (i := 3) rfl)
theorem cut1 {a : D} {r : List D} : cutL (a :: r) (some 1) none = r := by
  have e : HT.sIx (r.length + 1) 0 (some 1) = 1 := (HT.sIx_nat (r.length + 1) 0 1).trans (by omega)
  show ((a :: r).drop (HT.sIx (r.length + 1) 0 (some 1))).take (HT.sIx (r.length + 1) (r.length + 1) none - HT.sIx (r.length + 1) 0 (some 1)) = _
  rw [e]
  show r.take (r.length + 1 - 1) = r
  rw [Nat.add_sub_cancel, List.take_length]
def plainJ (ns : List Str) (w : Str) (r : List D) : Bool :=
  if w = "is" then (match r with | [a, b] => isFieldD ns a && isIntD b | _ => false)
  else if w = "from" then (match r with | [a, b, c] => isFieldD ns a && (isIntD b && isIntD c) | _ => false)
  else decide (w = "any") && r.isEmpty
theorem plain_V {h : Hh} {f : Nat} {ns : List Str} {w : Str} {r : List D} {Q : W → S → Prop} {E : XQ} (F : h[f]? = some (fieldsC ns)) (l : r.length ≤ 1000) (v : ∀ d ∈ r, Vk h d) (q : Q (.val (.bl (plainJ ns w r))) ⟨[], h⟩) : wpM (m_is_plain [.ref f, .str w, .lst r]) ⟨[], h⟩ Q E := by
  unfold m_is_plain; refine w_fn ?_; dsimp only [b_is_plain, env0, List.map, List.length_cons, List.length_nil, List.replicate_succ, List.replicate_zero, List.cons_append, List.nil_append, Nat.reduceSub, Nat.reduceAdd]
  walk_at "zgo"
  refine w_opt g_tabIn ?_
  by_cases h1 : w = "is"
  · subst h1
    have e : tbl_INTEGERS_WITHIN.lookup ("is" : Str) = some 1 := by decide +kernel
    refine w_live (by rw [e]; rfl) ?_
    walk_at "zgo"
    refine w_opt (g_tabIx e) ?_
    walk_at "zgo"
    by_cases hl : (r.length : Int) = 1 + 1
    · match r, hl with
      | [a, b], hl =>
        walk_at "zgo"
        refine w_opt ix0 ?_
        walk_at "zgo"
        refine field_V F (v a (by simp)) ?_
        walk_at "zgo"
        have e3 : plainJ ns "is" [a, b] = (isFieldD ns a && isIntD b) := rfl
        rw [e3] at q
        cases hf : isFieldD ns a with
        | false =>
          rw [hf] at q
          walk_at "zgo"
          exact q
        | true =>
          rw [hf] at q
          walk_at "zgo"
          rw [cut1]
          refine wholes_V (by simp) (fun d hd => v d (by simp at hd; simp [hd])) ?_
          walk_at "zgo"
          simpa using q
    · walk_at "zgo"
      have e3 : plainJ ns "is" r = false := by
        match r, hl with
        | [], _ => rfl
        | [_], _ => rfl
        | [_, _], hl => exact absurd rfl hl
        | _ :: _ :: _ :: _, _ => rfl
      rw [e3] at q
      rw [decide_eq_false hl]
      exact q
  · by_cases h2 : w = "from"
    · subst h2
      have e : tbl_INTEGERS_WITHIN.lookup ("from" : Str) = some 2 := by decide +kernel
      refine w_live (by rw [e]; rfl) ?_
      walk_at "zgo"
      refine w_opt (g_tabIx e) ?_
      walk_at "zgo"
      have ne : ¬ (("from" : Str) = "is") := by decide +kernel
      by_cases hl : (r.length : Int) = 2 + 1
      · match r, hl with
        | [a, b, c], hl =>
          walk_at "zgo"
          refine w_opt ix0 ?_
          walk_at "zgo"
          refine field_V F (v a (by simp)) ?_
          walk_at "zgo"
          have e3 : plainJ ns "from" [a, b, c] = (isFieldD ns a && (isIntD b && isIntD c)) := by
            unfold plainJ
            rw [if_neg ne, if_pos rfl]
          rw [e3] at q
          cases hf : isFieldD ns a with
          | false =>
            rw [hf] at q
            walk_at "zgo"
            exact q
          | true =>
            rw [hf] at q
            walk_at "zgo"
            rw [cut1]
            refine wholes_V (by simp) (fun d hd => v d (by simp at hd; rcases hd with rfl | rfl <;> simp)) ?_
            walk_at "zgo"
            simpa using q
      · walk_at "zgo"
        have e3 : plainJ ns "from" r = false := by
          unfold plainJ
          rw [if_neg ne, if_pos rfl]
          match r, hl with
          | [], _ => rfl
          | [_], _ => rfl
          | [_, _], _ => rfl
          | [_, _, _], hl => exact absurd rfl hl
          | _ :: _ :: _ :: _ :: _, _ => rfl
        rw [e3] at q
        rw [decide_eq_false hl]
        exact q
    · have e : tbl_INTEGERS_WITHIN.lookup w = none := by
        show (match w == "is" with | true => some (1 : Int) | false => (match w == "from" with | true => some 2 | false => none)) = none
        rw [show (w == "is") = false by simpa using h1, show (w == "from") = false by simpa using h2]
      refine w_dead (by rw [e]; rfl) ?_
      walk_at "zgo"
      have e3 : plainJ ns w r = (decide (w = "any") && r.isEmpty) := by
        unfold plainJ
        rw [if_neg h1, if_neg h2]
      rw [e3] at q
      by_cases h3 : w = "any"
      · subst h3
        walk_at "zgo"
        have e4 : decide ((r.length : Int) = 0) = r.isEmpty := by cases r <;> simp <;> omega
        rw [e4]
        simpa using q
      · walk_at "zgo"
        rw [decide_eq_false h3] at q ⊢
        exact q
def one1 (g : D → Bool) : List D → Bool
  | [a] => g a
  | _ => false
def two2 (g : D → Bool) : List D → Bool
  | [a, b] => g a && g b
  | _ => false
theorem one1_all {g : D → Bool} {r : List D} (h : (r.length : Int) = 1) : r.all g = one1 g r := by
  match r, h with
  | [a], _ => simp [one1]
theorem one1_no {g : D → Bool} {r : List D} (h : ¬ (r.length : Int) = 1) : one1 g r = false := by
  match r, h with
  | [], _ => rfl
  | [_], h => exact absurd rfl h
  | _ :: _ :: _, _ => rfl
theorem two2_all {g : D → Bool} {r : List D} (h : (r.length : Int) = 2) : r.all g = two2 g r := by
  match r, h with
  | [a, b], _ => simp [two2]
theorem two2_no {g : D → Bool} {r : List D} (h : ¬ (r.length : Int) = 2) : two2 g r = false := by
  match r, h with
  | [], _ => rfl
  | [_], _ => rfl
  | [_, _], h => exact absurd rfl h
  | _ :: _ :: _ :: _, _ => rfl
/-- whether a value is a test of at most a depth -/
def J (ns : List Str) : Nat → D → Bool
  | 0, _ => false
  | n + 1, d => match d with
    | .tup (.str w :: r) => if w = "not" then one1 (J ns n) r
      else if w = "all" ∨ w = "some" then two2 (J ns n) r
      else plainJ ns w r
    | _ => false
theorem J_no {ns : List Str} {n : Nat} {d : D} (h : ∀ w r, d ≠ .tup (.str w :: r)) : J ns n d = false := by
  cases n with
  | zero => rfl
  | succ n =>
    unfold J
    split
    · exact absurd rfl (h _ _)
    · rfl
theorem is_test_eq {fuel : Nat} : m_is_test_of (fuel + 1) = fnM 6 (b_is_test_of (m_is_test_of fuel)) := rfl
theorem tw_none {w : Str} (h1 : ¬ w = "not") (h2 : ¬ (w = "all" ∨ w = "some")) : tbl_TESTS_WITHIN.lookup w = none := by
  show (match w == "all" with | true => some (2 : Int) | false => (match w == "some" with | true => some 2 | false => (match w == "not" with | true => some 1 | false => none))) = none
  rw [show (w == "all") = false by simpa using fun z => h2 (.inl z), show (w == "some") = false by simpa using fun z => h2 (.inr z), show (w == "not") = false by simpa using h1]
theorem test_prog {h : Hh} {f : Nat} {ns : List Str} (F : h[f]? = some (fieldsC ns)) : ∀ (n fuel : Nat) (d : D) {Q : W → S → Prop} {E : XQ}, n < fuel → n ≤ 100 → Vk h d → Q (.val (.bl (J ns n d))) ⟨[], h⟩ → wpM (m_is_test_of fuel [.ref f, d, .int n]) ⟨[], h⟩ Q E
  | n, 0, d, _, _, hf, _, _, _ => absurd hf (by omega)
  | 0, fuel + 1, d, Q, E, hf, hn, v, q => by
    rw [is_test_eq]
    refine w_fn ?_
    dsimp only [b_is_test_of, env0, List.map, List.length_cons, List.length_nil, List.replicate_succ, List.replicate_zero, List.cons_append, List.nil_append, Nat.reduceSub, Nat.reduceAdd]
    have hz : ((0 : Nat) : Int) = 0 := rfl
    walk_at "zgo"
    exact q
  | n + 1, fuel + 1, d, Q, E, hf, hn, v, q => by
    rw [is_test_eq]
    refine w_fn ?_
    dsimp only [b_is_test_of, env0, List.map, List.length_cons, List.length_nil, List.replicate_succ, List.replicate_zero, List.cons_append, List.nil_append, Nat.reduceSub, Nat.reduceAdd]
    have hz : ¬ ((n + 1 : Nat) : Int) = 0 := by omega
    have no : (∀ w r, d ≠ .tup (.str w :: r)) → Q (.val (.bl false)) ⟨[], h⟩ := fun k => by rw [J_no k] at q; exact q
    cases v with
    | @tup ds l k =>
      cases ds with
      | nil =>
        have hl : (([] : List D).length : Int) = 0 := rfl
        walk_at "zgo"
        exact no (by intro w r e; cases e)
      | cons a r =>
        have hl : ¬ ((a :: r).length : Int) = 0 := by simp; omega
        walk_at "zgo"
        refine w_opt ixT0 ?_
        have va := k a List.mem_cons_self
        cases va with
        | str w =>
          walk_at "zgo"
          rw [List.length_cons] at l
          refine ⟨_, _, .inl rfl, by omega, lt3, ?_⟩
          walk_at "zgo"
          refine w_opt g_tabIn ?_
          have kr : ∀ d ∈ r, Vk h d := fun d hd => k d (List.mem_cons_of_mem _ hd)
          have hsub : ((n + 1 : Nat) : Int) - 1 = (n : Int) := by omega
          have comp : ∀ {Q2 : W → S → Prop} {E2 : XQ}, Q2 (.new (.lst ((r.filter fun _ => true).map fun d => .bl (J ns n d)))) ⟨[.fz (.ref f), .fz (.tup (.str w :: r)), .fz (.int (n + 1 : Nat)), .fz (.str w), .fz (.lst r), .un], h⟩ →
              wpM (lcM [5] (seqI (nameM 4)) (tg1 5) yesM (l_is_test_of_1 (m_is_test_of fuel))) ⟨[.fz (.ref f), .fz (.tup (.str w :: r)), .fz (.int (n + 1 : Nat)), .fz (.str w), .ow (.lst r), .un], h⟩ Q2 E2 := by
            intro Q2 E2 q2
            refine w_lcP (fun _ => true) (fun d => .bl (J ns n d)) ?_
            walk_at "zgo"
            refine ⟨⟨rfl, by rw [sizeLine_eq]; omega⟩, ?_, rfl, q2⟩
            intro i d hd
            refine ⟨_, rfl, ?_⟩
            dsimp only [List.set_cons_zero, List.set_cons_succ, Cell.toD]
            unfold l_is_test_of_1
            walk_at "zgo"
            rw [hsub]
            refine test_prog F n fuel d (by omega) (by omega) (kr d (List.mem_of_getElem? hd)) ?_
            walk_at "zgo"
          by_cases h1 : w = "not"
          · subst h1
            have e : tbl_TESTS_WITHIN.lookup ("not" : Str) = some 1 := by decide +kernel
            refine w_live (by rw [e]; rfl) ?_
            walk_at "zgo"
            refine w_opt (g_tabIx e) ?_
            walk_at "zgo"
            have e3 : J ns (n + 1) (.tup (.str "not" :: r)) = one1 (J ns n) r := by
              unfold J
              dsimp only
              rw [if_pos rfl]
            by_cases hl2 : (r.length : Int) = 1
            · walk_at "zgo"
              refine comp ?_
              walk_at "zgo"
              refine w_opt (all_bl (J ns n) r) ?_
              walk_at "zgo"
              rw [e3, ← one1_all hl2] at q
              exact q
            · walk_at "zgo"
              rw [e3, one1_no hl2] at q
              rw [decide_eq_false hl2]
              exact q
          · by_cases h2 : w = "all" ∨ w = "some"
            · have e : tbl_TESTS_WITHIN.lookup w = some 2 := by rcases h2 with rfl | rfl <;> decide +kernel
              refine w_live (by rw [e]; rfl) ?_
              walk_at "zgo"
              refine w_opt (g_tabIx e) ?_
              walk_at "zgo"
              have e3 : J ns (n + 1) (.tup (.str w :: r)) = two2 (J ns n) r := by
                unfold J
                dsimp only
                rw [if_neg h1, if_pos h2]
              by_cases hl2 : (r.length : Int) = 2
              · walk_at "zgo"
                refine comp ?_
                walk_at "zgo"
                refine w_opt (all_bl (J ns n) r) ?_
                walk_at "zgo"
                rw [e3, ← two2_all hl2] at q
                exact q
              · walk_at "zgo"
                rw [e3, two2_no hl2] at q
                rw [decide_eq_false hl2]
                exact q
            · refine w_dead (by rw [tw_none h1 h2]; rfl) ?_
              walk_at "zgo"
              have e3 : J ns (n + 1) (.tup (.str w :: r)) = plainJ ns w r := by
                unfold J
                dsimp only
                rw [if_neg h1, if_neg h2]
              rw [e3] at q
              refine plain_V F (by omega) kr ?_
              walk_at "zgo"
              exact q
        | _ => walk_at "zgo"; exact no (by intro w r e; cases e)
    | _ => walk_at "zgo"; exact no (by intro w r e; cases e)
theorem cut2 {a b : D} {r : List D} : cutL (a :: b :: r) (some 2) none = r := by
  have e : HT.sIx (r.length + 2) 0 (some 2) = 2 := (HT.sIx_nat (r.length + 2) 0 2).trans (by omega)
  show ((a :: b :: r).drop (HT.sIx (r.length + 2) 0 (some 2))).take (HT.sIx (r.length + 2) (r.length + 2) none - HT.sIx (r.length + 2) 0 (some 2)) = _
  rw [e]
  show r.take (r.length + 2 - 2) = r
  rw [Nat.add_sub_cancel, List.take_length]
theorem no_odd (r : List D) : (((r.filter fun d => !isIntD d).map id).isEmpty) = r.all isIntD := by
  induction r with
  | nil => rfl
  | cons a r ih =>
    cases e : isIntD a with
    | true => simp only [List.filter_cons, e, Bool.not_true, Bool.false_eq_true, if_false, ih, List.all_cons, Bool.true_and]
    | false => simp [List.filter_cons, e]
theorem law_test_eq {fuel : Nat} : m__law_is_test (fuel + 1) = fnM 4 (b__law_is_test (m__law_is_test fuel)) := rfl
theorem is2 (w : Str) : inA (.str w) (.lst [.str "is", .str "from"]) = some (decide (w = "is" ∨ w = "from")) := by
  exact (in_strs (ys := ["is", "from"]) (.inl rfl)).trans (by simp)
theorem as2 (w : Str) : inA (.str w) (.lst [.str "all", .str "some"]) = some (decide (w = "all" ∨ w = "some")) := by
  exact (in_strs (ys := ["all", "some"]) (.inl rfl)).trans (by simp)
theorem J_word {ns : List Str} {n : Nat} {w : Str} {r : List D} (h1 : ¬ w = "not") (h2 : ¬ (w = "all" ∨ w = "some")) : J ns (n + 1) (.tup (.str w :: r)) = plainJ ns w r := by
  unfold J
  dsimp only
  rw [if_neg h1, if_neg h2]
theorem test_law {h : Hh} {ns : List Str} (nl : ns.length ≤ 100) : ∀ (n fuel : Nat) (d : D) {Q : W → S → Prop} {E : XQ}, n < fuel → n ≤ 100 → Vk h d → Q (.val (.bl (J ns n d))) ⟨[], h⟩ → wpM (m__law_is_test fuel [.lst (ns.map .str), d, .int n]) ⟨[], h⟩ Q E
  | n, 0, d, _, _, hf, _, _, _ => absurd hf (by omega)
  | n, fuel + 1, d, Q, E, hf, hn, v, q => by
    rw [law_test_eq]
    refine w_fn ?_
    dsimp only [b__law_is_test, env0, List.map, List.length_cons, List.length_nil, List.replicate_succ, List.replicate_zero, List.cons_append, List.nil_append, Nat.reduceSub, Nat.reduceAdd]
    have no : (∀ w r, d ≠ .tup (.str w :: r)) → Q (.val (.bl false)) ⟨[], h⟩ := fun k => by rw [J_no k] at q; exact q
    cases v with
    | @tup ds l k =>
      cases ds with
      | nil =>
        have hl : (([] : List D).length : Int) = 0 := rfl
        walk_at "zgo"
        exact no (by intro w r e; cases e)
      | cons a r =>
        have hl : ¬ ((a :: r).length : Int) = 0 := by simp; omega
        have kr : ∀ d ∈ r, Vk h d := fun d hd => k d (List.mem_cons_of_mem _ hd)
        rw [List.length_cons] at l
        walk_at "zgo"
        cases n with
        | zero =>
          have hz : ((0 : Nat) : Int) = 0 := rfl
          walk_at "zgo"
          exact q
        | succ n =>
        have hz : ¬ ((n + 1 : Nat) : Int) = 0 := by omega
        walk_at "zgo"
        refine w_opt ixT0 ?_
        have va := k a List.mem_cons_self
        cases va with
        | str w =>
          have hlen : (((D.str w) :: r).length : Int) = (r.length : Int) + 1 := by simp
          have hsub : ((n + 1 : Nat) : Int) - 1 = (n : Int) := by omega
          walk_at "zgo"
          refine w_opt ixT0 ?_
          walk_at "zgo"
          by_cases h0 : w = "any"
          · subst h0
            walk_at "zgo"
            rw [J_word (by decide +kernel) (by decide +kernel)] at q
            have e3 : plainJ ns "any" r = r.isEmpty := by
              unfold plainJ
              rw [if_neg (by decide +kernel), if_neg (by decide +kernel)]
              simp
            rw [e3] at q
            have e4 : decide ((((D.str "any") :: r).length : Int) = 1) = r.isEmpty := by
              rw [hlen]
              cases r <;> simp <;> omega
            rw [e4]
            exact q
          · walk_at "zgo"
            refine w_opt ixT0 ?_
            walk_at "zgo"
            refine w_opt (is2 w) ?_
            by_cases h1 : w = "is" ∨ w = "from"
            · rcases h1 with rfl | rfl
              · rw [J_word (by decide +kernel) (by decide +kernel)] at q
                walk_at "zgo"
                refine w_opt ixT0 ?_
                walk_at "zgo"
                by_cases hr : (((D.str "is") :: r).length : Int) = 3
                · match r, hr with
                  | [a, b], hr =>
                    walk_at "zgo"
                    refine w_opt ixT1 ?_
                    have va := kr a List.mem_cons_self
                    have e5 : plainJ ns "is" (a :: [b]) = (isFieldD ns a && [b].all isIntD) := by
                      unfold plainJ
                      rw [if_pos rfl]
                      simp
                    rw [e5] at q
                    cases va with
                    | str x =>
                      walk_at "zgo"
                      refine w_opt ixT1 ?_
                      walk_at "zgo"
                      refine w_opt (notin_strs (ys := ns) (.inl rfl)) ?_
                      by_cases hx : x ∈ ns
                      · rw [decide_eq_true hx]
                        have e6 : isFieldD ns (.str x) = true := decide_eq_true hx
                        rw [e6, Bool.true_and] at q
                        walk_at "zgo"
                        refine w_lcP (fun d => !isIntD d) id ?_
                        walk_at "zgo"
                        rw [cut2]
                        refine ⟨⟨rfl, by rw [sizeLine_eq]; simp⟩, ?_, rfl, ?_⟩
                        · intro i d hd
                          refine ⟨_, rfl, ?_⟩
                          dsimp only [List.set_cons_zero, List.set_cons_succ, Cell.toD]
                          unfold l__law_is_test_1 l__law_is_test_2
                          walk_at "zgo"
                          refine lwhole_V (kr d (List.mem_cons_of_mem _ (List.mem_of_getElem? hd))) ?_
                          walk_at "zgo"
                          cases isIntD d with
                          | true => exact ⟨rfl, rfl⟩
                          | false =>
                            refine p_iteF ?_
                            walk_at "zgo"
                        · walk_at "zgo"
                          rw [no_odd]
                          exact q
                      · rw [decide_eq_false hx]
                        walk_at "zgo"
                        have e6 : isFieldD ns (.str x) = false := decide_eq_false hx
                        rw [e6] at q
                        exact q
                    | _ => walk_at "zgo"; exact q
                · have e7 : plainJ ns "is" r = false := by
                    unfold plainJ
                    rw [if_pos rfl]
                    match r, hr with
                    | [], _ => rfl
                    | [_], _ => rfl
                    | [_, _], hr => exact absurd rfl hr
                    | _ :: _ :: _ :: _, _ => rfl
                  rw [e7] at q
                  rw [decide_eq_false hr]
                  walk_at "zgo"
                  exact q
              · rw [J_word (by decide +kernel) (by decide +kernel)] at q
                have ne : ¬ (("from" : Str) = "is") := by decide +kernel
                walk_at "zgo"
                refine w_opt ixT0 ?_
                walk_at "zgo"
                by_cases hr : (((D.str "from") :: r).length : Int) = 4
                · match r, hr with
                  | [a, b, c], hr =>
                    walk_at "zgo"
                    refine w_opt ixT1 ?_
                    have va := kr a List.mem_cons_self
                    have e5 : plainJ ns "from" (a :: [b, c]) = (isFieldD ns a && [b, c].all isIntD) := by
                      unfold plainJ
                      rw [if_neg ne, if_pos rfl]
                      simp
                    rw [e5] at q
                    cases va with
                    | str x =>
                      walk_at "zgo"
                      refine w_opt ixT1 ?_
                      walk_at "zgo"
                      refine w_opt (notin_strs (ys := ns) (.inl rfl)) ?_
                      by_cases hx : x ∈ ns
                      · rw [decide_eq_true hx]
                        have e6 : isFieldD ns (.str x) = true := decide_eq_true hx
                        rw [e6, Bool.true_and] at q
                        walk_at "zgo"
                        refine w_lcP (fun d => !isIntD d) id ?_
                        walk_at "zgo"
                        rw [cut2]
                        refine ⟨⟨rfl, by rw [sizeLine_eq]; simp⟩, ?_, rfl, ?_⟩
                        · intro i d hd
                          refine ⟨_, rfl, ?_⟩
                          dsimp only [List.set_cons_zero, List.set_cons_succ, Cell.toD]
                          unfold l__law_is_test_1 l__law_is_test_2
                          walk_at "zgo"
                          refine lwhole_V (kr d (List.mem_cons_of_mem _ (List.mem_of_getElem? hd))) ?_
                          walk_at "zgo"
                          cases isIntD d with
                          | true => exact ⟨rfl, rfl⟩
                          | false =>
                            refine p_iteF ?_
                            walk_at "zgo"
                        · walk_at "zgo"
                          rw [no_odd]
                          exact q
                      · rw [decide_eq_false hx]
                        walk_at "zgo"
                        have e6 : isFieldD ns (.str x) = false := decide_eq_false hx
                        rw [e6] at q
                        exact q
                    | _ => walk_at "zgo"; exact q
                · have e7 : plainJ ns "from" r = false := by
                    unfold plainJ
                    rw [if_neg ne, if_pos rfl]
                    match r, hr with
                    | [], _ => rfl
                    | [_], _ => rfl
                    | [_, _], _ => rfl
                    | [_, _, _], hr => exact absurd rfl hr
                    | _ :: _ :: _ :: _ :: _, _ => rfl
                  rw [e7] at q
                  rw [decide_eq_false hr]
                  walk_at "zgo"
                  exact q
            · walk_at "zgo"
              refine w_opt ixT0 ?_
              walk_at "zgo"
              by_cases h2 : w = "not"
              · subst h2
                have e3 : J ns (n + 1) (.tup (.str "not" :: r)) = one1 (J ns n) r := by
                  unfold J
                  dsimp only
                  rw [if_pos rfl]
                rw [e3] at q
                walk_at "zgo"
                by_cases hr : (((D.str "not") :: r).length : Int) = 2
                · match r, hr with
                  | [a], hr =>
                    walk_at "zgo"
                    refine w_opt ixT1 ?_
                    walk_at "zgo"
                    rw [hsub]
                    refine test_law nl n fuel a (by omega) (by omega) (kr a (by simp)) ?_
                    walk_at "zgo"
                    exact q
                · have e7 : one1 (J ns n) r = false := one1_no (by rw [hlen] at hr; omega)
                  rw [e7] at q
                  walk_at "zgo"
                  rw [decide_eq_false hr]
                  exact q
              · walk_at "zgo"
                refine w_opt ixT0 ?_
                walk_at "zgo"
                refine w_opt (as2 w) ?_
                by_cases h3 : w = "all" ∨ w = "some"
                · have e3 : J ns (n + 1) (.tup (.str w :: r)) = two2 (J ns n) r := by
                    unfold J
                    dsimp only
                    rw [if_neg h2, if_pos h3]
                  rw [e3] at q
                  walk_at "zgo"
                  by_cases hr : (((D.str w) :: r).length : Int) = 3
                  · match r, hr with
                    | [a, b], hr =>
                      walk_at "zgo"
                      refine w_opt ixT1 ?_
                      walk_at "zgo"
                      rw [hsub]
                      refine test_law nl n fuel a (by omega) (by omega) (kr a (by simp)) ?_
                      walk_at "zgo"
                      have e8 : two2 (J ns n) [a, b] = (J ns n a && J ns n b) := rfl
                      rw [e8] at q
                      cases ja : J ns n a with
                      | false =>
                        rw [ja] at q
                        walk_at "zgo"
                        exact q
                      | true =>
                        rw [ja] at q
                        walk_at "zgo"
                        refine w_opt ixT2 ?_
                        walk_at "zgo"
                        rw [hsub]
                        refine test_law nl n fuel b (by omega) (by omega) (kr b (by simp)) ?_
                        walk_at "zgo"
                        exact q
                  · have e7 : two2 (J ns n) r = false := two2_no (by rw [hlen] at hr; omega)
                    rw [e7] at q
                    walk_at "zgo"
                    exact q
                · have e9 : plainJ ns w r = false := by
                    unfold plainJ
                    rw [if_neg fun z => h1 (.inl z), if_neg fun z => h1 (.inr z), decide_eq_false h0]
                    rfl
                  rw [J_word h2 h3, e9] at q
                  walk_at "zgo"
                  exact q
        | _ => walk_at "zgo"; exact no (by intro w r e; cases e)
    | _ => walk_at "zgo"; exact no (by intro w r e; cases e)
/-- the value of a field -/
def atF (ns : List Str) (rs : List Int) (x : Str) : Int := rs.getD (ns.idxOf x) 0
inductive TP (ns : List Str) (rs : List Int) : Nat → D → Bool → Prop
  | any {n : Nat} : TP ns rs (n + 1) (.tup [.str "any"]) true
  | is {n : Nat} {x : Str} {i : Int} (h : x ∈ ns) : TP ns rs (n + 1) (.tup [.str "is", .str x, .int i]) (decide (atF ns rs x = i))
  | from {n : Nat} {x : Str} {i j : Int} (h : x ∈ ns) : TP ns rs (n + 1) (.tup [.str "from", .str x, .int i, .int j]) (decide (i ≤ atF ns rs x) && decide (atF ns rs x ≤ j))
  | not {n : Nat} {a : D} {b : Bool} (h : TP ns rs n a b) : TP ns rs (n + 1) (.tup [.str "not", a]) (!b)
  | all {n : Nat} {a c : D} {b d : Bool} (h : TP ns rs n a b) (k : TP ns rs n c d) : TP ns rs (n + 1) (.tup [.str "all", a, c]) (b && d)
  | some {n : Nat} {a c : D} {b d : Bool} (h : TP ns rs n a b) (k : TP ns rs n c d) : TP ns rs (n + 1) (.tup [.str "some", a, c]) (b || d)
theorem isField_ex {ns : List Str} {a : D} (h : isFieldD ns a = true) : ∃ x, a = .str x ∧ x ∈ ns := by
  cases a with
  | str x => exact ⟨x, rfl, of_decide_eq_true h⟩
  | _ => cases h
theorem isInt_ex {a : D} (h : isIntD a = true) : ∃ i, a = .int i := by
  cases a with
  | int i => exact ⟨i, rfl⟩
  | _ => cases h
theorem J_TP {ns : List Str} (rs : List Int) : ∀ (n : Nat) (d : D), J ns n d = true → ∃ b, TP ns rs n d b
  | 0, _, h => by cases h
  | n + 1, d, h => by
    by_cases k : ∀ w r, d ≠ .tup (.str w :: r)
    · rw [J_no k] at h; cases h
    · obtain ⟨w, k⟩ := Classical.not_forall.mp k
      obtain ⟨r, k⟩ := Classical.not_forall.mp k
      have k : d = .tup (.str w :: r) := Classical.not_not.mp k
      subst k
      by_cases h1 : w = "not"
      · subst h1
        have e : J ns (n + 1) (.tup (.str "not" :: r)) = one1 (J ns n) r := by
          unfold J
          dsimp only
          rw [if_pos rfl]
        rw [e] at h
        match r, h with
        | [a], h =>
          obtain ⟨b, t⟩ := J_TP rs n a h
          exact ⟨_, .not t⟩
      · by_cases h2 : w = "all" ∨ w = "some"
        · have e : J ns (n + 1) (.tup (.str w :: r)) = two2 (J ns n) r := by
            unfold J
            dsimp only
            rw [if_neg h1, if_pos h2]
          rw [e] at h
          match r, h with
          | [a, c], h =>
            have h : (J ns n a && J ns n c) = true := h
            rw [Bool.and_eq_true] at h
            obtain ⟨b, t⟩ := J_TP rs n a h.1
            obtain ⟨d, u⟩ := J_TP rs n c h.2
            rcases h2 with rfl | rfl
            · exact ⟨_, .all t u⟩
            · exact ⟨_, .some t u⟩
        · rw [J_word h1 h2] at h
          unfold plainJ at h
          by_cases h3 : w = "is"
          · subst h3
            rw [if_pos rfl] at h
            match r, h with
            | [a, b], h =>
              have h : (isFieldD ns a && isIntD b) = true := h
              rw [Bool.and_eq_true] at h
              obtain ⟨x, rfl, m⟩ := isField_ex h.1
              obtain ⟨i, rfl⟩ := isInt_ex h.2
              exact ⟨_, .is m⟩
          · rw [if_neg h3] at h
            by_cases h4 : w = "from"
            · subst h4
              rw [if_pos rfl] at h
              match r, h with
              | [a, b, c], h =>
                have h : (isFieldD ns a && (isIntD b && isIntD c)) = true := h
                rw [Bool.and_eq_true, Bool.and_eq_true] at h
                obtain ⟨x, rfl, m⟩ := isField_ex h.1
                obtain ⟨i, rfl⟩ := isInt_ex h.2.1
                obtain ⟨j, rfl⟩ := isInt_ex h.2.2
                exact ⟨_, .from m⟩
            · rw [if_neg h4, Bool.and_eq_true] at h
              have e := of_decide_eq_true h.1
              subst e
              match r, h.2 with
              | [], _ => exact ⟨_, .any⟩
theorem ix_places {ns : List Str} {x : Str} (h : x ∈ ns) : ixG (.dK (placesK ns) (placesV ns.length)) (.str x) = some (.val (.int (ns.idxOf x : Nat))) := by
  show (match dgetG (.dK (placesK ns) (placesV ns.length)) (.str x) with | some (some y) => some (W.val y) | _ => none) = _
  rw [places_get, if_pos h]
theorem ix_report {ns : List Str} {rs : List Int} {x : Str} (h : x ∈ ns) (hl : rs.length = ns.length) : ixG (.tup (rs.map .int)) (.int (ns.idxOf x : Nat)) = some (.val (.int (atF ns rs x))) := by
  have lt : ns.idxOf x < rs.length := by rw [hl]; exact List.idxOf_lt_length_iff.mpr h
  refine g_ixT (atI_nat ?_)
  rw [List.getElem?_map, List.getElem?_eq_getElem lt]
  show some (D.int rs[ns.idxOf x]) = _
  unfold atF
  rw [List.getD_eq_getElem?_getD, List.getElem?_eq_getElem lt]
  rfl
theorem ix_index {ns : List Str} {x : Str} (h : x ∈ ns) : indexG (.lst (ns.map .str)) [.str x] = some (.val (.int (ns.idxOf x : Nat))) := by
  have e : ns.findIdx? (· == x) = some (ns.idxOf x) := by
    have lt : ns.idxOf x < ns.length := List.idxOf_lt_length_iff.mpr h
    rw [List.findIdx?_eq_some_iff_getElem]
    refine ⟨lt, ?_, fun j hj => ?_⟩
    · simp
    · have := List.not_of_lt_findIdx (p := (· == x)) (xs := ns) (i := j) hj
      simpa using this
  show (match allOf strOf (ns.map D.str) with | some ys => (match ys.findIdx? (· == x) with | some j => some (W.val (.int (j : Nat))) | none => none) | none => none) = _
  rw [all_strs]
  dsimp only
  rw [e]
theorem value_run {h : Hh} {f : Nat} {ns : List Str} {rs : List Int} {x : Str} {Q : W → S → Prop} {E : XQ} (F : h[f]? = some (fieldsC ns)) (m : x ∈ ns) (hl : rs.length = ns.length) (q : Q (.val (.int (atF ns rs x))) ⟨[], h⟩) :
    wpM (m_value_at [.ref f, .str x, .tup (rs.map .int)]) ⟨[], h⟩ Q E := by
  unfold m_value_at; refine w_fn ?_; dsimp only [b_value_at, env0, List.map, List.length_cons, List.length_nil, List.replicate_succ, List.replicate_zero, List.cons_append, List.nil_append, Nat.reduceSub, Nat.reduceAdd]
  walk_at "zgo"
  refine ⟨_, _, _, _, rfl, rfl, rfl, ?_⟩
  walk_at "zgo"
  refine w_opt (ix_places m) ?_
  walk_at "zgo"
  refine w_opt (ix_report m hl) ?_
  walk_at "zgo"
  exact q
theorem ixL1 {a b : D} {r : List D} : ixG (.lst (a :: b :: r)) (.int 1) = some (.val b) := g_ixL (atI_nat (i := 1) rfl)
theorem ixL2 {a b c : D} {r : List D} : ixG (.lst (a :: b :: c :: r)) (.int 2) = some (.val c) := g_ixL (atI_nat (i := 2) rfl)
theorem does_pass_eq {fuel : Nat} : m_does_pass (fuel + 1) = fnM 5 (b_does_pass (m_does_pass fuel)) := rfl
theorem pass_prog {h : Hh} {f : Nat} {ns : List Str} {rs : List Int} (F : h[f]? = some (fieldsC ns)) (hl : rs.length = ns.length) {n : Nat} {d : D} {b : Bool} (t : TP ns rs n d b) : ∀ (fuel : Nat) {Q : W → S → Prop} {E : XQ}, n ≤ fuel → Q (.val (.bl b)) ⟨[], h⟩ → wpM (m_does_pass fuel [.ref f, d, .tup (rs.map .int)]) ⟨[], h⟩ Q E := by
  have a1 : ¬ (("any" : Str) = "is") := by decide +kernel
  have a2 : ¬ (("any" : Str) = "from") := by decide +kernel
  have a3 : ¬ (("any" : Str) = "all") := by decide +kernel
  have a4 : ¬ (("any" : Str) = "some") := by decide +kernel
  have a5 : ¬ (("any" : Str) = "not") := by decide +kernel
  have b1 : ¬ (("from" : Str) = "is") := by decide +kernel
  have b2 : ¬ (("not" : Str) = "is") := by decide +kernel
  have b3 : ¬ (("not" : Str) = "from") := by decide +kernel
  have b4 : ¬ (("not" : Str) = "all") := by decide +kernel
  have b5 : ¬ (("not" : Str) = "some") := by decide +kernel
  have c1 : ¬ (("all" : Str) = "is") := by decide +kernel
  have c2 : ¬ (("all" : Str) = "from") := by decide +kernel
  have d1 : ¬ (("some" : Str) = "is") := by decide +kernel
  have d2 : ¬ (("some" : Str) = "from") := by decide +kernel
  have d3 : ¬ (("some" : Str) = "all") := by decide +kernel
  have e1 : ("is" : Str) = "is" := rfl
  have e2 : ("from" : Str) = "from" := rfl
  have e3 : ("all" : Str) = "all" := rfl
  have e4 : ("some" : Str) = "some" := rfl
  have e5 : ("not" : Str) = "not" := rfl
  induction t with
  | any =>
    intro fuel Q E hf q
    obtain ⟨fuel, rfl⟩ : ∃ k, fuel = k + 1 := ⟨fuel - 1, by omega⟩
    rw [does_pass_eq]
    refine w_fn ?_
    dsimp only [b_does_pass, env0, List.map, List.length_cons, List.length_nil, List.replicate_succ, List.replicate_zero, List.cons_append, List.nil_append, Nat.reduceSub, Nat.reduceAdd]
    walk_at "zgo"
    refine ⟨_, _, .inl rfl, by simp, lt3, ?_⟩
    walk_at "zgo"
    exact q
  | is m =>
    intro fuel Q E hf q
    obtain ⟨fuel, rfl⟩ : ∃ k, fuel = k + 1 := ⟨fuel - 1, by omega⟩
    rw [does_pass_eq]
    refine w_fn ?_
    dsimp only [b_does_pass, env0, List.map, List.length_cons, List.length_nil, List.replicate_succ, List.replicate_zero, List.cons_append, List.nil_append, Nat.reduceSub, Nat.reduceAdd]
    walk_at "zgo"
    refine ⟨_, _, .inl rfl, by simp, lt3, ?_⟩
    walk_at "zgo"
    refine w_opt ix0 ?_
    walk_at "zgo"
    refine value_run F m hl ?_
    walk_at "zgo"
    refine w_opt ixL1 ?_
    walk_at "zgo"
    exact q
  | «from» m =>
    intro fuel Q E hf q
    obtain ⟨fuel, rfl⟩ : ∃ k, fuel = k + 1 := ⟨fuel - 1, by omega⟩
    rw [does_pass_eq]
    refine w_fn ?_
    dsimp only [b_does_pass, env0, List.map, List.length_cons, List.length_nil, List.replicate_succ, List.replicate_zero, List.cons_append, List.nil_append, Nat.reduceSub, Nat.reduceAdd]
    walk_at "zgo"
    refine ⟨_, _, .inl rfl, by simp, lt3, ?_⟩
    walk_at "zgo"
    refine w_opt ixL1 ?_
    walk_at "zgo"
    refine w_opt ix0 ?_
    walk_at "zgo"
    refine value_run F m hl ?_
    rename_i n x i j
    by_cases hij : i ≤ atF ns rs x
    · rw [decide_eq_true hij, Bool.true_and] at q
      walk_at "zgo"
      refine w_opt ixL2 ?_
      walk_at "zgo"
      exact q
    · rw [decide_eq_false hij, Bool.false_and] at q
      walk_at "zgo"
      exact q
  | @not n a b t ih =>
    intro fuel Q E hf q
    obtain ⟨fuel, rfl⟩ : ∃ k, fuel = k + 1 := ⟨fuel - 1, by omega⟩
    rw [does_pass_eq]
    refine w_fn ?_
    dsimp only [b_does_pass, env0, List.map, List.length_cons, List.length_nil, List.replicate_succ, List.replicate_zero, List.cons_append, List.nil_append, Nat.reduceSub, Nat.reduceAdd]
    walk_at "zgo"
    refine ⟨_, _, .inl rfl, by simp, lt3, ?_⟩
    walk_at "zgo"
    refine w_opt ix0 ?_
    walk_at "zgo"
    refine ih fuel (by omega) ?_
    walk_at "zgo"
    exact q
  | @all n a c b d t u ih ih2 =>
    intro fuel Q E hf q
    obtain ⟨fuel, rfl⟩ : ∃ k, fuel = k + 1 := ⟨fuel - 1, by omega⟩
    rw [does_pass_eq]
    refine w_fn ?_
    dsimp only [b_does_pass, env0, List.map, List.length_cons, List.length_nil, List.replicate_succ, List.replicate_zero, List.cons_append, List.nil_append, Nat.reduceSub, Nat.reduceAdd]
    walk_at "zgo"
    refine ⟨_, _, .inl rfl, by simp, lt3, ?_⟩
    walk_at "zgo"
    refine w_opt ix0 ?_
    walk_at "zgo"
    refine ih fuel (by omega) ?_
    cases b with
    | false => walk_at "zgo"; exact q
    | true =>
      walk_at "zgo"
      refine w_opt ixL1 ?_
      walk_at "zgo"
      refine ih2 fuel (by omega) ?_
      walk_at "zgo"
      exact q
  | @some n a c b d t u ih ih2 =>
    intro fuel Q E hf q
    obtain ⟨fuel, rfl⟩ : ∃ k, fuel = k + 1 := ⟨fuel - 1, by omega⟩
    rw [does_pass_eq]
    refine w_fn ?_
    dsimp only [b_does_pass, env0, List.map, List.length_cons, List.length_nil, List.replicate_succ, List.replicate_zero, List.cons_append, List.nil_append, Nat.reduceSub, Nat.reduceAdd]
    walk_at "zgo"
    refine ⟨_, _, .inl rfl, by simp, lt3, ?_⟩
    walk_at "zgo"
    refine w_opt ix0 ?_
    walk_at "zgo"
    refine ih fuel (by omega) ?_
    cases b with
    | true => walk_at "zgo"; exact q
    | false =>
      walk_at "zgo"
      refine w_opt ixL1 ?_
      walk_at "zgo"
      refine ih2 fuel (by omega) ?_
      walk_at "zgo"
      exact q
theorem law_pass_eq {fuel : Nat} : m__law_passes (fuel + 1) = fnM 7 (b__law_passes (m__law_passes fuel)) := rfl
theorem pass_law {h : Hh} {ns : List Str} {rs : List Int} (hl : rs.length = ns.length) {n : Nat} {d : D} {b : Bool} (t : TP ns rs n d b) : ∀ (fuel : Nat) {Q : W → S → Prop} {E : XQ}, n ≤ fuel → Q (.val (.bl b)) ⟨[], h⟩ → wpM (m__law_passes fuel [.lst (ns.map .str), d, .tup (rs.map .int)]) ⟨[], h⟩ Q E := by
  have a1 : ¬ (("any" : Str) = "is") := by decide +kernel
  have a2 : ¬ (("any" : Str) = "from") := by decide +kernel
  have a3 : ¬ (("any" : Str) = "all") := by decide +kernel
  have a4 : ¬ (("any" : Str) = "some") := by decide +kernel
  have a5 : ¬ (("any" : Str) = "not") := by decide +kernel
  have b1 : ¬ (("from" : Str) = "is") := by decide +kernel
  have b2 : ¬ (("not" : Str) = "is") := by decide +kernel
  have b3 : ¬ (("not" : Str) = "from") := by decide +kernel
  have b4 : ¬ (("not" : Str) = "all") := by decide +kernel
  have b5 : ¬ (("not" : Str) = "some") := by decide +kernel
  have c1 : ¬ (("all" : Str) = "is") := by decide +kernel
  have c2 : ¬ (("all" : Str) = "from") := by decide +kernel
  have d1 : ¬ (("some" : Str) = "is") := by decide +kernel
  have d2 : ¬ (("some" : Str) = "from") := by decide +kernel
  have d3 : ¬ (("some" : Str) = "all") := by decide +kernel
  have e1 : ("is" : Str) = "is" := rfl
  have e2 : ("from" : Str) = "from" := rfl
  have e3 : ("all" : Str) = "all" := rfl
  have e4 : ("some" : Str) = "some" := rfl
  have e5 : ("not" : Str) = "not" := rfl
  have f1 : ¬ (("is" : Str) = "any") := by decide +kernel
  have f2 : ¬ (("from" : Str) = "any") := by decide +kernel
  have f3 : ¬ (("not" : Str) = "any") := by decide +kernel
  have f4 : ¬ (("all" : Str) = "any") := by decide +kernel
  have f5 : ¬ (("some" : Str) = "any") := by decide +kernel
  have f6 : ¬ (("all" : Str) = "not") := by decide +kernel
  have f7 : ¬ (("some" : Str) = "not") := by decide +kernel
  have g1 : ("is" : Str) = "is" ∨ ("is" : Str) = "from" := .inl rfl
  have g2 : ("from" : Str) = "is" ∨ ("from" : Str) = "from" := .inr rfl
  have g3 : ¬ (("not" : Str) = "is" ∨ ("not" : Str) = "from") := by decide +kernel
  have g4 : ¬ (("all" : Str) = "is" ∨ ("all" : Str) = "from") := by decide +kernel
  have g5 : ¬ (("some" : Str) = "is" ∨ ("some" : Str) = "from") := by decide +kernel
  induction t with
  | any =>
    intro fuel Q E hf q
    obtain ⟨fuel, rfl⟩ : ∃ k, fuel = k + 1 := ⟨fuel - 1, by omega⟩
    rw [law_pass_eq]
    refine w_fn ?_
    dsimp only [b__law_passes, env0, List.map, List.length_cons, List.length_nil, List.replicate_succ, List.replicate_zero, List.cons_append, List.nil_append, Nat.reduceSub, Nat.reduceAdd]
    walk_at "zgo"
    refine w_opt ixT0 ?_
    walk_at "zgo"
    exact q
  | is m =>
    intro fuel Q E hf q
    obtain ⟨fuel, rfl⟩ : ∃ k, fuel = k + 1 := ⟨fuel - 1, by omega⟩
    rw [law_pass_eq]
    refine w_fn ?_
    dsimp only [b__law_passes, env0, List.map, List.length_cons, List.length_nil, List.replicate_succ, List.replicate_zero, List.cons_append, List.nil_append, Nat.reduceSub, Nat.reduceAdd]
    walk_at "zgo"
    refine w_opt ixT0 ?_
    walk_at "zgo"
    refine w_opt (is2 _) ?_
    walk_at "zgo"
    refine w_opt ixT1 ?_
    walk_at "zgo"
    refine w_opt (ix_index m) ?_
    walk_at "zgo"
    refine w_opt (ix_report m hl) ?_
    walk_at "zgo"
    refine w_opt ixT2 ?_
    walk_at "zgo"
    exact q
  | «from» m =>
    intro fuel Q E hf q
    obtain ⟨fuel, rfl⟩ : ∃ k, fuel = k + 1 := ⟨fuel - 1, by omega⟩
    rw [law_pass_eq]
    refine w_fn ?_
    dsimp only [b__law_passes, env0, List.map, List.length_cons, List.length_nil, List.replicate_succ, List.replicate_zero, List.cons_append, List.nil_append, Nat.reduceSub, Nat.reduceAdd]
    walk_at "zgo"
    refine w_opt ixT0 ?_
    walk_at "zgo"
    refine w_opt (is2 _) ?_
    walk_at "zgo"
    refine w_opt ixT1 ?_
    walk_at "zgo"
    refine w_opt (ix_index m) ?_
    walk_at "zgo"
    refine w_opt (ix_report m hl) ?_
    walk_at "zgo"
    refine w_opt ixT2 ?_
    walk_at "zgo"
    rename_i n x i j
    by_cases hij : i ≤ atF ns rs x
    · rw [decide_eq_true hij, Bool.true_and] at q
      walk_at "zgo"
      refine w_opt ixT3 ?_
      walk_at "zgo"
      exact q
    · rw [decide_eq_false hij, Bool.false_and] at q
      walk_at "zgo"
      exact q
  | @not n a b t ih =>
    intro fuel Q E hf q
    obtain ⟨fuel, rfl⟩ : ∃ k, fuel = k + 1 := ⟨fuel - 1, by omega⟩
    rw [law_pass_eq]
    refine w_fn ?_
    dsimp only [b__law_passes, env0, List.map, List.length_cons, List.length_nil, List.replicate_succ, List.replicate_zero, List.cons_append, List.nil_append, Nat.reduceSub, Nat.reduceAdd]
    walk_at "zgo"
    refine w_opt ixT0 ?_
    walk_at "zgo"
    refine w_opt (is2 _) ?_
    walk_at "zgo"
    refine w_opt ixT1 ?_
    walk_at "zgo"
    refine ih fuel (by omega) ?_
    walk_at "zgo"
    exact q
  | @all n a c b d t u ih ih2 =>
    intro fuel Q E hf q
    obtain ⟨fuel, rfl⟩ : ∃ k, fuel = k + 1 := ⟨fuel - 1, by omega⟩
    rw [law_pass_eq]
    refine w_fn ?_
    dsimp only [b__law_passes, env0, List.map, List.length_cons, List.length_nil, List.replicate_succ, List.replicate_zero, List.cons_append, List.nil_append, Nat.reduceSub, Nat.reduceAdd]
    walk_at "zgo"
    refine w_opt ixT0 ?_
    walk_at "zgo"
    refine w_opt (is2 _) ?_
    walk_at "zgo"
    refine w_opt ixT1 ?_
    walk_at "zgo"
    refine ih fuel (by omega) ?_
    walk_at "zgo"
    refine w_opt ixT2 ?_
    walk_at "zgo"
    refine ih2 fuel (by omega) ?_
    walk_at "zgo"
    cases b <;> (walk_at "zgo"; exact q)
  | @some n a c b d t u ih ih2 =>
    intro fuel Q E hf q
    obtain ⟨fuel, rfl⟩ : ∃ k, fuel = k + 1 := ⟨fuel - 1, by omega⟩
    rw [law_pass_eq]
    refine w_fn ?_
    dsimp only [b__law_passes, env0, List.map, List.length_cons, List.length_nil, List.replicate_succ, List.replicate_zero, List.cons_append, List.nil_append, Nat.reduceSub, Nat.reduceAdd]
    walk_at "zgo"
    refine w_opt ixT0 ?_
    walk_at "zgo"
    refine w_opt (is2 _) ?_
    walk_at "zgo"
    refine w_opt ixT1 ?_
    walk_at "zgo"
    refine ih fuel (by omega) ?_
    walk_at "zgo"
    refine w_opt ixT2 ?_
    walk_at "zgo"
    refine ih2 fuel (by omega) ?_
    walk_at "zgo"
    cases b <;> (walk_at "zgo"; exact q)
def isRepD (k : Nat) : D → Bool
  | .tup ds => decide (ds.length = k) && ds.all isIntD
  | _ => false
theorem rep_V {h : Hh} {f : Nat} {ns : List Str} {d : D} {Q : W → S → Prop} {E : XQ} (F : h[f]? = some (fieldsC ns)) (v : Vk h d) (q : Q (.val (.bl (isRepD ns.length d))) ⟨[], h⟩) : wpM (m_Fields_is_report [.ref f, d]) ⟨[], h⟩ Q E := by
  unfold m_Fields_is_report; refine w_fn ?_; dsimp only [b_Fields_is_report, env0, List.map, List.length_cons, List.length_nil, List.replicate_succ, List.replicate_zero, List.cons_append, List.nil_append, Nat.reduceSub, Nat.reduceAdd]
  walk_at "zgo"
  refine ⟨_, _, _, _, rfl, rfl, rfl, ?_⟩
  walk_at "zgo"
  unfold m_is_tuple_of
  refine w_fn ?_
  dsimp only [b_is_tuple_of, env0, List.map, List.length_cons, List.length_nil, List.replicate_succ, List.replicate_zero, List.cons_append, List.nil_append, Nat.reduceSub, Nat.reduceAdd]
  cases v with
  | @tup ds l k =>
    walk_at "zgo"
    by_cases hl : (ds.length : Int) = ns.length
    · have e1 : isRepD ns.length (.tup ds) = ds.all isIntD := by
        show (decide _ && _) = _
        rw [decide_eq_true (by omega)]
        rfl
      rw [e1] at q
      walk_at "zgo"
      refine w_lcP (fun _ => true) (fun d => .bl (isIntD d)) ?_
      walk_at "zgo"
      refine ⟨⟨rfl, by rw [sizeLine_eq]; omega⟩, ?_, rfl, ?_⟩
      · intro i d hd
        refine ⟨_, rfl, ?_⟩
        dsimp only [List.set_cons_zero, List.set_cons_succ, Cell.toD]
        unfold l_Fields_is_report_1
        walk_at "zgo"
        refine whole_V (k d (List.mem_of_getElem? hd)) ?_
        walk_at "zgo"
      · walk_at "zgo"
        refine w_opt (all_bl isIntD ds) ?_
        walk_at "zgo"
        exact q
    · have e1 : isRepD ns.length (.tup ds) = false := by
        show (decide _ && _) = _
        rw [decide_eq_false (by omega)]
        rfl
      rw [e1] at q
      walk_at "zgo"
      rw [decide_eq_false hl]
      exact q
  | _ => walk_at "zgo"; exact q
theorem is_test_V {h : Hh} {f : Nat} {ns : List Str} {d : D} {Q : W → S → Prop} {E : XQ} (F : h[f]? = some (fieldsC ns)) (v : Vk h d) (q : Q (.val (.bl (J ns 5 d))) ⟨[], h⟩) : wpM (m_is_test [.ref f, d]) ⟨[], h⟩ Q E := by
  unfold m_is_test; refine w_fn ?_; dsimp only [b_is_test, env0, List.map, List.length_cons, List.length_nil, List.replicate_succ, List.replicate_zero, List.cons_append, List.nil_append, Nat.reduceSub, Nat.reduceAdd]
  walk_at "zgo"
  refine test_prog F 5 8 d (by omega) (by omega) v ?_
  walk_at "zgo"
  exact q
theorem passes_ok {h : Hh} {f : Nat} {ns : List Str} {rs : List Int} {d : D} {b : Bool} {Q : W → S → Prop} {E : XQ} (F : h[f]? = some (fieldsC ns)) (v : Vk h d) (j : J ns 5 d = true) (t : TP ns rs 5 d b) (hl : rs.length = ns.length) (l3 : ns.length ≤ 3) (q : Q (.val (.bl b)) ⟨[], h⟩) :
    wpM (m_passes [.ref f, d, .tup (rs.map .int)]) ⟨[], h⟩ Q E := by
  have vr : Vk h (.tup (rs.map .int)) := .tup (by simp; omega) (fun x hx => by
    obtain ⟨i, _, rfl⟩ := List.mem_map.mp hx
    exact .int i)
  have rep : isRepD ns.length (.tup (rs.map .int)) = true := by
    show (decide _ && _) = _
    rw [decide_eq_true (by simp; omega)]
    simp [List.all_map, Function.comp_def, isIntD]
  unfold m_passes; refine w_fn ?_; dsimp only [b_passes, env0, List.map, List.length_cons, List.length_nil, List.replicate_succ, List.replicate_zero, List.cons_append, List.nil_append, Nat.reduceSub, Nat.reduceAdd]
  walk_at "zgo"
  unfold m_check_test
  refine w_fn ?_
  dsimp only [b_check_test, env0, List.map, List.length_cons, List.length_nil, List.replicate_succ, List.replicate_zero, List.cons_append, List.nil_append, Nat.reduceSub, Nat.reduceAdd]
  walk_at "zgo"
  refine is_test_V F v ?_
  rw [j]
  walk_at "zgo"
  unfold m_check_report
  refine w_fn ?_
  dsimp only [b_check_report, env0, List.map, List.length_cons, List.length_nil, List.replicate_succ, List.replicate_zero, List.cons_append, List.nil_append, Nat.reduceSub, Nat.reduceAdd]
  walk_at "zgo"
  refine ⟨⟨_, _, rfl, by decide +kernel⟩, ?_⟩
  walk_at "zgo"
  refine rep_V F vr ?_
  rw [rep]
  walk_at "zgo"
  refine pass_prog F hl t 8 (by omega) ?_
  walk_at "zgo"
  exact q
theorem passes_badT {h : Hh} {f : Nat} {ns : List Str} {d r : D} {Q : W → S → Prop} {E : XQ} (F : h[f]? = some (fieldsC ns)) (v : Vk h d) (j : J ns 5 d = false) (q : E "InvalidTest" ["given"] [d] ⟨[], h⟩) :
    wpM (m_passes [.ref f, d, r]) ⟨[], h⟩ Q E := by
  unfold m_passes; refine w_fn ?_; dsimp only [b_passes, env0, List.map, List.length_cons, List.length_nil, List.replicate_succ, List.replicate_zero, List.cons_append, List.nil_append, Nat.reduceSub, Nat.reduceAdd]
  walk_at "zgo"
  unfold m_check_test
  refine w_fn ?_
  dsimp only [b_check_test, env0, List.map, List.length_cons, List.length_nil, List.replicate_succ, List.replicate_zero, List.cons_append, List.nil_append, Nat.reduceSub, Nat.reduceAdd]
  walk_at "zgo"
  refine is_test_V F v ?_
  rw [j]
  walk_at "zgo"
  exact q
theorem passes_badR {h : Hh} {f : Nat} {ns : List Str} {d r : D} {Q : W → S → Prop} {E : XQ} (F : h[f]? = some (fieldsC ns)) (v : Vk h d) (j : J ns 5 d = true) (vr : Vk h r) (rep : isRepD ns.length r = false) (q : E "InvalidReport" ["given"] [r] ⟨[], h⟩) :
    wpM (m_passes [.ref f, d, r]) ⟨[], h⟩ Q E := by
  unfold m_passes; refine w_fn ?_; dsimp only [b_passes, env0, List.map, List.length_cons, List.length_nil, List.replicate_succ, List.replicate_zero, List.cons_append, List.nil_append, Nat.reduceSub, Nat.reduceAdd]
  walk_at "zgo"
  unfold m_check_test
  refine w_fn ?_
  dsimp only [b_check_test, env0, List.map, List.length_cons, List.length_nil, List.replicate_succ, List.replicate_zero, List.cons_append, List.nil_append, Nat.reduceSub, Nat.reduceAdd]
  walk_at "zgo"
  refine is_test_V F v ?_
  rw [j]
  walk_at "zgo"
  unfold m_check_report
  refine w_fn ?_
  dsimp only [b_check_report, env0, List.map, List.length_cons, List.length_nil, List.replicate_succ, List.replicate_zero, List.cons_append, List.nil_append, Nat.reduceSub, Nat.reduceAdd]
  walk_at "zgo"
  refine ⟨⟨_, _, rfl, by decide +kernel⟩, ?_⟩
  walk_at "zgo"
  refine rep_V F vr ?_
  rw [rep]
  walk_at "zgo"
  exact q
theorem isM_T : isM isTab "InvalidTest" "ShareError" = ret (.val (.bl true)) := by
  have e2 : isTab.contains (("InvalidTest" : Str), ("ShareError" : Str)) = true := by decide +kernel
  funext s; unfold isM; rw [e2]; rfl
theorem isM_R : isM isTab "InvalidReport" "ShareError" = ret (.val (.bl true)) := by
  have e2 : isTab.contains (("InvalidReport" : Str), ("ShareError" : Str)) = true := by decide +kernel
  funext s; unfold isM; rw [e2]; rfl
theorem fldM_T (v : D) : fldM erTab "InvalidTest" ["given"] [v] "given" = ret (.val v) := by
  have e3 : erTab.contains ("InvalidTest" : Str) = true := by decide +kernel
  have e4 : lookF ["given"] [v] "given" = some v := rfl
  funext s; unfold fldM; rw [e3, e4]; rfl
theorem fldM_R (v : D) : fldM erTab "InvalidReport" ["given"] [v] "given" = ret (.val v) := by
  have e3 : erTab.contains ("InvalidReport" : Str) = true := by decide +kernel
  have e4 : lookF ["given"] [v] "given" = some v := rfl
  funext s; unfold fldM; rw [e3, e4]; rfl
theorem passed_ok {h : Hh} {f : Nat} {ns : List Str} {rs : List Int} {d : D} {b named : Bool} {Q : W → S → Prop} {E : XQ} (F : h[f]? = some (fieldsC ns)) (v : Vk h d) (j : J ns 5 d = true) (t : TP ns rs 5 d b) (hl : rs.length = ns.length) (l3 : ns.length ≤ 3) (q : Q (.new (.lst [.str "told", .bl b])) ⟨[], h⟩) :
    wpM (m__law_passed [.ref f, d, .tup (rs.map .int), .bl named]) ⟨[], h⟩ Q E := by
  unfold m__law_passed; refine w_fn ?_; dsimp only [b__law_passed, env0, List.map, List.length_cons, List.length_nil, List.replicate_succ, List.replicate_zero, List.cons_append, List.nil_append, Nat.reduceSub, Nat.reduceAdd]
  cases named
  · walk_at "zgo"
    refine passes_ok F v j t hl l3 ?_
    walk_at "zgo"
    exact q
  · walk_at "zgo"
    refine passes_ok F v j t hl l3 ?_
    walk_at "zgo"
    exact q
theorem passed_T {h : Hh} {f : Nat} {ns : List Str} {d r : D} {named : Bool} {Q : W → S → Prop} {E : XQ} (F : h[f]? = some (fieldsC ns)) (v : Vk h d) (j : J ns 5 d = false) (q : Q (.new (.lst [.str "test", d, .bl true])) ⟨[], h⟩) :
    wpM (m__law_passed [.ref f, d, r, .bl named]) ⟨[], h⟩ Q E := by
  unfold m__law_passed; refine w_fn ?_; dsimp only [b__law_passed, env0, List.map, List.length_cons, List.length_nil, List.replicate_succ, List.replicate_zero, List.cons_append, List.nil_append, Nat.reduceSub, Nat.reduceAdd]
  cases named
  · walk_at "zgo"
    refine passes_badT F v j ?_
    refine w_dispT (by decide +kernel) (by simp) ?_
    rw [fldM_T, isM_T]
    walk_at "zgo"
    exact q
  · walk_at "zgo"
    refine passes_badT F v j ?_
    refine w_dispT (by decide +kernel) (by simp) ?_
    rw [fldM_T, isM_T]
    walk_at "zgo"
    exact q
theorem passed_R {h : Hh} {f : Nat} {ns : List Str} {d r : D} {named : Bool} {Q : W → S → Prop} {E : XQ} (F : h[f]? = some (fieldsC ns)) (v : Vk h d) (j : J ns 5 d = true) (vr : Vk h r) (rep : isRepD ns.length r = false) (q : Q (.new (.lst [.str "report", r, .bl true])) ⟨[], h⟩) :
    wpM (m__law_passed [.ref f, d, r, .bl named]) ⟨[], h⟩ Q E := by
  unfold m__law_passed; refine w_fn ?_; dsimp only [b__law_passed, env0, List.map, List.length_cons, List.length_nil, List.replicate_succ, List.replicate_zero, List.cons_append, List.nil_append, Nat.reduceSub, Nat.reduceAdd]
  cases named
  · walk_at "zgo"
    refine passes_badR F v j vr rep ?_
    refine w_dispF (by decide +kernel) (w_dispT (by decide +kernel) (by simp) ?_)
    rw [fldM_R, isM_R]
    walk_at "zgo"
    exact q
  · walk_at "zgo"
    refine passes_badR F v j vr rep ?_
    refine w_dispF (by decide +kernel) (w_dispT (by decide +kernel) (by simp) ?_)
    rw [fldM_R, isM_R]
    walk_at "zgo"
    exact q
def vw (h : Hh) : D → Option D
  | .ref k => (h[k]?).map Cell.toD
  | d => some d
theorem w_vw {h : Hh} {e : Env} {d dv : D} {Q : D → S → Prop} {E : XQ} (r : vw h d = some dv) (q : Q dv ⟨e, h⟩) : wpM (viewD d) ⟨e, h⟩ Q E := by
  by_cases k : ∃ k, d = .ref k
  · obtain ⟨k, rfl⟩ := k
    have r : (h[k]?).map Cell.toD = some dv := r
    cases e1 : h[k]? with
    | none => rw [e1] at r; cases r
    | some c =>
      rw [e1] at r
      cases r
      exact w_vdR e1 q
  · have e1 : vw h d = some d := by cases d <;> first | rfl | exact absurd ⟨_, rfl⟩ k
    have e2 : dv = d := by rw [e1] at r; exact (Option.some.inj r).symm
    subst e2
    cases dv <;> first | exact w_eq rfl q | exact absurd ⟨_, rfl⟩ k
theorem judged_V {h : Hh} {f : Nat} {ns : List Str} {d dv : D} {y : Str} {named : Bool} {Q : W → S → Prop} {E : XQ} (F : h[f]? = some (fieldsC ns)) (v : Vk h d) (e1 : vw h d = some dv) (rv : reprQ h [dv] = some (.val (.str y))) (q : Q (.val (.bl (J ns 5 d))) ⟨[], h⟩) :
    wpM (m__law_judged [.ref f, d, .bl named]) ⟨[], h⟩ Q E := by
  unfold m__law_judged; refine w_fn ?_; dsimp only [b__law_judged, env0, List.map, List.length_cons, List.length_nil, List.replicate_succ, List.replicate_zero, List.cons_append, List.nil_append, Nat.reduceSub, Nat.reduceAdd]
  cases named <;> (
    walk_at "zgo"
    refine w_vw e1 ?_
    walk_at "zgo"
    refine ⟨_, rv, ?_⟩
    walk_at "zgo"
    refine is_test_V F v ?_
    walk_at "zgo"
    refine w_vw e1 ?_
    walk_at "zgo"
    refine ⟨_, rv, ?_⟩
    walk_at "zgo"
    refine w_iteDT rfl ?_
    walk_at "zgo"
    exact q)
/-! ## how long the texts of values are -/
theorem piled_le {B : Nat} : ∀ (ts : List Str), (∀ t ∈ ts, t.length ≤ B) → piled ts ≤ ts.length * (B + 2)
  | [], _ => by rw [piled_nil]; omega
  | t :: ts, h => by
    have ih := piled_le ts fun t ht => h t (List.mem_cons_of_mem _ ht)
    have z := h t List.mem_cons_self
    rw [piled_cons, List.length_cons, Nat.add_mul]
    omega
theorem tupText_le (ts : List Str) : (tupleText ts).length ≤ piled ts + 3 := by
  have z : (if ts.length == 1 then (",)" : String) else ")" : String) = ",)" ∨ (if ts.length == 1 then (",)" : String) else ")" : String) = ")" := by split <;> simp
  have l : ((if ts.length == 1 then ",)" else ")" : String) : Str).length ≤ 2 := by
    rcases z with z | z <;> rw [z] <;> decide +kernel
  have one : ("(" : Str).length = 1 := by decide +kernel
  unfold tupleText
  rw [strLen_append, strLen_append, one]
  cases ts with
  | nil =>
    have e : (Str.join ", " []).length = 0 := rfl
    rw [e]
    omega
  | cons t r =>
    have := join_length_add (t :: r) (by simp)
    omega
theorem lstText_le (ts : List Str) : (listText ts).length ≤ piled ts + 3 := by
  have one : ("[" : Str).length = 1 := by decide +kernel
  have two : ("]" : Str).length = 1 := by decide +kernel
  unfold listText
  rw [strLen_append, two]
  cases ts with
  | nil =>
    show ("[" : Str).length + 1 ≤ _
    rw [one]
    omega
  | cons t r =>
    show (textFrom 1 (("[" : Str) ++ (if 0 > 0 then ", " else "" : String) ++ t) r).length + 1 ≤ _
    rw [textFrom_length_pos r 1 _ (by decide), strLen_append, strLen_append, one, piled_cons]
    have e : ((if 0 > 0 then ", " else "" : String) : Str).length = 0 := by decide +kernel
    rw [e]
    omega
/-- pure values, n deep -/
inductive Pu : Nat → D → Prop
  | non {n : Nat} : Pu n .non
  | bl {n : Nat} (b : Bool) : Pu n (.bl b)
  | int {n : Nat} {i : Int} (h : i.natAbs < 10 ^ 25) : Pu n (.int i)
  | str {n : Nat} {x : Str} (h : (reprText x).length ≤ 32) : Pu n (.str x)
  | one {n : Nat} : Pu n (.lst [.int 1])
  | emp {n : Nat} : Pu n (.dK [] [])
  | tup {n : Nat} {ds : List D} (l : ds.length ≤ 5) (k : ∀ d ∈ ds, Pu n d) : Pu (n + 1) (.tup ds)
def U : Nat → Nat
  | 0 => 32
  | n + 1 => 5 * (U n + 2) + 3
theorem U_32 : ∀ n, 32 ≤ U n
  | 0 => Nat.le_refl _
  | n + 1 => by have := U_32 n; show 32 ≤ 5 * (U n + 2) + 3; omega
/-- what repr tells, at any greater fuel -/
structure Rp (h : Hh) (n B : Nat) (d : D) (p : PyData) : Prop where
  at_ : ∀ m, n + 2 ≤ m → pyQ h m d = some p
  sh : p.showable = true
  dep : p.depth ≤ n + 1
  len : p.shown.length ≤ B
theorem Rp.all {h : Hh} {n B : Nat} : ∀ {ds : List D}, (∀ d ∈ ds, ∃ p, Rp h n B d p) → ∃ ps, (∀ m, n + 2 ≤ m → allOf (pyQ h m) ds = some ps) ∧ PyData.showableAll ps = true ∧ PyData.depthAll ps ≤ n + 1 ∧ (∀ t ∈ PyData.shownAll ps, t.length ≤ B) ∧ (PyData.shownAll ps).length = ds.length
  | [], _ => ⟨[], fun _ _ => rfl, by simp [PyData.showableAll], by simp [PyData.depthAll], by simp [PyData.shownAll], by simp [PyData.shownAll]⟩
  | d :: ds, h => by
    obtain ⟨p, r⟩ := h d List.mem_cons_self
    obtain ⟨ps, a1, a2, a3, a4, a5⟩ := Rp.all fun d hd => h d (List.mem_cons_of_mem _ hd)
    refine ⟨p :: ps, fun m hm => ?_, ?_, ?_, ?_, ?_⟩
    · unfold allOf
      rw [r.at_ m hm, a1 m hm]
    · simp [PyData.showableAll, r.sh, a2]
    · simp only [PyData.depthAll]
      have := r.dep
      omega
    · intro t ht
      simp only [PyData.shownAll, List.mem_cons] at ht
      rcases ht with rfl | ht
      · exact r.len
      · exact a4 t ht
    · simp [PyData.shownAll, a5]
theorem Rp.tup {h : Hh} {n B k C : Nat} {ds : List D} (hd : ∀ d ∈ ds, ∃ p, Rp h n B d p) (l : ds.length ≤ k) (hC : k * (B + 2) + 3 ≤ C) : ∃ p, Rp h (n + 1) C (.tup ds) p := by
  obtain ⟨ps, a1, a2, a3, a4, a5⟩ := Rp.all hd
  refine ⟨.tuple ps, fun m hm => ?_, by simpa [PyData.showable] using a2, by simp only [PyData.depth]; omega, ?_⟩
  · obtain ⟨m, rfl⟩ : ∃ j, m = j + 1 := ⟨m - 1, by omega⟩
    show (allOf (pyQ h m) ds).map PyData.tuple = _
    rw [a1 m (by omega)]
    rfl
  · simp only [PyData.shown]
    have z1 := tupText_le (PyData.shownAll ps)
    have z2 := piled_le (PyData.shownAll ps) a4
    rw [a5] at z2
    have z3 : ds.length * (B + 2) ≤ k * (B + 2) := Nat.mul_le_mul_right _ l
    omega
theorem Rp.lst {h : Hh} {n B k C : Nat} {ds : List D} (hd : ∀ d ∈ ds, ∃ p, Rp h n B d p) (l : ds.length ≤ k) (hC : k * (B + 2) + 3 ≤ C) : ∃ p, Rp h (n + 1) C (.lst ds) p := by
  obtain ⟨ps, a1, a2, a3, a4, a5⟩ := Rp.all hd
  refine ⟨.list ps, fun m hm => ?_, by simpa [PyData.showable] using a2, by simp only [PyData.depth]; omega, ?_⟩
  · obtain ⟨m, rfl⟩ : ∃ j, m = j + 1 := ⟨m - 1, by omega⟩
    show (allOf (pyQ h m) ds).map PyData.list = _
    rw [a1 m (by omega)]
    rfl
  · simp only [PyData.shown]
    have z1 := lstText_le (PyData.shownAll ps)
    have z2 := piled_le (PyData.shownAll ps) a4
    rw [a5] at z2
    have z3 : ds.length * (B + 2) ≤ k * (B + 2) := Nat.mul_le_mul_right _ l
    omega
theorem Rp.ref {h : Hh} {n B k C : Nat} {j : Nat} {ds : List D} (e : h[j]? = some (.lst ds)) (hd : ∀ d ∈ ds, ∃ p, Rp h n B d p) (l : ds.length ≤ k) (hC : k * (B + 2) + 3 ≤ C) : ∃ p, Rp h (n + 1) C (.ref j) p := by
  obtain ⟨p, r⟩ := Rp.lst hd l hC
  refine ⟨p, fun m hm => ?_, r.sh, r.dep, r.len⟩
  have z := r.at_ m hm
  obtain ⟨m, rfl⟩ : ∃ j, m = j + 1 := ⟨m - 1, by omega⟩
  show (match h[j]? with | some (.lst ds) => (allOf (pyQ h m) ds).map PyData.list | some (.dK ks ds) => _ | _ => none) = _
  rw [e]
  exact z
theorem Rp.sc {h : Hh} {n B : Nat} {d : D} {p : PyData} (a : ∀ m, pyQ h (m + 1) d = some p) (s : p.showable = true) (dp : p.depth = 0) (l : p.shown.length ≤ B) : Rp h n B d p :=
  ⟨fun m hm => by obtain ⟨m, rfl⟩ : ∃ j, m = j + 1 := ⟨m - 1, by omega⟩; exact a m, s, by omega, l⟩
theorem Pu.rp {h : Hh} : ∀ {n : Nat} {d : D}, Pu n d → ∃ p, Rp h n (U n) d p := by
  intro n d k
  induction k with
  | @non n => exact ⟨.none, .sc (fun _ => rfl) rfl rfl (Nat.le_trans (by decide +kernel) (U_32 n))⟩
  | @bl n b => exact ⟨.bool b, .sc (fun _ => rfl) rfl rfl (Nat.le_trans (by cases b <;> decide +kernel) (U_32 n))⟩
  | @int n i hi =>
    refine ⟨.int i, .sc (fun _ => rfl) ?_ rfl ?_⟩
    · have l : i.natAbs.log2 ≤ 84 := log2_lt (n := i.natAbs) (k := 84) (Nat.lt_of_lt_of_le hi (by decide))
      exact decide_eq_true (by omega)
    · refine Nat.le_trans ?_ (U_32 n)
      have z := int_text_length_le10 (k := 25) (by decide) hi
      simp only [PyData.shown]
      show (Str.ofString (toString i)).length ≤ 32
      rw [ofString_length]
      omega
  | @str n x hx => exact ⟨.str x, .sc (fun _ => rfl) rfl rfl (by simp only [PyData.shown]; exact Nat.le_trans hx (U_32 n))⟩
  | @one n =>
    refine ⟨.list [.int 1], fun m hm => ?_, by decide +kernel, by simp [PyData.depth, PyData.depthAll], Nat.le_trans (by decide +kernel) (U_32 n)⟩
    obtain ⟨m, rfl⟩ : ∃ j, m = j + 2 := ⟨m - 2, by omega⟩
    rfl
  | @emp n => exact ⟨.dict [], fun m hm => by obtain ⟨m, rfl⟩ : ∃ j, m = j + 1 := ⟨m - 1, by omega⟩; rfl, rfl, by simp [PyData.depth, PyData.depthKv], Nat.le_trans (by decide +kernel) (U_32 n)⟩
  | @tup n ds l k ih => exact Rp.tup ih l (Nat.le_refl _)
/-- values with lists of ours within: b is the box, t bounds the lists -/
inductive Mx (h : Hh) (b t : Nat) : Nat → D → Prop
  | pu {n : Nat} {d : D} (p : Pu n d) : Mx h b t n d
  | ref {n k : Nat} {ds : List D} (e : h[k]? = some (.lst ds)) (ne : k ≠ b) (l : ds.length ≤ t) (p : ∀ d ∈ ds, Pu n d) : Mx h b t (n + 1) (.ref k)
  | tup {n : Nat} {ds : List D} (l : ds.length ≤ 5) (k : ∀ d ∈ ds, Mx h b t n d) : Mx h b t (n + 1) (.tup ds)
def UM : Nat → Nat
  | 0 => 32
  | n + 1 => max (20 * (U n + 2) + 3) (5 * (UM n + 2) + 3)
theorem U_UM : ∀ n, U n ≤ UM n
  | 0 => Nat.le_refl _
  | n + 1 => by
    have := U_UM n
    show 5 * (U n + 2) + 3 ≤ max (20 * (U n + 2) + 3) _
    omega
theorem Rp.mono {h : Hh} {n B C : Nat} {d : D} {p : PyData} (r : Rp h n B d p) (l : B ≤ C) : Rp h n C d p := ⟨r.at_, r.sh, r.dep, Nat.le_trans r.len l⟩
theorem Mx.rp {h : Hh} {b t : Nat} (ht : t ≤ 20) {n : Nat} {d : D} (k : Mx h b t n d) : ∃ p, Rp h n (UM n) d p := by
  induction k with
  | @pu n d p =>
    obtain ⟨p, r⟩ := p.rp (h := h)
    exact ⟨p, r.mono (U_UM n)⟩
  | @ref n k ds e ne l p => exact Rp.ref e (fun d hd => (p d hd).rp) (Nat.le_trans l ht) (Nat.le_max_left _ _)
  | @tup n ds l k ih => exact Rp.tup ih l (Nat.le_max_right _ _)
theorem UM_mono {n m : Nat} (h : n ≤ m) : UM n ≤ UM m := by
  induction h with
  | refl => exact Nat.le_refl _
  | @step m _ ih =>
    refine Nat.le_trans ih ?_
    show UM m ≤ max _ (5 * (UM m + 2) + 3)
    omega
theorem Rp.repr {h : Hh} {n : Nat} {d : D} {p : PyData} (r : Rp h n (UM 7) d p) (hn : n ≤ 7) : ∃ y, reprQ h [d] = some (.val (.str y)) := by
  have big : UM 7 ≤ sizeLine := by decide +kernel
  refine ⟨p.shown, ?_⟩
  show (match pyQ h 50 d with | some p => if p.showable = true ∧ p.depth ≤ 60 ∧ p.shown.length ≤ sizeLine then some (W.val (.str p.shown)) else none | none => none) = _
  rw [r.at_ 50 (by omega)]
  dsimp only
  rw [if_pos ⟨r.sh, by have := r.dep; omega, Nat.le_trans r.len big⟩]
theorem Mx.repr {h : Hh} {b t n : Nat} {d : D} (k : Mx h b t n d) (ht : t ≤ 20) (hn : n ≤ 7) : ∃ dv y, vw h d = some dv ∧ reprQ h [dv] = some (.val (.str y)) := by
  have go : ∀ {d : D}, Mx h b t n d → ∃ y, reprQ h [d] = some (.val (.str y)) := fun k => by
    obtain ⟨p, r⟩ := k.rp ht
    exact (r.mono (UM_mono hn)).repr hn
  cases k with
  | pu p =>
    refine ⟨d, (go (.pu p)).choose, ?_, (go (.pu p)).choose_spec⟩
    cases p <;> rfl
  | @ref n k ds e ne l p =>
    obtain ⟨q, r⟩ := Rp.lst (h := h) (C := UM (n + 1)) (fun d hd => (p d hd).rp (h := h)) (Nat.le_trans l ht) (Nat.le_max_left _ _)
    obtain ⟨y, hy⟩ := (r.mono (UM_mono hn)).repr hn
    exact ⟨.lst ds, y, by show (h[k]?).map Cell.toD = _; rw [e]; rfl, hy⟩
  | tup l k => exact ⟨_, (go (.tup l k)).choose, rfl, (go (.tup l k)).choose_spec⟩
theorem Pu.vk {h : Hh} {n : Nat} {d : D} (k : Pu n d) : Vk h d := by
  induction k with
  | non => exact .non
  | bl b => exact .bl b
  | int _ => exact .int _
  | str _ => exact .str _
  | one => exact .lst _
  | emp => exact .dK _ _
  | tup l k ih => exact .tup (by omega) ih
theorem Mx.vk {h : Hh} {b t n : Nat} {d : D} (k : Mx h b t n d) : Vk h d := by
  induction k with
  | pu p => exact p.vk
  | ref e ne l p => exact .ref e
  | tup l k ih => exact .tup (by omega) ih
theorem Pu.up {n m : Nat} {d : D} (k : Pu n d) (l : n ≤ m) : Pu m d := by
  induction k generalizing m with
  | non => exact .non
  | bl b => exact .bl b
  | int h => exact .int h
  | str h => exact .str h
  | one => exact .one
  | emp => exact .emp
  | @tup n ds l2 k ih =>
    obtain ⟨m, rfl⟩ : ∃ j, m = j + 1 := ⟨m - 1, by omega⟩
    exact .tup l2 fun d hd => ih d hd (by omega)
theorem Mx.up {h : Hh} {b t n m : Nat} {d : D} (k : Mx h b t n d) (l : n ≤ m) : Mx h b t m d := by
  induction k generalizing m with
  | pu p => exact .pu (p.up l)
  | ref e ne l2 p =>
    obtain ⟨m, rfl⟩ : ∃ j, m = j + 1 := ⟨m - 1, by omega⟩
    exact .ref e ne l2 fun d hd => (p d hd).up (by omega)
  | tup l2 k ih =>
    obtain ⟨m, rfl⟩ : ∃ j, m = j + 1 := ⟨m - 1, by omega⟩
    exact .tup l2 fun d hd => ih d hd (by omega)
theorem Mx.keep {h h' : Hh} {b t n : Nat} {d : D} (k : Mx h b t n d) (hk : Keep b h h') : Mx h' b t n d := by
  induction k with
  | pu p => exact .pu p
  | ref e ne l p => exact .ref (hk.at ne e) ne l p
  | tup l k ih => exact .tup l ih
theorem Mx.grow {h : Hh} {b t n j : Nat} {d : D} {ds : List D} (k : Mx h b t n d) (e : h[j]? = some (.lst ds)) : Mx (h.set j (.lst (.str "grown" :: ds))) b (t + 1) n d := by
  have pg : ∀ n, Pu n (.str "grown") := fun n => .str (by decide +kernel)
  induction k with
  | pu p => exact .pu p
  | @ref n k xs e2 ne l p =>
    by_cases q : j = k
    · subst q
      rw [e] at e2
      cases e2
      have lt : j < h.length := (List.getElem?_eq_some_iff.mp e).1
      refine .ref (List.getElem?_set_self lt) ne (by rw [List.length_cons]; omega) fun d hd => ?_
      rcases List.mem_cons.mp hd with rfl | hd
      · exact pg n
      · exact p d hd
    · exact .ref (by rw [List.getElem?_set_ne q]; exact e2) ne (by omega) p
  | tup l k ih => exact .tup l ih
theorem g_ins {xs : List D} {d : D} (h : xs.length < sizeLine) : insertG (.lst xs) [.int 0, d] = some (.lst (d :: xs), .non) := by
  show (if xs.length < sizeLine ∧ (0 : Int) ≤ 0 ∧ (0 : Int) < 2 ^ 63 then some (Cell.lst (xs.take (0 : Int).toNat ++ [d] ++ xs.drop (0 : Int).toNat), D.non) else none) = _
  rw [if_pos ⟨h, by omega, by decide⟩]
  rfl
def notL : D → Prop
  | .lst _ => False
  | _ => True
theorem very_V {h : Hh} {b t n : Nat} {d : D} {Q : W → S → Prop} {E : XQ} (k : Mx h b t n d) (ht : t ≤ 19) (hn : n ≤ 7) (nl : notL d) (q0 : Q (.val (.bl true)) ⟨[], h⟩) (q1 : ∀ j ds, d = .ref j → h[j]? = some (.lst ds) → j ≠ b → Q (.val (.bl true)) ⟨[], h.set j (.lst (.str "grown" :: ds))⟩) :
    wpM (m__law_very [d, d]) ⟨[], h⟩ Q E := by
  by_cases isr : ∃ j, d = .ref j
  · obtain ⟨j, rfl⟩ := isr
    cases k with
    | pu p => cases p
    | @ref n _ ds e ne l p =>
      have k : Mx h b t (n + 1) (.ref j) := .ref e ne l p
      obtain ⟨dv, y, e1, rv⟩ := k.repr (by omega) hn
      have e3 : dv = .lst ds := by
        have e1 : (h[j]?).map Cell.toD = some dv := e1
        rw [e] at e1
        exact (Option.some.inj e1).symm
      subst e3
      have k2 := k.grow e
      obtain ⟨dv2, y2, e2, rv2⟩ := k2.repr (by omega) hn
      have lt : j < h.length := (List.getElem?_eq_some_iff.mp e).1
      have e4 : (h.set j (.lst (.str "grown" :: ds)))[j]? = some (.lst (.str "grown" :: ds)) := List.getElem?_set_self lt
      have e5 : dv2 = .lst (.str "grown" :: ds) := by
        have e2 : ((h.set j (.lst (.str "grown" :: ds)))[j]?).map Cell.toD = some dv2 := e2
        rw [e4] at e2
        exact (Option.some.inj e2).symm
      subst e5
      have ey : y = y := rfl
      have ey2 : y2 = y2 := rfl
      have ln : ds.length < sizeLine := by rw [sizeLine_eq]; omega
      unfold m__law_very; refine w_fn ?_; dsimp only [b__law_very, env0, List.map, List.length_cons, List.length_nil, List.replicate_succ, List.replicate_zero, List.cons_append, List.nil_append, Nat.reduceSub, Nat.reduceAdd]
      walk_at "zgo"
      refine ⟨_, rv, ?_⟩
      walk_at "zgo"
      refine ⟨_, rv, ?_⟩
      walk_at "zgo"
      refine w_updR ge1 e (g_ins ln) ?_
      walk_at "zgo"
      refine ⟨_, rv2, ?_⟩
      walk_at "zgo"
      refine ⟨_, rv2, ?_⟩
      walk_at "zgo"
      rw [decide_eq_true ey2]
      exact q1 j ds rfl e ne
  · obtain ⟨dv, y, e1, rv⟩ := k.repr (by omega) hn
    have ev : dv = d := by
      cases d <;> first | exact (Option.some.inj e1).symm | exact absurd ⟨_, rfl⟩ isr
    subst ev
    have ey : y = y := rfl
    cases k with
    | pu p =>
      cases p with
      | one => exact nl.elim
      | _ =>
        unfold m__law_very; refine w_fn ?_; dsimp only [b__law_very, env0, List.map, List.length_cons, List.length_nil, List.replicate_succ, List.replicate_zero, List.cons_append, List.nil_append, Nat.reduceSub, Nat.reduceAdd]
        walk_at "zgo"
        refine ⟨_, rv, ?_⟩
        walk_at "zgo"
        refine ⟨_, rv, ?_⟩
        walk_at "zgo"
        refine ⟨_, rv, ?_⟩
        walk_at "zgo"
        refine ⟨_, rv, ?_⟩
        walk_at "zgo"
        rw [decide_eq_true ey]
        exact q0
    | tup l k =>
      unfold m__law_very; refine w_fn ?_; dsimp only [b__law_very, env0, List.map, List.length_cons, List.length_nil, List.replicate_succ, List.replicate_zero, List.cons_append, List.nil_append, Nat.reduceSub, Nat.reduceAdd]
      walk_at "zgo"
      refine ⟨_, rv, ?_⟩
      walk_at "zgo"
      refine ⟨_, rv, ?_⟩
      walk_at "zgo"
      refine ⟨_, rv, ?_⟩
      walk_at "zgo"
      refine ⟨_, rv, ?_⟩
      walk_at "zgo"
      rw [decide_eq_true ey]
      exact q0
    | ref e ne l p => exact absurd ⟨_, rfl⟩ isr
theorem g_isTT : isG (.bl true) (.bl true) = some true := rfl
theorem g_isFF : isG (.bl false) (.bl false) = some true := rfl
theorem same_bl {h : Hh} {a : Bool} {fuel : Nat} {Q : W → S → Prop} {E : XQ} (q : Q (.val (.bl true)) ⟨[], h⟩) : wpM (m__law_same (fuel + 1) [.bl a, .bl a]) ⟨[], h⟩ Q E := by
  show wpM (fnM 4 (b__law_same (m__law_same fuel)) _) _ _ _
  refine w_fn ?_
  dsimp only [b__law_same, env0, List.map, List.length_cons, List.length_nil, List.replicate_succ, List.replicate_zero, List.cons_append, List.nil_append, Nat.reduceSub, Nat.reduceAdd]
  walk_at "zgo"
  cases a
  · have e0 : isNonD (.bl false) = false := rfl
    rw [e0]
    walk_at "zgo"
    refine w_opt g_isFF ?_
    walk_at "zgo"
    exact q
  · have e0 : isNonD (.bl true) = false := rfl
    rw [e0]
    walk_at "zgo"
    refine w_opt g_isTT ?_
    walk_at "zgo"
    exact q
theorem same_str {h : Hh} {a : Str} {fuel : Nat} {Q : W → S → Prop} {E : XQ} (q : Q (.val (.bl true)) ⟨[], h⟩) : wpM (m__law_same (fuel + 1) [.str a, .str a]) ⟨[], h⟩ Q E := by
  show wpM (fnM 4 (b__law_same (m__law_same fuel)) _) _ _ _
  refine w_fn ?_
  dsimp only [b__law_same, env0, List.map, List.length_cons, List.length_nil, List.replicate_succ, List.replicate_zero, List.cons_append, List.nil_append, Nat.reduceSub, Nat.reduceAdd]
  have ea : a = a := rfl
  walk_at "zgo"
  have e0 : isNonD (.str a) = false := rfl
  rw [e0]
  walk_at "zgo"
  rw [decide_eq_true ea]
  exact q
def Same (h : Hh) (fuel : Nat) (a : D) : Prop := ∀ (Q : W → S → Prop) (E : XQ), Q (.val (.bl true)) ⟨[], h⟩ → wpM (m__law_same fuel [a, a]) ⟨[], h⟩ Q E
theorem same_pair {h : Hh} {a b : D} {fuel : Nat} {Q : W → S → Prop} {E : XQ} (sa : Same h fuel a) (sb : Same h fuel b) (q : Q (.val (.bl true)) ⟨[], h⟩) : wpM (m__law_same (fuel + 1) [.lst [a, b], .lst [a, b]]) ⟨[], h⟩ Q E := by
  show wpM (fnM 4 (b__law_same (m__law_same fuel)) _) _ _ _
  refine w_fn ?_
  dsimp only [b__law_same, env0, List.map, List.length_cons, List.length_nil, List.replicate_succ, List.replicate_zero, List.cons_append, List.nil_append, Nat.reduceSub, Nat.reduceAdd]
  have el : ((([a, b] : List D).length : Nat) : Int) = (([a, b] : List D).length : Nat) := rfl
  walk_at "zgo"
  refine w_lcP (fun _ => false) id ?_
  walk_at "zgo"
  refine ⟨_, rfl, ⟨by simp, by simp⟩, ?_⟩
  refine ⟨⟨rfl, by rw [rangeL_len, sizeLine_eq]; simp⟩, ?_, rfl, ?_⟩
  · intro i d hd
    obtain ⟨hlt, rfl⟩ := rangeL_get hd
    refine ⟨_, rfl, ?_⟩
    dsimp only [List.set_cons_zero, List.set_cons_succ, Cell.toD]
    unfold l__law_same_1 l__law_same_2
    have hi : i = 0 ∨ i = 1 := by simp at hlt; omega
    have ix : ∀ {i : Nat}, i = 0 ∨ i = 1 → ixG (.lst [a, b]) (.int (0 + (i : Int))) = some (.val (if i = 0 then a else b)) := by
      intro i hi
      rcases hi with rfl | rfl
      · exact ix0
      · exact ixL1
    have sab : ∀ {i : Nat}, i = 0 ∨ i = 1 → Same h fuel (if i = 0 then a else b) := by
      intro i hi
      rcases hi with rfl | rfl
      · exact sa
      · exact sb
    walk_at "zgo"
    refine w_opt (ix hi) ?_
    walk_at "zgo"
    refine w_opt (ix hi) ?_
    walk_at "zgo"
    refine sab hi _ _ ?_
    walk_at "zgo"
  · walk_at "zgo"
    have e0 : ((rangeL 0 (([a, b] : List D).length : Int).toNat).filter fun _ => false) = [] := by simp
    rw [e0]
    exact q
theorem w_ixL {xs : List D} {r : Nat} {s : S} {Q : W → S → Prop} {E : XQ} (hr : r < xs.length) (q : ∀ d ∈ xs, Q (.val d) s) : wpM (opt (ixG (.lst xs) (.int (r : Nat)))) s Q E :=
  w_opt (g_ixL (atI_nat (List.getElem?_eq_getElem hr))) (q _ (List.getElem_mem hr))
theorem g_pow {i : Int} {j : Nat} (h : j ≤ 1000 ∧ i.natAbs < 2 ^ 64) : powG (.int i) (.int (j : Nat)) = some (.val (.int (i ^ j))) := by
  show (if (0 : Int) ≤ (j : Nat) ∧ ((j : Nat) : Int) ≤ 1000000 ∧ i.natAbs < 2 ^ 64 then some (W.val (.int (i ^ ((j : Nat) : Int).toNat))) else none) = _
  rw [if_pos ⟨by omega, by omega, h.2⟩]
  rfl
theorem pow6 : powG (.int 10) (.int 6) = some (.val (.int 1000000)) := g_pow (j := 6) ⟨by decide, by decide⟩
theorem pow18 : powG (.int 10) (.int 18) = some (.val (.int 1000000000000000000)) := g_pow (j := 18) ⟨by decide, by decide⟩
theorem pow19 : powG (.int 10) (.int 19) = some (.val (.int 10000000000000000000)) := g_pow (j := 19) ⟨by decide, by decide⟩
theorem pow20 : powG (.int 10) (.int 20) = some (.val (.int 100000000000000000000)) := g_pow (j := 20) ⟨by decide, by decide⟩
def Small (x : Int) : Prop := x.natAbs < 10 ^ 22
def Small1 (x : Int) : Prop := x.natAbs < 10 ^ 21
theorem Small1.s {x : Int} (h : Small1 x) : Small x := Nat.lt_of_lt_of_le h (by decide)
theorem line_run {n B : Nat} {h : Hh} {Q : W → S → Prop} {E : XQ} (hb : BoxAt h n B) (hB : B + 6 < 2 ^ 29) (q : ∀ (ls : List Int) (h' : Hh), ls.length = 5 → (∀ x ∈ ls, Small1 x) → BoxAt h' n (B + 6) → Keep n h h' → Q (.new (.lst (ls.map .int))) ⟨[], h'⟩) :
    wpM (m__law_line [.ref n]) ⟨[], h⟩ Q E := by
  unfold m__law_line; refine w_fn ?_; dsimp only [b__law_line, env0, List.map, List.length_cons, List.length_nil, List.replicate_succ, List.replicate_zero, List.cons_append, List.nil_append, Nat.reduceSub, Nat.reduceAdd]
  walk_at "zgo"
  refine w_opt pow19 ?_
  walk_at "zgo"
  refine w_opt pow20 ?_
  walk_at "zgo"
  refine w_take (by assumption) (by omega) (by decide) (by decide) ?_; intro r h1 hr b1 k1
  walk_at "zgo"
  refine w_ixL (by simp; omega) fun d hd => ?_
  have hd : ∃ a : Int, d = .int a ∧ a.natAbs ≤ 100000000000000000000 := by
    simp only [List.mem_cons, List.not_mem_nil, or_false] at hd
    rcases hd with rfl | rfl | rfl | rfl | rfl | rfl | rfl | rfl <;> exact ⟨_, rfl, by decide⟩
  obtain ⟨a, rfl, ha⟩ := hd
  walk_at "zgo"
  refine ⟨_, rfl, ⟨by omega, by omega⟩, ?_⟩
  refine w_for (fun i s => ∃ (ls : List Int) (a : Int) (s3 : Slot) (h' : Hh), s = ⟨[.fz (.ref n), .fz (.int a), .ow (.lst (ls.map .int)), s3], h'⟩ ∧ ls.length = i ∧ (∀ x ∈ ls, Small1 x) ∧ a.natAbs ≤ 100000000000000000000 + i * 1000000000000000000 ∧ BoxAt h' n (B + 1 + i) ∧ Keep n h h') ?_ ?_ ?_
  · exact ⟨[], a, .un, h1, rfl, rfl, by simp, by omega, b1, k1⟩
  · rintro i d s hd ⟨ls, a, s3, h', rfl, rfl, sm, ha, b2, k2⟩
    obtain ⟨hlt, rfl⟩ := rangeL_get hd
    have hlt : ls.length < 5 := hlt
    have ll : (ls.map D.int).length < sizeLine := by rw [List.length_map, sizeLine_eq]; omega
    refine ⟨_, rfl, ?_⟩
    dsimp only [List.set_cons_zero, List.set_cons_succ, Cell.toD]
    unfold l__law_line_1
    walk_at "zgo"
    refine w_opt pow6 ?_
    walk_at "zgo"
    refine w_opt pow18 ?_
    walk_at "zgo"
    refine w_take (by assumption) (by omega) (by decide) (by decide) ?_; intro r h2 hr b3 k3
    walk_at "zgo"
    refine w_ixL (by simp; omega) fun d hd => ?_
    have hd : ∃ c : Int, d = .int c ∧ 0 ≤ c ∧ c ≤ 1000000000000000000 := by
      simp only [List.mem_cons, List.not_mem_nil, or_false] at hd
      rcases hd with rfl | rfl | rfl | rfl | rfl | rfl <;> exact ⟨_, rfl, by decide, by decide⟩
    obtain ⟨c, rfl, c0, c1⟩ := hd
    walk_at "zgo"
    refine ⟨ls ++ [a], a + c, _, h2, by simp; rfl, by simp, ?_, by omega, b3.mono (by omega), k2.trans k3⟩
    intro x hx
    rcases List.mem_append.mp hx with hx | hx
    · exact sm x hx
    · rw [List.mem_singleton.mp hx]
      unfold Small1
      omega
  · rintro s ⟨ls, a, s3, h', rfl, hl, sm, ha, b2, k2⟩
    rw [rangeL_len] at hl b2
    walk_at "zgo"
    exact q ls h' hl sm (b2.mono (by omega)) k2
theorem rc_one : ∀ c ∈ List.range' 97 26, ∀ q ∈ [34, 39], (PySem.Builtin.Str.reprChar q c).length = 1 := by decide +kernel
theorem quote_in (x : Str) : reprQuote x ∈ [34, 39] := by unfold reprQuote; split <;> simp
theorem word_text {x : Str} (al : ∀ c ∈ x.cps.toList, Let c) : (reprText x).length ≤ x.length + 2 := by
  rw [← reprLen_eq x, ← Array.foldl_toList]
  have go : ∀ (l : List Nat) (m : Nat), (∀ c ∈ l, Let c) → l.foldl (fun n c => n + (PySem.Builtin.Str.reprChar (reprQuote x) c).length) m = m + l.length := by
    intro l
    induction l with
    | nil => intro m _; rfl
    | cons c l ih =>
      intro m hl
      rw [List.foldl_cons, ih _ fun c hc => hl c (List.mem_cons_of_mem _ hc), List.length_cons]
      have lc := hl c List.mem_cons_self
      have := rc_one c (by rw [List.mem_range'_1]; unfold Let at lc; omega) _ (quote_in x)
      omega
  rw [go _ _ al, len_list]
  omega
theorem name_pu {n : Nat} {x : Str} (w : NameS x) : Pu n (.str x) := .str (by
  have := word_text w.1.2
  have := w.1.1.2
  omega)
theorem small_pu {n : Nat} {i : Int} (h : Small i) : Pu n (.int i) := .int (Nat.lt_of_lt_of_le h (by decide))
theorem J_succ {ns : List Str} {m : Nat} {w : Str} {r : List D} : J ns (m + 1) (.tup (.str w :: r)) = if w = "not" then one1 (J ns m) r else if w = "all" ∨ w = "some" then two2 (J ns m) r else plainJ ns w r := rfl
theorem J_mono {ns : List Str} : ∀ {n : Nat} {d : D}, J ns n d = true → J ns (n + 1) d = true
  | 0, _, h => by cases h
  | n + 1, d, h => by
    by_cases k : ∀ w r, d ≠ .tup (.str w :: r)
    · rw [J_no k] at h; cases h
    · obtain ⟨w, k⟩ := Classical.not_forall.mp k
      obtain ⟨r, k⟩ := Classical.not_forall.mp k
      have k : d = .tup (.str w :: r) := Classical.not_not.mp k
      subst k
      have o : ∀ m, J ns (m + 1) (.tup (.str w :: r)) = if w = "not" then one1 (J ns m) r else if w = "all" ∨ w = "some" then two2 (J ns m) r else plainJ ns w r := fun m => rfl
      rw [o] at h ⊢
      split at h
      · rename_i e
        rw [if_pos e]
        match r, h with
        | [a], h => exact J_mono (n := n) h
      · rename_i e
        rw [if_neg e]
        split at h
        · rename_i e
          rw [if_pos e]
          match r, h with
          | [a, b], h =>
            have h : (J ns n a && J ns n b) = true := h
            rw [Bool.and_eq_true] at h
            show (J ns (n + 1) a && J ns (n + 1) b) = true
            rw [J_mono (n := n) h.1, J_mono (n := n) h.2]
            rfl
        · rename_i e
          rw [if_neg e]
          exact h
theorem J_le {ns : List Str} {n m : Nat} {d : D} (l : n ≤ m) (h : J ns n d = true) : J ns m d = true := by
  induction l with
  | refl => exact h
  | step _ ih => exact J_mono ih
def Sc (d : D) : Prop := ((∃ x, d = .str x) ∨ ∃ i, d = .int i) ∧ Pu 0 d
def Pr : Nat → List D → Prop
  | 0, _ => False
  | n + 1, ds => (1 ≤ ds.length ∧ ds.length ≤ 4) ∧ ∀ d ∈ ds, Sc d ∨ ∃ es, d = .tup es ∧ Pr n es
theorem Pr.up : ∀ {n m : Nat} {ds : List D}, Pr n ds → n ≤ m → Pr m ds
  | 0, _, _, h, _ => h.elim
  | n + 1, 0, _, _, l => absurd l (by omega)
  | n + 1, m + 1, ds, ⟨h1, h2⟩, l => ⟨h1, fun d hd => (h2 d hd).imp id fun ⟨es, e, k⟩ => ⟨es, e, k.up (by omega)⟩⟩
/-- a test just so deep -/
structure Tst (ns : List Str) (n : Nat) (d : D) : Prop where
  j : J ns n d = true
  pu : Pu n d
  tup : ∃ ds, d = .tup ds ∧ Pr n ds
theorem Tst.up {ns : List Str} {n m : Nat} {d : D} (t : Tst ns n d) (l : n ≤ m) : Tst ns m d := ⟨J_le l t.j, t.pu.up l, by obtain ⟨ds, e, k⟩ := t.tup; exact ⟨ds, e, k.up l⟩⟩
theorem w_pu (n : Nat) {w : Str} (h : w ∈ [("is" : Str), "from", "any", "all", "some", "not"]) : Pu n (.str w) := .str (by
  have z : ∀ w ∈ [("is" : Str), "from", "any", "all", "some", "not"], (reprText w).length ≤ 32 := by decide +kernel
  exact z w h)
theorem tst_is {ns : List Str} {x : Str} {i : Int} (m : x ∈ ns) (nm : ∀ x ∈ ns, NameS x) (hi : Small i) : Tst ns 1 (.tup [.str "is", .str x, .int i]) := by
  refine ⟨?_, .tup (by simp) ?_, _, rfl, ⟨by simp, by simp⟩, ?_⟩
  · rw [J_succ, if_neg (by decide +kernel), if_neg (by decide +kernel)]
    unfold plainJ
    rw [if_pos rfl]
    simp [isFieldD, isIntD, m]
  · intro d hd
    simp only [List.mem_cons, List.not_mem_nil, or_false] at hd
    rcases hd with rfl | rfl | rfl
    · exact w_pu 0 (by simp)
    · exact name_pu (nm x m)
    · exact small_pu hi
  · intro d hd
    simp only [List.mem_cons, List.not_mem_nil, or_false] at hd
    rcases hd with rfl | rfl | rfl
    · exact .inl ⟨.inl ⟨_, rfl⟩, w_pu 0 (by simp)⟩
    · exact .inl ⟨.inl ⟨_, rfl⟩, name_pu (nm x m)⟩
    · exact .inl ⟨.inr ⟨_, rfl⟩, small_pu hi⟩
theorem tst_from {ns : List Str} {x : Str} {i j : Int} (m : x ∈ ns) (nm : ∀ x ∈ ns, NameS x) (hi : Small i) (hj : Small j) : Tst ns 1 (.tup [.str "from", .str x, .int i, .int j]) := by
  refine ⟨?_, .tup (by simp) ?_, _, rfl, ⟨by simp, by simp⟩, ?_⟩
  · rw [J_succ, if_neg (by decide +kernel), if_neg (by decide +kernel)]
    unfold plainJ
    rw [if_neg (by decide +kernel), if_pos rfl]
    simp [isFieldD, isIntD, m]
  · intro d hd
    simp only [List.mem_cons, List.not_mem_nil, or_false] at hd
    rcases hd with rfl | rfl | rfl | rfl
    · exact w_pu 0 (by simp)
    · exact name_pu (nm x m)
    · exact small_pu hi
    · exact small_pu hj
  · intro d hd
    simp only [List.mem_cons, List.not_mem_nil, or_false] at hd
    rcases hd with rfl | rfl | rfl | rfl
    · exact .inl ⟨.inl ⟨_, rfl⟩, w_pu 0 (by simp)⟩
    · exact .inl ⟨.inl ⟨_, rfl⟩, name_pu (nm x m)⟩
    · exact .inl ⟨.inr ⟨_, rfl⟩, small_pu hi⟩
    · exact .inl ⟨.inr ⟨_, rfl⟩, small_pu hj⟩
theorem tst_any {ns : List Str} : Tst ns 1 (.tup [.str "any"]) := by
  refine ⟨?_, .tup (by simp) ?_, _, rfl, ⟨by simp, by simp⟩, ?_⟩
  · rw [J_succ, if_neg (by decide +kernel), if_neg (by decide +kernel)]
    unfold plainJ
    rw [if_neg (by decide +kernel), if_neg (by decide +kernel)]
    simp
  · intro d hd
    rw [List.mem_singleton.mp hd]
    exact w_pu 0 (by simp)
  · intro d hd
    rw [List.mem_singleton.mp hd]
    exact .inl ⟨.inl ⟨_, rfl⟩, w_pu 0 (by simp)⟩
theorem tst_not {ns : List Str} {n : Nat} {a : D} (t : Tst ns n a) : Tst ns (n + 1) (.tup [.str "not", a]) := by
  refine ⟨?_, .tup (by simp) ?_, _, rfl, ⟨by simp, by simp⟩, ?_⟩
  · rw [J_succ, if_pos rfl]
    exact t.j
  · intro d hd
    simp only [List.mem_cons, List.not_mem_nil, or_false] at hd
    rcases hd with rfl | rfl
    · exact w_pu n (by simp)
    · exact t.pu
  · intro d hd
    simp only [List.mem_cons, List.not_mem_nil, or_false] at hd
    rcases hd with rfl | rfl
    · exact .inl ⟨.inl ⟨_, rfl⟩, w_pu 0 (by simp)⟩
    · exact .inr t.tup
theorem tst_two {ns : List Str} {n : Nat} {a b : D} {w : Str} (hw : w = "all" ∨ w = "some") (t : Tst ns n a) (u : Tst ns n b) : Tst ns (n + 1) (.tup [.str w, a, b]) := by
  refine ⟨?_, .tup (by simp) ?_, _, rfl, ⟨by simp, by simp⟩, ?_⟩
  · rw [J_succ, if_neg (by rcases hw with rfl | rfl <;> decide +kernel), if_pos hw]
    show (J ns n a && J ns n b) = true
    rw [t.j, u.j]
    rfl
  · intro d hd
    simp only [List.mem_cons, List.not_mem_nil, or_false] at hd
    rcases hd with rfl | rfl | rfl
    · exact w_pu n (by rcases hw with rfl | rfl <;> simp)
    · exact t.pu
    · exact u.pu
  · intro d hd
    simp only [List.mem_cons, List.not_mem_nil, or_false] at hd
    rcases hd with rfl | rfl | rfl
    · exact .inl ⟨.inl ⟨_, rfl⟩, w_pu 0 (by rcases hw with rfl | rfl <;> simp)⟩
    · exact .inr t.tup
    · exact .inr u.tup
theorem w_names {ns : List Str} {r : Nat} {s : S} {Q : W → S → Prop} {E : XQ} (hr : r < ns.length) (q : ∀ x ∈ ns, Q (.val (.str x)) s) : wpM (opt (ixG (.lst (ns.map .str)) (.int (r : Nat)))) s Q E :=
  w_ixL (by simpa using hr) fun d hd => by
    obtain ⟨x, hx, rfl⟩ := List.mem_map.mp hd
    exact q x hx
theorem w_lines {ls : List Int} {r : Nat} {s : S} {Q : W → S → Prop} {E : XQ} (hr : r < ls.length) (q : ∀ x ∈ ls, Q (.val (.int x)) s) : wpM (opt (ixG (.lst (ls.map .int)) (.int (r : Nat)))) s Q E :=
  w_ixL (by simpa using hr) fun d hd => by
    obtain ⟨x, hx, rfl⟩ := List.mem_map.mp hd
    exact q x hx
theorem leaf_run {n B : Nat} {h : Hh} {ns : List Str} {ls : List Int} {Q : W → S → Prop} {E : XQ} (hb : BoxAt h n B) (hB : B + 4 < 2 ^ 29) (nl : 1 ≤ ns.length ∧ ns.length ≤ 3) (nm : ∀ x ∈ ns, NameS x) (l5 : ls.length = 5) (sm : ∀ x ∈ ls, Small x)
    (q : ∀ (d : D) (h' : Hh), Tst ns 1 d → BoxAt h' n (B + 4) → Keep n h h' → Q (.val d) ⟨[], h'⟩) : wpM (m__law_leaf [.ref n, .lst (ns.map .str), .lst (ls.map .int)]) ⟨[], h⟩ Q E := by
  unfold m__law_leaf; refine w_fn ?_; dsimp only [b__law_leaf, env0, List.map, List.length_cons, List.length_nil, List.replicate_succ, List.replicate_zero, List.cons_append, List.nil_append, Nat.reduceSub, Nat.reduceAdd]
  walk_at "zgo"
  rw [List.length_map]
  refine w_take hb (by omega) (by omega) (by omega) ?_
  intro r1 h1 hr1 b1 k1
  walk_at "zgo"
  refine w_names (by omega) fun x hx => ?_
  walk_at "zgo"
  refine w_take (by assumption) (by omega) (by decide) (by decide) ?_; intro r2 h2 hr2 b2 k2
  walk_at "zgo"
  refine w_take (by assumption) (by omega) (by decide) (by decide) ?_; intro r3 h3 hr3 b3 k3
  walk_at "zgo"
  refine w_lines (by omega) fun i hi => ?_
  walk_at "zgo"
  refine w_take (by assumption) (by omega) (by decide) (by decide) ?_; intro r4 h4 hr4 b4 k4
  walk_at "zgo"
  refine w_lines (by omega) fun j hj => ?_
  have kk := ((k1.trans k2).trans k3).trans k4
  have bb : BoxAt h4 n (B + 4) := b4.mono (by omega)
  walk_at "zgo"
  by_cases c1 : (r2 : Int) < 2
  · walk_at "zgo"
    exact q _ _ (tst_is hx nm (sm i hi)) bb kk
  · walk_at "zgo"
    by_cases c2 : (r2 : Int) < 6
    · walk_at "zgo"
      by_cases c3 : (r2 : Int) < 5
      · have e1 : minG [.int i, .int j] = some (.val (.int (if j < i then j else i))) := rfl
        have e2 : maxG [.int i, .int j] = some (.val (.int (if i < j then j else i))) := rfl
        walk_at "zgo"
        exact q _ _ (tst_from hx nm (by split; exact sm j hj; exact sm i hi) (by split; exact sm j hj; exact sm i hi)) bb kk
      · walk_at "zgo"
        exact q _ _ (tst_from hx nm (sm i hi) (sm j hj)) bb kk
    · walk_at "zgo"
      exact q _ _ tst_any bb kk
theorem law_tst_eq {fuel : Nat} : m__law_test (fuel + 1) = fnM 7 (b__law_test (m__law_test fuel)) := rfl
def BT : Nat → Nat
  | 0 => 0
  | 1 => 4
  | n + 2 => BT (n + 1) + BT (n + 1) + 10
theorem BT_up : ∀ {n m : Nat}, n ≤ m → BT n ≤ BT m
  | 0, m, _ => Nat.zero_le _
  | n + 1, 0, h => absurd h (by omega)
  | 1, 1, _ => Nat.le_refl _
  | n + 2, 1, h => absurd h (by omega)
  | n + 1, m + 2, h => by
    by_cases e : n + 1 = m + 2
    · rw [e]; exact Nat.le_refl _
    · have z : BT (n + 1) ≤ BT (m + 1) := BT_up (by omega)
      show BT (n + 1) ≤ BT (m + 1) + BT (m + 1) + 10
      omega
theorem test_run {n : Nat} {ns : List Str} {ls : List Int} (nl : 1 ≤ ns.length ∧ ns.length ≤ 3) (nm : ∀ x ∈ ns, NameS x) (l5 : ls.length = 5) (sm : ∀ x ∈ ls, Small x) : ∀ (deep fuel B : Nat) (h : Hh) {Q : W → S → Prop} {E : XQ}, 1 ≤ deep → deep ≤ fuel → deep ≤ 6 → BoxAt h n B → B + BT deep < 2 ^ 29 →
    (∀ (d : D) (h' : Hh), Tst ns deep d → BoxAt h' n (B + BT deep) → Keep n h h' → Q (.val d) ⟨[], h'⟩) → wpM (m__law_test fuel [.ref n, .lst (ns.map .str), .lst (ls.map .int), .int deep]) ⟨[], h⟩ Q E
  | 0, _, _, _, _, _, h0, _, _, _, _, _ => absurd h0 (by omega)
  | _ + 1, 0, _, _, _, _, _, hf, _, _, _, _ => absurd hf (by omega)
  | 1, fuel + 1, B, h, Q, E, _, _, _, hb, hB, q => by
    rw [law_tst_eq]
    refine w_fn ?_
    dsimp only [b__law_test, env0, List.map, List.length_cons, List.length_nil, List.replicate_succ, List.replicate_zero, List.cons_append, List.nil_append, Nat.reduceSub, Nat.reduceAdd]
    have e1 : ((1 : Nat) : Int) = 1 := rfl
    have hB : B + 4 < 2 ^ 29 := hB
    walk_at "zgo"
    refine leaf_run hb hB nl nm l5 sm ?_
    intro d h' t b k
    walk_at "zgo"
    exact q d h' t b k
  | deep + 2, fuel + 1, B, h, Q, E, _, hf, h6, hb, hB, q => by
    rw [law_tst_eq]
    refine w_fn ?_
    dsimp only [b__law_test, env0, List.map, List.length_cons, List.length_nil, List.replicate_succ, List.replicate_zero, List.cons_append, List.nil_append, Nat.reduceSub, Nat.reduceAdd]
    have e1 : ¬ ((deep + 2 : Nat) : Int) = 1 := by omega
    have hB : B + (BT (deep + 1) + BT (deep + 1) + 10) < 2 ^ 29 := hB
    have hs : ((deep + 2 : Nat) : Int) - 1 = ((deep + 1 : Nat) : Int) := by omega
    walk_at "zgo"
    refine w_take (by assumption) (by omega) (by decide) (by decide) ?_; intro r h1 hr b1 k1
    walk_at "zgo"
    refine w_ixL (by simp; omega) fun d hd => ?_
    have hd : ∃ w : Str, d = .str w ∧ (w = "not" ∨ (¬ w = "not" ∧ (w = "all" ∨ w = "some"))) := by
      simp only [List.mem_cons, List.not_mem_nil, or_false] at hd
      rcases hd with rfl | rfl | rfl
      · exact ⟨_, rfl, .inr ⟨by decide +kernel, .inl rfl⟩⟩
      · exact ⟨_, rfl, .inr ⟨by decide +kernel, .inr rfl⟩⟩
      · exact ⟨_, rfl, .inl rfl⟩
    obtain ⟨w, rfl, hw⟩ := hd
    walk_at "zgo"
    rw [hs]
    refine test_run nl nm l5 sm (deep + 1) fuel (B + 1) h1 (by omega) (by omega) (by omega) b1 (by omega) ?_
    intro a h2 ta b2 k2
    walk_at "zgo"
    rcases hw with rfl | ⟨hn, hw⟩
    · walk_at "zgo"
      exact q _ _ (tst_not ta) (b2.mono (by show _ ≤ B + (BT (deep + 1) + BT (deep + 1) + 10); omega)) (k1.trans k2)
    · have e3 : minG [.int 3, .int ((deep + 1 : Nat) : Int)] = some (.val (.int ((min 3 (deep + 1) : Nat) : Int))) := by
        show some (W.val (.int (if ((deep + 1 : Nat) : Int) < 3 then ((deep + 1 : Nat) : Int) else 3))) = _
        congr 3
        split <;> omega
      walk_at "zgo"
      rw [hs]
      refine w_opt e3 ?_
      walk_at "zgo"
      refine w_take b2 (by omega) (by omega) (by omega) ?_
      intro r2 h3 hr2 b3 k3
      walk_at "zgo"
      have e4 : (1 : Int) + (r2 : Nat) = ((1 + r2 : Nat) : Int) := by omega
      rw [e4]
      have lb : BT (1 + r2) ≤ BT (deep + 1) := BT_up (by omega)
      refine test_run nl nm l5 sm (1 + r2) fuel _ h3 (by omega) (by omega) (by omega) b3 (by omega) ?_
      intro c h4 tc b4 k4
      walk_at "zgo"
      refine w_take b4 (by omega) (by decide) (by decide) ?_
      intro r3 h5 hr3 b5 k5
      have kk := (((k1.trans k2).trans k3).trans k4).trans k5
      have bb : BoxAt h5 n (B + BT (deep + 2)) := b5.mono (by show _ ≤ B + (BT (deep + 1) + BT (deep + 1) + 10); omega)
      walk_at "zgo"
      have tc : Tst ns (deep + 1) c := tc.up (by omega)
      by_cases c3 : (r3 : Int) = 0
      · walk_at "zgo"
        exact q _ _ (tst_two hw ta tc) bb kk
      · walk_at "zgo"
        exact q _ _ (tst_two hw tc ta) bb kk
theorem cut_sub {α : Type} {xs : List α} {lo hi : Option Int} : ∀ d ∈ cutL xs lo hi, d ∈ xs := fun d hd => List.mem_of_mem_drop (List.mem_of_mem_take hd)
theorem cut_le {α : Type} {xs : List α} {lo hi : Option Int} : (cutL xs lo hi).length ≤ xs.length := by
  unfold cutL
  rw [List.length_take, List.length_drop]
  omega
theorem cut_head {α : Type} {xs : List α} {k : Nat} : (cutL xs none (some (k : Nat))).length ≤ k := by
  have e : HT.sIx xs.length xs.length (some (k : Nat)) = min k xs.length := HT.sIx_nat xs.length xs.length k
  show ((xs.drop 0).take (HT.sIx xs.length xs.length (some (k : Nat)) - 0)).length ≤ k
  rw [e, List.length_take]
  omega
theorem cut_tail {α : Type} {xs : List α} {k : Nat} (h : k < xs.length) : (cutL xs (some ((k : Int) + 1)) none).length ≤ xs.length - (k + 1) := by
  have e : HT.sIx xs.length 0 (some (((k + 1 : Nat)) : Int)) = min (k + 1) xs.length := HT.sIx_nat xs.length 0 (k + 1)
  have e2 : ((k : Int) + 1) = ((k + 1 : Nat) : Int) := by omega
  rw [e2]
  show ((xs.drop (HT.sIx xs.length 0 (some ((k + 1 : Nat) : Int)))).take _).length ≤ _
  rw [e, List.length_take, List.length_drop]
  omega
theorem cut_last {α : Type} {xs : List α} : (cutL xs (some (-1)) none).length ≤ 1 := by
  have e : HT.sIx xs.length 0 (some (-1)) = xs.length - 1 := by
    show (if (-1 : Int) < 0 then ((-1 : Int) + (xs.length : Int)).toNat else min (-1 : Int).toNat xs.length) = _
    rw [if_pos (by decide)]
    omega
  show ((xs.drop (HT.sIx xs.length 0 (some (-1)))).take _).length ≤ 1
  rw [e, List.length_take, List.length_drop]
  omega
theorem maxG1 {k : Nat} (h : 1 ≤ k) : maxG [.int 1, .int (k : Nat)] = some (.val (.int (k : Nat))) := by
  show some (W.val (.int (if (1 : Int) < (k : Nat) then ((k : Nat) : Int) else 1))) = _
  congr 3
  split <;> omega
theorem g_revT {ds : List D} : revG (.tup ds) = some (.val (.tup ds.reverse)) := rfl
theorem bent_eq {fuel : Nat} : m__law_bent (fuel + 1) = fnM 8 (b__law_bent (m__law_bent fuel)) := rfl
theorem Sc.notL {d : D} (s : Sc d) : notL d := by
  obtain ⟨⟨x, rfl⟩ | ⟨i, rfl⟩, _⟩ := s <;> trivial
/-- what comes of a test that is bent -/
def Bent (h : Hh) (n k : Nat) (d : D) : Prop := Mx h n 5 (k + 1) d ∧ notL d
def tailB : M Fl := (seqM (par2M 5 6 (callF 2 m__law_take (consA (nameM 0) (consA (kI 12) nilA))) (callF 3 m__law_leaf (consA (nameM 0) (consA (nameM 1) (consA (nameM 2) nilA)))))
  (seqM (ifM (cmpM ltG (nameM 5) (kI 6))
  (seqM (asgM 7 (lstM (consA kN (consA (kB true) (consA (kB false) (consA (kS "0") (consA (opM ixG (nameM 1) (kI 0)) (consA (kS "any") (consA (kS "is") (consA (kS "from") (consA (kS "all") (consA (kS "some") (consA (kS "not") (consA (lstM (consA (kI 1) nilA)) (consA dictM (consA (tupM nilA) (consA (kI 1) (consA (opM addG (opM ixG (nameM 1) (unM negG (kI 1))) (kS "a")) (consA (nameM 6) (consA (opM ixG (nameM 2) (kI 0)) (consA (kS "") (consA (kS "none") nilA))))))))))))))))))))))
  (retM (opM addG (opM addG (slM (nameM 3) (ret none) (bnd (intM (nameM 4)) fun i => ret (some i))) (tupM (consA (opM ixG (nameM 7) (callF 2 m__law_take (consA (nameM 0) (consA (kI 20) nilA)))) nilA))) (slM (nameM 3) (bnd (intM (opM addG (nameM 4) (kI 1))) fun i => ret (some i)) (ret none)))))
  nextM)
  (seqM (ifM (cmpM ltG (nameM 5) (kI 8))
  (retM (opM ixG (lstM (consA (slM (nameM 3) (ret none) (bnd (intM (unM negG (kI 1))) fun i => ret (some i))) (consA (opM addG (nameM 3) (slM (nameM 3) (bnd (intM (unM negG (kI 1))) fun i => ret (some i)) (ret none))) (consA (opM addG (nameM 3) (tupM (consA (nameM 6) nilA))) (consA (slM (nameM 3) (bnd (intM (kI 1)) fun i => ret (some i)) (ret none)) nilA))))) (callF 2 m__law_take (consA (nameM 0) (consA (kI 4) nilA)))))
  nextM)
  (seqM (ifM (cmpM eqG (nameM 5) (kI 8))
  (retM (cellM (callM listG (consA (nameM 3) nilA))))
  nextM)
  (seqM (ifM (cmpM eqG (nameM 5) (kI 9))
  (retM (opM addG (slM (nameM 3) (ret none) (bnd (intM (kI 1)) fun i => ret (some i))) (revM (slM (nameM 3) (bnd (intM (kI 1)) fun i => ret (some i)) (ret none)))))
  nextM)
  (retM (opM ixG (lstM (consA (tupM (consA (kS "not") (consA (nameM 3) nilA))) (consA (tupM (consA (nameM 3) nilA)) (consA (tupM (consA (kS "all") (consA (nameM 6) (consA (nameM 3) nilA)))) (consA (tupM (consA (kS "some") (consA (nameM 3) nilA))) (consA (nameM 6) (consA (tupM (consA (kS "any") (consA (nameM 6) nilA))) (consA (opM ixG (nameM 3) (kI 0)) (consA (tupM (consA (kS "all") (consA (nameM 3) (consA (nameM 6) (consA (nameM 6) nilA))))) nilA))))))))) (callF 2 m__law_take (consA (nameM 0) (consA (kI 8) nilA))))))))))
theorem bent_tail {n B : Nat} {ns : List Str} {ls : List Int} {h : Hh} {ds : List D} {k r : Nat} {Q : W → S → Prop} {E : XQ} (nl : 1 ≤ ns.length ∧ ns.length ≤ 3) (nm : ∀ x ∈ ns, NameS x) (l5 : ls.length = 5) (sm : ∀ x ∈ ls, Small x) (hb : BoxAt h n B) (hB : B + 8 < 2 ^ 29) (ll : 1 ≤ ds.length ∧ ds.length ≤ 4) (it : ∀ d ∈ ds, Sc d ∨ ∃ es, d = .tup es ∧ Pr k es) (pk : ∀ d ∈ ds, Pu k d) (hr : r < ds.length)
    (q : ∀ (d : D) (h' : Hh), Bent h' n (k + 1) d → BoxAt h' n (B + 8) → Keep n h h' → Q (.val d) ⟨[], h'⟩) : wpM tailB ⟨[.fz (.ref n), .fz (.lst (ns.map .str)), .fz (.lst (ls.map .int)), .fz (.tup ds), .fz (.int (r : Nat)), .un, .un, .un], h⟩ (outQ Q) (fun C ns vs s1 => E C ns vs ⟨[], s1.h⟩) := by
  unfold tailB
  walk_at "zgo"
  refine w_take (by assumption) (by omega) (by decide) (by decide) ?_; intro r1 h1 hr1 b1 k1
  walk_at "zgo"
  refine leaf_run b1 (by omega) nl nm l5 sm ?_
  intro leaf h2 tl b2 k2
  have k12 := k1.trans k2
  walk_at "zgo"
  have leafup : Pu (k + 1) leaf := tl.pu.up (by omega)
  have leafT : notL leaf := by obtain ⟨es, e, _⟩ := tl.tup; rw [e]; trivial
  have up : ∀ d ∈ ds, Pu (k + 1) d := fun d hd => (pk d hd).up (by omega)
  have hh : (cutL ds none (some (r : Nat))).length ≤ r := cut_head
  have ht : (cutL ds (some ((r : Int) + 1)) none).length ≤ ds.length - (r + 1) := cut_tail hr
  have hl1 : (cutL ds (some (-1)) none).length ≤ 1 := cut_last
  have hl2 : (cutL ds none (some (-1))).length ≤ ds.length := cut_le
  have hl3 : (cutL ds (some 1) none).length ≤ ds.length - 1 := cut_tail (k := 0) (by omega)
  have hl4 : (cutL ds none (some 1)).length ≤ 1 := cut_head (k := 1)
  have whole : Pu (k + 1) (.tup ds) := .tup (by omega) pk
  by_cases c1 : (r1 : Int) < 6
  · obtain ⟨x0, hx0, i0⟩ : ∃ x ∈ ns, ixG (.lst (ns.map .str)) (.int 0) = some (.val (.str x)) := ⟨ns[0], List.getElem_mem _, g_ixL (atI_nat (i := 0) (by simp <;> omega))⟩
    obtain ⟨x1, hx1, i1⟩ : ∃ x ∈ ns, ixG (.lst (ns.map .str)) (.int (-1)) = some (.val (.str x)) := by
      refine ⟨ns[ns.length - 1], List.getElem_mem _, g_ixL ?_⟩
      have e : ns.map D.str = (ns.map D.str).dropLast ++ [D.str ns[ns.length - 1]] := by
        have ne : ns.map D.str ≠ [] := by
          intro z
          have := congrArg List.length z
          simp at this
          rw [this] at nl
          simp at nl
        have z := (List.dropLast_concat_getLast ne).symm
        rw [List.getLast_eq_getElem] at z
        simpa using z
      rw [e]
      exact atI_last
    obtain ⟨l0, hl0, i2⟩ : ∃ x ∈ ls, ixG (.lst (ls.map .int)) (.int 0) = some (.val (.int x)) := ⟨ls[0], List.getElem_mem _, g_ixL (atI_nat (i := 0) (by simp <;> omega))⟩
    have la : ("a" : Str).length = 1 := by decide +kernel
    have n1 := (nm x1 hx1).1
    have a1 : addG (.str x1) (.str "a") = some (.val (.str (x1 ++ "a"))) := g_addS (by rw [la, sizeLine_eq]; have := n1.1.2; omega)
    have pa : Pu 1 (.str (x1 ++ "a")) := .str (by
      have z := word_text (x := x1 ++ "a") (fun c hc => by
        rw [app_list] at hc
        rcases List.mem_append.mp hc with hc | hc
        · exact n1.2 c hc
        · have e : ("a" : Str).cps.toList = [97] := by decide +kernel
          rw [e, List.mem_singleton] at hc
          subst hc
          exact ⟨by decide, by decide⟩)
      rw [strLen_append, la] at z
      have := n1.1.2
      omega)
    walk_at "zgo"
    refine w_eq (a := .val (.dK [] [])) (s1 := ⟨_, h2⟩) rfl ?_
    walk_at "zgo"
    refine w_take (by assumption) (by omega) (by decide) (by decide) ?_; intro r5 h5 hr5 b5 k5
    walk_at "zgo"
    refine w_ixL (by simp; omega) fun d hd => ?_
    have pd : Pu 1 d := by
      have ws : ∀ w ∈ [("0" : Str), "any", "is", "from", "all", "some", "not", "", "none"], (reprText w).length ≤ 32 := by decide +kernel
      simp only [List.mem_cons, List.not_mem_nil, or_false] at hd
      rcases hd with rfl | rfl | rfl | rfl | rfl | rfl | rfl | rfl | rfl | rfl | rfl | rfl | rfl | rfl | rfl | rfl | rfl | rfl | rfl | rfl
      · exact .non
      · exact .bl _
      · exact .bl _
      · exact .str (ws _ (by simp))
      · exact name_pu (nm x0 hx0)
      · exact .str (ws _ (by simp))
      · exact .str (ws _ (by simp))
      · exact .str (ws _ (by simp))
      · exact .str (ws _ (by simp))
      · exact .str (ws _ (by simp))
      · exact .str (ws _ (by simp))
      · exact .one
      · exact .emp
      · exact .tup (by simp) (by simp)
      · exact .int (by decide)
      · exact pa
      · exact tl.pu
      · exact small_pu (sm l0 hl0)
      · exact .str (ws _ (by simp))
      · exact .str (ws _ (by simp))
    walk_at "zgo"
    refine q _ _ ⟨.pu (.tup (by simp only [List.length_append, List.length_cons, List.length_nil]; omega) fun x hx => ?_), trivial⟩ (b5.mono (by omega)) (k12.trans k5)
    rcases List.mem_append.mp hx with hx | hx
    · rcases List.mem_append.mp hx with hx | hx
      · exact up x (cut_sub x hx)
      · rw [List.mem_singleton.mp hx]
        exact pd.up (by omega)
    · exact up x (cut_sub x hx)
  · walk_at "zgo"
    by_cases c2 : (r1 : Int) < 8
    · walk_at "zgo"
      refine w_take (by assumption) (by omega) (by decide) (by decide) ?_; intro r5 h5 hr5 b5 k5
      walk_at "zgo"
      refine w_ixL (by simp; omega) fun d hd => ?_
      have pd : Pu (k + 2) d ∧ notL d := by
        simp only [List.mem_cons, List.not_mem_nil, or_false] at hd
        rcases hd with rfl | rfl | rfl | rfl
        · exact ⟨.tup (by omega) fun x hx => up x (cut_sub x hx), trivial⟩
        · refine ⟨.tup (by rw [List.length_append]; omega) fun x hx => ?_, trivial⟩
          rcases List.mem_append.mp hx with hx | hx
          · exact up x hx
          · exact up x (cut_sub x hx)
        · refine ⟨.tup (by simp only [List.length_append, List.length_cons, List.length_nil]; omega) fun x hx => ?_, trivial⟩
          rcases List.mem_append.mp hx with hx | hx
          · exact up x hx
          · rw [List.mem_singleton.mp hx]
            exact leafup
        · exact ⟨.tup (by omega) fun x hx => up x (cut_sub x hx), trivial⟩
      walk_at "zgo"
      exact q _ _ ⟨.pu pd.1, pd.2⟩ (b5.mono (by omega)) (k12.trans k5)
    · walk_at "zgo"
      by_cases c3 : (r1 : Int) = 8
      · walk_at "zgo"
        refine w_cellM ?_
        walk_at "zgo"
        have lt := b2.lt
        refine q _ _ ⟨.ref get_last (by omega) (by omega) up, trivial⟩ (b2.push.mono (by omega)) (k12.trans Keep.push)
      · walk_at "zgo"
        by_cases c4 : (r1 : Int) = 9
        · have g9 : revG (.tup (cutL ds (some 1) none)) = some (.val (.tup (cutL ds (some 1) none).reverse)) := rfl
          have hl5 : (cutL ds (some 1) none).reverse.length ≤ ds.length - 1 := by rw [List.length_reverse]; exact hl3
          walk_at "zgo"
          refine q _ _ ⟨.pu (.tup (by rw [List.length_append]; omega) fun x hx => ?_), trivial⟩ (b2.mono (by omega)) k12
          rcases List.mem_append.mp hx with hx | hx
          · exact up x (cut_sub x hx)
          · exact up x (cut_sub x (List.mem_reverse.mp hx))
        · have i3 : ixG (.tup ds) (.int 0) = some (.val ds[0]) := g_ixT (atI_nat (i := 0) (List.getElem?_eq_getElem (by omega)))
          have m0 : ds[0] ∈ ds := List.getElem_mem _
          have nl0 : notL ds[0] := by
            rcases it _ m0 with sc | ⟨es, ee, _⟩
            · exact sc.notL
            · rw [ee]; trivial
          walk_at "zgo"
          refine w_take (by assumption) (by omega) (by decide) (by decide) ?_; intro r5 h5 hr5 b5 k5
          walk_at "zgo"
          refine w_ixL (by simp; omega) fun d hd => ?_
          have pd : Pu (k + 2) d ∧ notL d := by
            simp only [List.mem_cons, List.not_mem_nil, or_false] at hd
            rcases hd with rfl | rfl | rfl | rfl | rfl | rfl | rfl | rfl
            · refine ⟨.tup (by simp) fun x hx => ?_, trivial⟩
              simp only [List.mem_cons, List.not_mem_nil, or_false] at hx
              rcases hx with rfl | rfl
              · exact w_pu _ (by simp)
              · exact whole
            · refine ⟨.tup (by simp) fun x hx => ?_, trivial⟩
              rw [List.mem_singleton.mp hx]
              exact whole
            · refine ⟨.tup (by simp) fun x hx => ?_, trivial⟩
              simp only [List.mem_cons, List.not_mem_nil, or_false] at hx
              rcases hx with rfl | rfl | rfl
              · exact w_pu _ (by simp)
              · exact leafup
              · exact whole
            · refine ⟨.tup (by simp) fun x hx => ?_, trivial⟩
              simp only [List.mem_cons, List.not_mem_nil, or_false] at hx
              rcases hx with rfl | rfl
              · exact w_pu _ (by simp)
              · exact whole
            · exact ⟨leafup.up (by omega), leafT⟩
            · refine ⟨.tup (by simp) fun x hx => ?_, trivial⟩
              simp only [List.mem_cons, List.not_mem_nil, or_false] at hx
              rcases hx with rfl | rfl
              · exact w_pu _ (by simp)
              · exact leafup
            · exact ⟨(up _ m0).up (by omega), nl0⟩
            · refine ⟨.tup (by simp) fun x hx => ?_, trivial⟩
              simp only [List.mem_cons, List.not_mem_nil, or_false] at hx
              rcases hx with rfl | rfl | rfl | rfl
              · exact w_pu _ (by simp)
              · exact whole
              · exact leafup
              · exact leafup
          walk_at "zgo"
          exact q _ _ ⟨.pu pd.1, pd.2⟩ (b5.mono (by omega)) (k12.trans k5)
theorem bent_body (F : List D → M W) : b__law_bent F = (seqM (asgM 4 (callF 2 m__law_take (consA (nameM 0) (consA (callM maxG (consA (kI 1) (consA (callM lenG (consA (nameM 3) nilA)) nilA))) nilA))))
  (seqM (ifM (andM (cmpM gtG (callM lenG (consA (nameM 3) nilA)) (kI 1)) (andM (truM (callM isiG (consA (opM ixG (nameM 3) (nameM 4)) (consA (kD (.ty "tuple")) nilA)))) (cmpM gtG (callF 2 m__law_take (consA (nameM 0) (consA (kI 4) nilA))) (kI 0))))
  (retM (opM addG (opM addG (slM (nameM 3) (ret none) (bnd (intM (nameM 4)) fun i => ret (some i))) (tupM (consA (callF 4 F (consA (nameM 0) (consA (nameM 1) (consA (nameM 2) (consA (opM ixG (nameM 3) (nameM 4)) nilA))))) nilA))) (slM (nameM 3) (bnd (intM (opM addG (nameM 4) (kI 1))) fun i => ret (some i)) (ret none))))
  nextM)
  tailB)) := rfl
theorem bent_run {n : Nat} {ns : List Str} {ls : List Int} (nl : 1 ≤ ns.length ∧ ns.length ≤ 3) (nm : ∀ x ∈ ns, NameS x) (l5 : ls.length = 5) (sm : ∀ x ∈ ls, Small x) : ∀ (k fuel B : Nat) (h : Hh) (ds : List D) {Q : W → S → Prop} {E : XQ}, k ≤ fuel → k ≤ 6 → Pr k ds → Pu k (.tup ds) → BoxAt h n B → B + 10 * k + 10 < 2 ^ 29 →
    (∀ (d : D) (h' : Hh), Bent h' n k d → BoxAt h' n (B + 10 * k) → Keep n h h' → Q (.val d) ⟨[], h'⟩) → wpM (m__law_bent fuel [.ref n, .lst (ns.map .str), .lst (ls.map .int), .tup ds]) ⟨[], h⟩ Q E
  | 0, _, _, _, _, _, _, _, _, p, _, _, _, _ => p.elim
  | k + 1, 0, _, _, _, _, _, hf, _, _, _, _, _, _ => absurd hf (by omega)
  | k + 1, fuel + 1, B, h, ds, Q, E, hf, h6, pr, pu, hb, hB, q => by
    obtain ⟨⟨l1, l4⟩, it⟩ := pr
    have pk : ∀ d ∈ ds, Pu k d := by
      cases pu with
      | tup _ k => exact k
    rw [bent_eq, bent_body]
    refine w_fn ?_
    dsimp only [env0, List.map, List.length_cons, List.length_nil, List.replicate_succ, List.replicate_zero, List.cons_append, List.nil_append, Nat.reduceSub, Nat.reduceAdd]
    have e1 := maxG1 l1
    walk_at "zgo"
    refine w_take hb (by omega) (by omega) (by omega) ?_
    intro r h1 hr b1 k1
    have hr : r < ds.length := by omega
    walk_at "zgo"
    have ixr : ixG (.tup ds) (.int (r : Nat)) = some (.val ds[r]) := g_ixT (atI_nat (List.getElem?_eq_getElem hr))
    have mem := List.getElem_mem hr
    have low : ∀ (h1 : Hh) (B1 : Nat), BoxAt h1 n B1 → B1 ≤ B + 2 → Keep n h h1 → wpM tailB ⟨[.fz (.ref n), .fz (.lst (ns.map .str)), .fz (.lst (ls.map .int)), .fz (.tup ds), .fz (.int (r : Nat)), .un, .un, .un], h1⟩ (outQ Q) (fun C ns vs s1 => E C ns vs ⟨[], s1.h⟩) := by
      intro h1 B1 b1 hB1 k1
      refine bent_tail nl nm l5 sm b1 (by omega) (k := k) ⟨l1, l4⟩ it pk hr fun d h' bd b2 k2 => q d h' bd (b2.mono (by omega)) (k1.trans k2)
    by_cases c1 : (1 : Int) < (ds.length : Nat)
    · walk_at "zgo"
      rcases it _ mem with sc | ⟨es, ee, pe⟩
      · obtain ⟨⟨x, ex⟩ | ⟨i, ex⟩, _⟩ := sc
        · rw [ex]
          walk_at "zgo"
          exact low _ _ b1 (by omega) k1
        · rw [ex]
          walk_at "zgo"
          exact low _ _ b1 (by omega) k1
      · rw [ee]
        walk_at "zgo"
        refine w_take (by assumption) (by omega) (by decide) (by decide) ?_; intro r2 h2 hr2 b2 k2
        walk_at "zgo"
        by_cases c2 : (0 : Int) < (r2 : Nat)
        · have ixr2 : ixG (.tup ds) (.int (r : Nat)) = some (.val (.tup es)) := by rw [ixr, ee]
          have pes : Pu k (.tup es) := ee ▸ pk _ mem
          walk_at "zgo"
          refine bent_run nl nm l5 sm k fuel (B + 2) h2 es (by omega) (by omega) pe pes (b2.mono (by omega)) (by omega) ?_
          intro d h3 bd b3 k3
          have hh : (cutL ds none (some (r : Nat))).length ≤ r := cut_head
          have ht : (cutL ds (some ((r : Int) + 1)) none).length ≤ ds.length - (r + 1) := cut_tail hr
          walk_at "zgo"
          refine q _ _ ⟨?_, trivial⟩ (b3.mono (by omega)) ((k1.trans k2).trans k3)
          refine .tup (by simp only [List.length_append, List.length_cons, List.length_nil]; omega) fun x hx => ?_
          rcases List.mem_append.mp hx with hx | hx
          · rcases List.mem_append.mp hx with hx | hx
            · exact .pu ((pk x (cut_sub x hx)).up (by omega))
            · rw [List.mem_singleton.mp hx]
              exact bd.1
          · exact .pu ((pk x (cut_sub x hx)).up (by omega))
        · walk_at "zgo"
          exact low _ _ b2 (by omega) (k1.trans k2)
    · walk_at "zgo"
      exact low _ _ b1 (by omega) k1
def OddR (h : Hh) (n k : Nat) (d : D) : Prop := Mx h n 5 2 d ∧ notL d ∧ isRepD k d = false
theorem OddR.keep {h h' : Hh} {n k : Nat} {d : D} (o : OddR h n k d) (hk : Keep n h h') : OddR h' n k d := ⟨o.1.keep hk, o.2.1, o.2.2⟩
theorem rep_end {k : Nat} {ds : List D} {d : D} (h : isIntD d = false) : isRepD k (.tup (ds ++ [d])) = false := by
  show (decide _ && _) = _
  rw [List.all_append]
  simp [h]
theorem odd_run {h : Hh} {n B : Nat} {rs : List Int} {Q : W → S → Prop} {E : XQ} (hb : BoxAt h n B) (rl : 1 ≤ rs.length ∧ rs.length ≤ 3) (sm : ∀ x ∈ rs, Small x)
    (q : ∀ (ds : List D) (h' : Hh), ds.length = 18 → (∀ d ∈ ds, OddR h' n rs.length d) → BoxAt h' n B → Keep n h h' → Q (.new (.lst ds)) ⟨[], h'⟩) : wpM (m__law_odd_reports [.tup (rs.map .int)]) ⟨[], h⟩ Q E := by
  have rp : ∀ (m : Nat), ∀ d ∈ rs.map D.int, Pu m d := fun m d hd => by
    obtain ⟨x, hx, rfl⟩ := List.mem_map.mp hd
    exact small_pu (sm x hx)
  have rl2 : (rs.map D.int).length ≤ 3 := by rw [List.length_map]; exact rl.2
  have whole : ∀ m, Pu (m + 1) (.tup (rs.map D.int)) := fun m => .tup (by omega) (rp m)
  unfold m__law_odd_reports; refine w_fn ?_; dsimp only [b__law_odd_reports, env0, List.map, List.length_cons, List.length_nil, List.replicate_succ, List.replicate_zero, List.cons_append, List.nil_append, Nat.reduceSub, Nat.reduceAdd]
  walk_at "zgo"
  refine w_cellM ?_
  walk_at "zgo"
  refine w_cellM ?_
  walk_at "zgo"
  refine w_eq (a := .val (.dK [] [])) (s1 := ⟨_, _⟩) rfl ?_
  walk_at "zgo"
  refine w_cellM ?_
  walk_at "zgo"
  refine w_lcP (fun _ => true) (fun d => .tup (cutL (rs.map D.int) none (some (-1)) ++ [d])) ?_
  walk_at "zgo"
  refine w_eq (a := .val (.dK [] [])) (s1 := ⟨_, _⟩) rfl ?_
  walk_at "zgo"
  have hc : (cutL (rs.map D.int) none (some (-1))).length ≤ 3 := Nat.le_trans cut_le rl2
  refine ⟨⟨rfl, by rw [sizeLine_eq]; simp⟩, ?_, rfl, ?_⟩
  · intro i d hd
    refine ⟨_, rfl, ?_⟩
    dsimp only [List.set_cons_zero, List.set_cons_succ, Cell.toD]
    unfold l__law_odd_reports_1
    walk_at "zgo"
  · walk_at "zgo"
    have lt := hb.lt
    refine q _ _ ?_ ?_ hb.push.push.push ((Keep.push.trans Keep.push).trans Keep.push)
    · simp
    · intro d hd
      have g1 : ((h ++ [Cell.lst (rs.map D.int)] ++ [Cell.lst []] ++ [Cell.lst [.tup (rs.map D.int)]]))[h.length]? = some (.lst (rs.map D.int)) := by simp
      have g2 : ((h ++ [Cell.lst (rs.map D.int)] ++ [Cell.lst []] ++ [Cell.lst [.tup (rs.map D.int)]]))[(h ++ [Cell.lst (rs.map D.int)]).length]? = some (.lst []) := by simp
      have g3 : ((h ++ [Cell.lst (rs.map D.int)] ++ [Cell.lst []] ++ [Cell.lst [.tup (rs.map D.int)]]))[(h ++ [Cell.lst (rs.map D.int)] ++ [Cell.lst []]).length]? = some (.lst [.tup (rs.map D.int)]) := by simp
      have t5 : ∀ {x : D}, Pu 1 x → isIntD x = false → OddR (h ++ [Cell.lst (rs.map D.int)] ++ [Cell.lst []] ++ [Cell.lst [.tup (rs.map D.int)]]) n rs.length (.tup (cutL (rs.map D.int) none (some (-1)) ++ [x])) := fun px hx =>
        ⟨.pu (.tup (by rw [List.length_append, List.length_singleton]; omega) fun y hy => by
          rcases List.mem_append.mp hy with hy | hy
          · exact rp 1 y (cut_sub y hy)
          · rw [List.mem_singleton.mp hy]; exact px), trivial, rep_end hx⟩
      have one : (reprText ("1" : Str)).length ≤ 32 := by decide +kernel
      have zero : (reprText ("0" : Str)).length ≤ 32 := by decide +kernel
      simp only [List.filter_cons_of_pos, List.filter_nil, List.map_cons, List.map_nil, List.cons_append, List.nil_append, List.mem_cons, List.not_mem_nil, or_false] at hd
      rcases hd with rfl | rfl | rfl | rfl | rfl | rfl | rfl | rfl | rfl | rfl | rfl | rfl | rfl | rfl | rfl | rfl | rfl | rfl
      · exact ⟨.ref g1 (by omega) (by omega) (rp 1), trivial, rfl⟩
      · refine ⟨.pu (.tup (by rw [List.length_append, List.length_singleton]; omega) fun y hy => ?_), trivial, ?_⟩
        · rcases List.mem_append.mp hy with hy | hy
          · exact rp 1 y hy
          · rw [List.mem_singleton.mp hy]; exact .int (by decide)
        · show (decide _ && _) = _
          rw [decide_eq_false (by simp)]
          rfl
      · refine ⟨.pu (.tup (Nat.le_trans cut_le (by omega)) fun y hy => rp 1 y (cut_sub y hy)), trivial, ?_⟩
        have z := cut_tail (xs := rs.map D.int) (k := 0) (by rw [List.length_map]; omega)
        rw [List.length_map] at z
        have z : (cutL (rs.map D.int) (some 1) none).length ≤ rs.length - (0 + 1) := z
        show (decide _ && _) = _
        rw [decide_eq_false (by omega)]
        rfl
      · exact ⟨.pu .non, trivial, rfl⟩
      · exact ⟨.pu (.int (by decide)), trivial, rfl⟩
      · exact ⟨.pu (.bl _), trivial, rfl⟩
      · exact ⟨.pu (.str zero), trivial, rfl⟩
      · refine ⟨.pu (.tup (by simp) (by simp)), trivial, ?_⟩
        show (decide (0 = rs.length) && _) = _
        rw [decide_eq_false (by omega)]
        rfl
      · exact ⟨.ref g2 (by simp; omega) (by simp) (by simp), trivial, rfl⟩
      · exact ⟨.pu .emp, trivial, rfl⟩
      · refine ⟨.pu (.tup (by simp) fun y hy => ?_), trivial, rep_end (ds := []) rfl⟩
        rw [List.mem_singleton.mp hy]
        exact whole 0
      · refine ⟨.ref g3 (by simp; omega) (by simp) fun y hy => ?_, trivial, rfl⟩
        rw [List.mem_singleton.mp hy]
        exact whole 0
      · exact t5 (.bl _) rfl
      · exact t5 .non rfl
      · exact t5 (.str one) rfl
      · exact t5 (.tup (by simp) fun y hy => by rw [List.mem_singleton.mp hy]; exact .int (by decide)) rfl
      · exact t5 .one rfl
      · exact t5 .emp rfl
theorem g_pop {xs : List D} {i : Int} {k : Nat} {d : D} (h0 : 0 ≤ i) (h1 : i < 1000) (h2 : seqIndex? i xs.length = some k) (h3 : xs[k]? = some d) : popG (.lst xs) [.int i] = some (.lst (xs.eraseIdx k), d) := by
  unfold popG
  dsimp only
  split
  · rw [h2]
    dsimp only
    rw [h3]
  · rename_i z
    exact absurd (show -(2 ^ 63) ≤ i ∧ i < 2 ^ 63 from ⟨by omega, by omega⟩) z
theorem mixed_run {n : Nat} {P : Hh → D → Prop} (pk : ∀ {h h' : Hh} {d : D}, P h d → Keep n h h' → P h' d) {h : Hh} {B : Nat} {ds : List D} {Q : W → S → Prop} {E : XQ} (hb : BoxAt h n B) (hB : B + ds.length < 2 ^ 29) (hl : ds.length ≤ 100) (p : ∀ d ∈ ds, P h d)
    (q : ∀ (es : List D) (h' : Hh), (∀ d ∈ es, P h' d) → BoxAt h' n (B + ds.length) → Keep n h h' → Q (.new (.lst es)) ⟨[], h'⟩) : wpM (m__law_mixed [.ref n, .lst ds]) ⟨[], h⟩ Q E := by
  unfold m__law_mixed; refine w_fn ?_; dsimp only [b__law_mixed, env0, List.map, List.length_cons, List.length_nil, List.replicate_succ, List.replicate_zero, List.cons_append, List.nil_append, Nat.reduceSub, Nat.reduceAdd]
  walk_at "zgo"
  refine w_while (fun s => ∃ (xs es : List D) (h' : Hh), s = ⟨[.fz (.ref n), .fz (.lst ds), .ow (.lst xs), .ow (.lst es)], h'⟩ ∧ (∀ d ∈ xs, P h' d) ∧ (∀ d ∈ es, P h' d) ∧ xs.length + es.length = ds.length ∧ BoxAt h' n (B + es.length) ∧ Keep n h h') (fun s => match s.e with | [_, _, .ow (.lst xs), _] => xs.length | _ => 0) ⟨ds, [], h, rfl, p, by simp, rfl, hb, Keep.refl _ _⟩ ?_ _ (by unfold w__law_mixed; simp; omega)
  rintro s ⟨xs, es, h', rfl, p1, p2, le, b1, k1⟩
  unfold l__law_mixed_2 l__law_mixed_1
  walk_at "zgo"
  cases xs with
  | nil =>
    have le : es.length = ds.length := by simpa using le
    refine p_iteT ?_
    walk_at "zgo"
    exact q es h' p2 (b1.mono (by omega)) k1
  | cons x xs =>
    have lx : (x :: xs).length + es.length = ds.length := le
    have ln : 0 < (x :: xs).length := by simp
    have le2 : es.length < sizeLine := by rw [sizeLine_eq]; omega
    refine p_iteF ?_
    walk_at "zgo"
    refine w_take b1 (by omega) (by omega) (by omega) ?_
    intro r h2 hr b2 k2
    have hr : r < (x :: xs).length := by omega
    have ep : popG (.lst (x :: xs)) [.int (r : Nat)] = some (.lst ((x :: xs).eraseIdx r), (x :: xs)[r]) := by
      have e1 : seqIndex? (r : Nat) (x :: xs).length = some r := by
        unfold seqIndex?
        have h0 : ¬ ((r : Nat) : Int) < 0 := by omega
        simp only [h0, if_false]
        rw [if_pos (by simp only [Bool.and_eq_true, decide_eq_true_iff]; omega)]
        simp
      have i0 : (0 : Int) ≤ ((r : Nat) : Int) := Int.natCast_nonneg r
      have i1 : ((r : Nat) : Int) < 1000 := by have : r < 1000 := by omega
                                               omega
      exact g_pop i0 i1 e1 (List.getElem?_eq_getElem hr)
    walk_at "zgo"
    refine ⟨⟨(x :: xs).eraseIdx r, es ++ [(x :: xs)[r]], h2, rfl, ?_, ?_, ?_, ?_, k1.trans k2⟩, ?_⟩
    · exact fun d hd => pk (p1 d (List.mem_of_mem_eraseIdx hd)) k2
    · intro d hd
      rcases List.mem_append.mp hd with hd | hd
      · exact pk (p2 d hd) k2
      · rw [List.mem_singleton.mp hd]
        exact pk (p1 _ (List.getElem_mem _)) k2
    · rw [List.length_eraseIdx, if_pos hr, List.length_append, List.length_singleton]
      omega
    · rw [List.length_append, List.length_singleton]
      exact b2.mono (by omega)
    · show ((x :: xs).eraseIdx r).length < (x :: xs).length
      rw [List.length_eraseIdx, if_pos hr]
      omega
/-- the fields stay -/
def Kf (h h' : Hh) : Prop := ∀ (f : Nat) (ns : List Str), h[f]? = some (fieldsC ns) → h'[f]? = some (fieldsC ns)
theorem Kf.refl (h : Hh) : Kf h h := fun _ _ e => e
theorem Kf.trans {h h1 h2 : Hh} (a : Kf h h1) (b : Kf h1 h2) : Kf h h2 := fun f ns e => b f ns (a f ns e)
theorem Keep.kf {n B : Nat} {h h' : Hh} (k : Keep n h h') (b : BoxAt h n B) : Kf h h' := fun f ns e => by
  refine k.at (fun z => ?_) e
  subst z
  obtain ⟨_, _, _, _, b, _⟩ := b
  rw [e] at b
  cases b
theorem Kf.set {h : Hh} {j : Nat} {ds es : List D} (e : h[j]? = some (.lst ds)) : Kf h (h.set j (.lst es)) := fun f ns e2 => by
  by_cases q : j = f
  · subst q
    rw [e] at e2
    cases e2
  · rw [List.getElem?_set_ne q]
    exact e2
theorem BoxAt.set {h : Hh} {j n B : Nat} {es : List D} (b : BoxAt h n B) (ne : j ≠ n) : BoxAt (h.set j (.lst es)) n B := by
  obtain ⟨a, c, m, d, e, r⟩ := b
  exact ⟨a, c, m, d, by rw [List.getElem?_set_ne ne]; exact e, r⟩
def Rep3 (k : Nat) (d : D) : Prop := ∃ rs : List Int, d = .tup (rs.map .int) ∧ rs.length = k ∧ ∀ x ∈ rs, Small x
theorem Rep3.pu {k : Nat} (hk : k ≤ 3) {d : D} (r : Rep3 k d) : Pu 1 d := by
  obtain ⟨rs, rfl, l, sm⟩ := r
  refine .tup (by rw [List.length_map]; omega) fun x hx => ?_
  obtain ⟨y, hy, rfl⟩ := List.mem_map.mp hx
  exact small_pu (sm y hy)
theorem Mx.upT {h : Hh} {b t u n : Nat} {d : D} (k : Mx h b t n d) (l : t ≤ u) : Mx h b u n d := by
  induction k with
  | pu p => exact .pu p
  | ref e ne l2 p => exact .ref e ne (by omega) p
  | tup l2 k ih => exact .tup l2 ih
section
variable {n f B t : Nat} {ns : List Str} {named : Bool} {h : Hh} {v : D} {reps : List D} {s4 s5 s6 s8 s9 s10 s11 s13 s14 s15 s16 s17 s18 : Slot}
abbrev envR (n f : Nat) (ns : List Str) (named : Bool) (s4 s5 s6 s7 s8 s9 s10 s11 s12 s13 s14 s15 s16 s17 s18 : Slot) : Env :=
  [.fz (.ref n), .fz (.ref f), .fz (.lst (ns.map .str)), .fz (.bl named), s4, s5, s6, s7, s8, s9, s10, s11, s12, s13, s14, s15, s16, s17, s18]
theorem turn4_ok {d : D} {s7 : Slot} {Q : Fl → S → Prop} {E : XQ} (F : h[f]? = some (fieldsC ns)) (nl : 1 ≤ ns.length ∧ ns.length ≤ 3) (vk : Vk h v) (j : J ns 5 v = true) (r : Rep3 ns.length d)
    (q : ∀ s15, Q .next ⟨envR n f ns named s4 s5 s6 s7 s8 s9 s10 s11 (.fz v) (.fz (.bl true)) (.fz d) s15 s16 s17 s18, h⟩) :
    wpM l__law_right_4 ⟨envR n f ns named s4 s5 s6 s7 s8 s9 s10 s11 (.fz v) (.fz (.bl true)) (.fz d) s15 s16 s17 s18, h⟩ Q E := by
  obtain ⟨rs, rfl, rl, sm⟩ := r
  obtain ⟨b, tp⟩ := J_TP rs 5 v j
  unfold l__law_right_4 envR
  walk_at "zgo"
  refine passed_ok F vk j tp rl nl.2 ?_
  walk_at "zgo"
  refine pass_law rl tp 8 (by omega) ?_
  walk_at "zgo"
  refine same_pair (fuel := 7) (fun Q E q => same_str (fuel := 6) q) (fun Q E q => same_bl (fuel := 6) q) ?_
  walk_at "zgo"
  exact q _
theorem turn4_bad {d : D} {s7 : Slot} {Q : Fl → S → Prop} {E : XQ} (F : h[f]? = some (fieldsC ns)) (nl : 1 ≤ ns.length ∧ ns.length ≤ 3) (m : Mx h n t 7 v) (ht : t ≤ 19) (nv : notL v) (hb : BoxAt h n B) (j : J ns 5 v = false)
    (q : ∀ s15 h', BoxAt h' n B → Kf h h' → (∀ w, Mx h n t 7 w → Mx h' n (t + 1) 7 w) → Q .next ⟨envR n f ns named s4 s5 s6 s7 s8 s9 s10 s11 (.fz v) (.fz (.bl false)) (.fz d) s15 s16 s17 s18, h'⟩) :
    wpM l__law_right_4 ⟨envR n f ns named s4 s5 s6 s7 s8 s9 s10 s11 (.fz v) (.fz (.bl false)) (.fz d) s15 s16 s17 s18, h⟩ Q E := by
  have e1 : ("test" : Str) = "test" := rfl
  have e2 : isNotG (.bl true) (.bl true) = some false := rfl
  unfold l__law_right_4 envR
  walk_at "zgo"
  refine passed_T F m.vk j ?_
  walk_at "zgo"
  refine w_opt ix0 ?_
  walk_at "zgo"
  refine w_opt ixL2 ?_
  walk_at "zgo"
  refine w_opt ixL1 ?_
  walk_at "zgo"
  refine very_V m ht (by omega) nv ?_ ?_
  · walk_at "zgo"
    exact q _ h hb (Kf.refl h) fun w k => k.upT (by omega)
  · intro k ds ev hk ne
    walk_at "zgo"
    exact q _ _ (hb.set ne) (Kf.set hk) fun w m => m.grow hk
theorem turn5_ok {s7 s12 : Slot} {Q : Fl → S → Prop} {E : XQ} (F : h[f]? = some (fieldsC ns)) (nl : 1 ≤ ns.length ∧ ns.length ≤ 3) (m : Mx h n t 7 v) (ht : t ≤ 19) (nv : notL v) (hb : BoxAt h n B) (rr : ∀ d ∈ reps, Rep3 ns.length d) (r5 : reps.length = 5)
    (h7 : s7 = .ow (.lst reps) ∨ s7 = .fz (.lst reps))
    (q : ∀ s7 s13 s14 s15 h', (s7 = .ow (.lst reps) ∨ s7 = .fz (.lst reps)) → BoxAt h' n B → Kf h h' → (∀ w, Mx h n t 7 w → Mx h' n (t + 1) 7 w) → Q .next ⟨envR n f ns named s4 s5 s6 s7 s8 s9 s10 s11 (.fz v) s13 s14 s15 s16 s17 s18, h'⟩) :
    wpM l__law_right_5 ⟨envR n f ns named s4 s5 s6 s7 s8 s9 s10 s11 (.fz v) s13 s14 s15 s16 s17 s18, h⟩ Q E := by
  obtain ⟨dv, y, w1, w2⟩ := m.repr (by omega) (by omega)
  have five : ((5 : Nat) : Int) = 5 := rfl
  unfold l__law_right_5 envR
  walk_at "zgo"
  refine test_law (by omega) 5 8 v (by omega) (by omega) m.vk ?_
  walk_at "zgo"
  refine judged_V F m.vk w1 w2 ?_
  walk_at "zgo"
  refine judged_V F m.vk w1 w2 ?_
  walk_at "zgo"
  refine same_pair (fuel := 7) (fun Q E q => same_bl (fuel := 6) q) (fun Q E q => same_bl (fuel := 6) q) ?_
  walk_at "zgo"
  cases j : J ns 5 v with
  | true =>
    rcases h7 with rfl | rfl <;> (
      walk_at "zgo"
      refine w_for (fun i s => ∃ s14 s15, s = ⟨envR n f ns named s4 s5 s6 (.fz (.lst reps)) s8 s9 s10 s11 (.fz v) (.fz (.bl true)) s14 s15 s16 s17 s18, h⟩) ⟨_, _, rfl⟩ ?_ ?_
      · rintro i d s hd ⟨s14, s15, rfl⟩
        refine ⟨_, rfl, ?_⟩
        dsimp only [List.set_cons_zero, List.set_cons_succ, Cell.toD]
        exact turn4_ok F nl m.vk j (rr d (List.mem_of_getElem? hd)) fun s15 => ⟨_, _, rfl⟩
      · rintro s ⟨s14, s15, rfl⟩
        exact q _ _ _ _ h (.inr rfl) hb (Kf.refl h) fun w k => k.upT (by omega))
  | false =>
    match reps, r5 with
    | d0 :: reps, r5 =>
    have c1 : cutL (d0 :: reps) none (some 1) = [d0] := by
      have e : HT.sIx (reps.length + 1) (reps.length + 1) (some 1) = 1 := (HT.sIx_nat (reps.length + 1) (reps.length + 1) 1).trans (by omega)
      show ((d0 :: reps).drop 0).take (HT.sIx (reps.length + 1) (reps.length + 1) (some 1) - 0) = _
      rw [e]
      rfl
    rcases h7 with rfl | rfl
    · walk_at "zgo"
      rw [c1]
      refine w_for1 rfl ?_
      dsimp only [List.set_cons_zero, List.set_cons_succ, Cell.toD]
      refine turn4_bad F nl m ht nv hb j fun s15 h' b k up => ?_
      refine u_next ?_
      walk_at "zgo"
      exact q _ _ _ _ h' (.inl rfl) b k up
    · walk_at "zgo"
      rw [c1]
      refine w_for1 rfl ?_
      dsimp only [List.set_cons_zero, List.set_cons_succ, Cell.toD]
      refine turn4_bad F nl m ht nv hb j fun s15 h' b k up => ?_
      refine u_next ?_
      walk_at "zgo"
      exact q _ _ _ _ h' (.inr rfl) b k up
theorem turn6_ok {d good : D} {s7 s12 s18 : Slot} {Q : Fl → S → Prop} {E : XQ} (F : h[f]? = some (fieldsC ns)) (nl : 1 ≤ ns.length ∧ ns.length ≤ 3) (g : Tst ns 2 good) (m : Mx h n t 7 d) (ht : t ≤ 19) (nv : notL d) (rb : isRepD ns.length d = false) (hb : BoxAt h n B)
    (q : ∀ s15 s18 h', BoxAt h' n B → Kf h h' → (∀ w, Mx h n t 7 w → Mx h' n (t + 1) 7 w) → Q .next ⟨envR n f ns named s4 s5 s6 s7 s8 s9 s10 s11 s12 s13 (.fz d) s15 s16 (.fz good) s18, h'⟩) :
    wpM l__law_right_6 ⟨envR n f ns named s4 s5 s6 s7 s8 s9 s10 s11 s12 s13 (.fz d) s15 s16 (.fz good) s18, h⟩ Q E := by
  have e1 : ("test" : Str) = "test" := rfl
  have e3 : ("report" : Str) = "report" := rfl
  have e2 : isNotG (.bl true) (.bl true) = some false := rfl
  have gj : J ns 5 good = true := J_le (by omega) g.j
  obtain ⟨gds, ge, _⟩ := g.tup
  have lj : J ns 5 (.lst gds) = false := J_no (by intro w r z; cases z)
  unfold l__law_right_6 envR
  subst ge
  walk_at "zgo"
  refine passed_T F (.lst gds) lj ?_
  walk_at "zgo"
  refine passed_R F (Pu.vk g.pu) gj m.vk rb ?_
  walk_at "zgo"
  refine w_opt ix0 ?_
  walk_at "zgo"
  refine w_opt ix0 ?_
  walk_at "zgo"
  refine w_opt ixL2 ?_
  walk_at "zgo"
  refine w_opt ixL1 ?_
  walk_at "zgo"
  refine very_V m ht (by omega) nv ?_ ?_
  · walk_at "zgo"
    exact q _ _ h hb (Kf.refl h) fun w k => k.upT (by omega)
  · intro k ds ev hk ne
    walk_at "zgo"
    exact q _ _ _ (hb.set ne) (Kf.set hk) fun w m => m.grow hk
end
section
variable {n f B : Nat} {ns : List Str} {ls : List Int} {named : Bool} {h : Hh} {s5 s6 s7 s9 s10 s11 s12 s13 s14 s15 s16 s17 s18 : Slot}
theorem row_ok {Q : W → S → Prop} {E : XQ} (hb : BoxAt h n B) (hB : B + 10 < 2 ^ 29) (nl : 1 ≤ ns.length ∧ ns.length ≤ 3) (l5 : ls.length = 5) (sm : ∀ x ∈ ls, Small1 x)
    (q : ∀ d h', Rep3 ns.length d → BoxAt h' n (B + 10) → Keep n h h' → Q (.val d) ⟨envR n f ns named (.fz (.lst (ls.map .int))) s5 s6 s7 .un s9 s10 s11 s12 s13 s14 s15 s16 s17 s18, h'⟩) :
    wpM l__law_right_2 ⟨envR n f ns named (.fz (.lst (ls.map .int))) s5 s6 s7 .un s9 s10 s11 s12 s13 s14 s15 s16 s17 s18, h⟩ Q E := by
  unfold l__law_right_2 envR
  walk_at "zgo"
  refine w_lc (fun i acc s => ∃ (rs : List Int) (h' : Hh), acc = rs.map D.int ∧ s = ⟨envR n f ns named (.fz (.lst (ls.map .int))) s5 s6 s7 .un s9 s10 s11 s12 s13 s14 s15 s16 s17 s18, h'⟩ ∧ rs.length = i ∧ (∀ x ∈ rs, Small x) ∧ BoxAt h' n (B + 2 * i) ∧ Keep n h h') ?_
  walk_at "zgo"
  refine ⟨⟨rfl, by rw [List.length_map, sizeLine_eq]; omega⟩, ⟨[], h, rfl, rfl, rfl, by simp, hb, Keep.refl _ _⟩, ?_, ?_⟩
  · rintro i d acc s hd ⟨rs, h1, rfl, rfl, rl, rm, b1, k1⟩
    have il : i < ns.length := by
      have := (List.getElem?_eq_some_iff.mp hd).1
      simpa using this
    refine ⟨_, rfl, ?_⟩
    dsimp only [List.set_cons_zero, List.set_cons_succ, Cell.toD]
    unfold l__law_right_1
    walk_at "zgo"
    refine w_take (by assumption) (by omega) (by decide) (by decide) ?_; intro r2 h2 hr2 b2 k2
    walk_at "zgo"
    refine w_lines (by omega) fun x hx => ?_
    walk_at "zgo"
    refine w_take (by assumption) (by omega) (by decide) (by decide) ?_; intro r3 h3 hr3 b3 k3
    walk_at "zgo"
    refine w_ixL (by simp; omega) fun d hd => ?_
    have hd : ∃ c : Int, d = .int c ∧ 0 ≤ c ∧ c ≤ 1 := by
      simp only [List.mem_cons, List.not_mem_nil, or_false] at hd
      rcases hd with rfl | rfl | rfl | rfl <;> exact ⟨_, rfl, by decide, by decide⟩
    obtain ⟨c, rfl, c0, c1⟩ := hd
    walk_at "zgo"
    refine ⟨rs ++ [x + c], h3, by simp, rfl, by simp [rl], ?_, b3.mono (by omega), (k1.trans k2).trans k3⟩
    intro y hy
    rcases List.mem_append.mp hy with hy | hy
    · exact rm y hy
    · rw [List.mem_singleton.mp hy]
      have := sm x hx
      unfold Small1 at this
      unfold Small
      omega
  · rintro acc s ⟨rs, h1, rfl, rfl, rl, rm, b1, k1⟩
    rw [List.length_map] at rl b1
    walk_at "zgo"
    exact q _ _ ⟨rs, rfl, rl, rm⟩ (b1.mono (by omega)) k1
end
theorem Tst.mx {ns : List Str} {h : Hh} {b t n : Nat} {d : D} (k : Tst ns n d) : Mx h b t n d := .pu k.pu
def Val7 (h : Hh) (n t : Nat) (d : D) : Prop := Mx h n t 7 d ∧ notL d
theorem BT6 : BT 6 = 438 := by decide
theorem right_run {n f B : Nat} {ns : List Str} {named : Bool} {h : Hh} {Q : W → S → Prop} {E : XQ} (hb : BoxAt h n B) (hB : B + 2000 < 2 ^ 29) (F : h[f]? = some (fieldsC ns)) (nl : 1 ≤ ns.length ∧ ns.length ≤ 3) (nm : ∀ x ∈ ns, NameS x)
    (q : ∀ h', BoxAt h' n (B + 2000) → Kf h h' → Q (.val (.bl true)) ⟨[], h'⟩) : wpM (m__law_right [.ref n, .ref f, .lst (ns.map .str), .bl named]) ⟨[], h⟩ Q E := by
  obtain ⟨x0, hx0, i0⟩ : ∃ x ∈ ns, ixG (.lst (ns.map .str)) (.int 0) = some (.val (.str x)) := ⟨ns[0], List.getElem_mem _, g_ixL (atI_nat (i := 0) (by simp <;> omega))⟩
  obtain ⟨x1, hx1, i1⟩ : ∃ x ∈ ns, ixG (.lst (ns.map .str)) (.int (-1)) = some (.val (.str x)) := by
    refine ⟨ns[ns.length - 1], List.getElem_mem _, g_ixL ?_⟩
    have e : ns.map D.str = (ns.map D.str).dropLast ++ [D.str ns[ns.length - 1]] := by
      have ne : ns.map D.str ≠ [] := by
        intro z
        have := congrArg List.length z
        simp at this
        rw [this] at nl
        simp at nl
      have z := (List.dropLast_concat_getLast ne).symm
      rw [List.getLast_eq_getElem] at z
      simpa using z
    rw [e]
    exact atI_last
  unfold m__law_right; refine w_fn ?_; dsimp only [b__law_right, env0, List.map, List.length_cons, List.length_nil, List.replicate_succ, List.replicate_zero, List.cons_append, List.nil_append, Nat.reduceSub, Nat.reduceAdd]
  walk_at "zgo"
  refine line_run hb (by omega) ?_
  intro ls h1 l5 sm b1 k1
  have sms : ∀ x ∈ ls, Small x := fun x hx => (sm x hx).s
  walk_at "zgo"
  refine w_take (by assumption) (by omega) (by decide) (by decide) ?_; intro r2 h2 hr2 b2 k2
  walk_at "zgo"
  refine w_ixL (by simp; omega) fun d hd => ?_
  have hd : ∃ c : Nat, d = .int (c : Nat) ∧ 1 ≤ c ∧ c ≤ 6 := by
    simp only [List.mem_cons, List.not_mem_nil, or_false] at hd
    rcases hd with rfl | rfl | rfl | rfl | rfl | rfl | rfl | rfl
    · exact ⟨1, rfl, by decide, by decide⟩
    · exact ⟨2, rfl, by decide, by decide⟩
    · exact ⟨3, rfl, by decide, by decide⟩
    · exact ⟨4, rfl, by decide, by decide⟩
    · exact ⟨5, rfl, by decide, by decide⟩
    · exact ⟨5, rfl, by decide, by decide⟩
    · exact ⟨6, rfl, by decide, by decide⟩
    · exact ⟨2, rfl, by decide, by decide⟩
  obtain ⟨c, rfl, c0, c6⟩ := hd
  have bt : BT c ≤ 438 := BT6 ▸ BT_up c6
  walk_at "zgo"
  refine test_run nl nm l5 sms c 8 _ h2 c0 (by omega) c6 b2 (by omega) ?_
  intro test h3 tt b3 k3
  have b3 : BoxAt h3 n (B + 450) := b3.mono (by omega)
  have k13 := (k1.trans k2).trans k3
  obtain ⟨tds, te, tpr⟩ := tt.tup
  walk_at "zgo"
  refine w_lc (fun i acc s => ∃ (h' : Hh), s = ⟨envR n f ns named (.fz (.lst (ls.map .int))) (.fz (.int (c : Nat))) (.fz test) .un .un .un .un .un .un .un .un .un .un .un .un, h'⟩ ∧ acc.length = i ∧ (∀ d ∈ acc, Rep3 ns.length d) ∧ BoxAt h' n (B + 450 + 10 * i) ∧ Keep n h h') ?_
  walk_at "zgo"
  refine ⟨_, rfl, ⟨by omega, by omega⟩, ?_⟩
  refine ⟨⟨rfl, by rw [rangeL_len, sizeLine_eq]; omega⟩, ⟨h3, rfl, rfl, by simp, b3, k13⟩, ?_, ?_⟩
  · rintro i d acc s hd ⟨h4, rfl, al, ar, b4, k4⟩
    obtain ⟨hlt, rfl⟩ := rangeL_get hd
    have hlt : i < 5 := hlt
    refine ⟨_, rfl, ?_⟩
    dsimp only [List.set_cons_zero, List.set_cons_succ, Cell.toD]
    walk_at "zgo"
    refine row_ok (s9 := _) b4 (by omega) nl l5 sm ?_
    intro d h5 rd b5 k5
    walk_at "zgo"
    refine ⟨h5, rfl, by simp [al], ?_, b5.mono (by omega), k4.trans k5⟩
    intro x hx
    rcases List.mem_append.mp hx with hx | hx
    · exact ar x hx
    · rw [List.mem_singleton.mp hx]; exact rd
  · rintro reps s ⟨h4, rfl, al, ar, b4, k4⟩
    rw [rangeL_len] at al b4
    have al : reps.length = 5 := al
    have b4 : BoxAt h4 n (B + 500) := b4.mono (by omega)
    obtain ⟨truths, et⟩ : ∃ ts : List D, ts = [.tup [.str "is", .str x1, .bl true], .tup [.str "from", .str x0, .bl false, .int 5], .tup [.str "from", .str x0, .int (-5), .bl true], .tup [.str "not", .tup [.str "is", .str x0, .bl false]]] := ⟨_, rfl⟩
    walk_at "zgo"
    rw [← et]
    refine w_lc (fun i acc s => ∃ (h' : Hh), s = ⟨envR n f ns named (.fz (.lst (ls.map .int))) (.fz (.int (c : Nat))) (.fz test) (.ow (.lst reps)) .un .un (.ow (.lst truths)) .un .un .un .un .un .un .un .un, h'⟩ ∧ acc.length = i ∧ (∀ d ∈ acc, Bent h' n c d) ∧ BoxAt h' n (B + 500 + 60 * i) ∧ Keep n h h') ?_
    walk_at "zgo"
    refine ⟨_, rfl, ⟨by omega, by omega⟩, ?_⟩
    refine ⟨⟨rfl, by rw [rangeL_len, sizeLine_eq]; omega⟩, ⟨h4, rfl, rfl, by simp, b4, k4⟩, ?_, ?_⟩
    · rintro i d acc s hd ⟨h5, rfl, bl, br, b5, k5⟩
      obtain ⟨hlt, rfl⟩ := rangeL_get hd
      have hlt : i < 6 := hlt
      have tpu := tt.pu
      subst te
      refine ⟨_, rfl, ?_⟩
      dsimp only [List.set_cons_zero, List.set_cons_succ, Cell.toD]
      unfold l__law_right_3
      walk_at "zgo"
      refine bent_run nl nm l5 sms c 8 _ h5 tds (by omega) c6 tpr tpu b5 (by omega) ?_
      intro d h6 bd b6 k6
      walk_at "zgo"
      refine ⟨h6, rfl, by simp [bl], ?_, b6.mono (by omega), k5.trans k6⟩
      intro x hx
      rcases List.mem_append.mp hx with hx | hx
      · exact ⟨(br x hx).1.keep k6, (br x hx).2⟩
      · rw [List.mem_singleton.mp hx]; exact bd
    · rintro bents s ⟨h5, rfl, bl, br, b5, k5⟩
      rw [rangeL_len] at bl b5
      have bl : bents.length = 6 := bl
      have b5 : BoxAt h5 n (B + 900) := b5.mono (by omega)
      have le1 : ([test] ++ bents).length ≤ 10 := by simp [bl]
      walk_at "zgo"
      refine w_cellM ?_
      walk_at "zgo"
      refine w_eq (a := .val (.dK [] [])) (s1 := ⟨_, _⟩) rfl ?_
      walk_at "zgo"
      refine w_cellM ?_
      walk_at "zgo"
      have tl : truths.length = 4 := by rw [et]; rfl
      have lt5 := b5.lt
      obtain ⟨g1, eg1⟩ : ∃ g : Hh, g = h5 ++ [Cell.lst []] ++ [Cell.lst [.str "any"]] := ⟨_, rfl⟩
      have b6 : BoxAt g1 n (B + 900) := eg1 ▸ b5.push.push
      have k6 : Keep n h5 g1 := eg1 ▸ Keep.push.trans Keep.push
      have r1 : g1[h5.length]? = some (.lst []) := by rw [eg1]; simp
      have r2' : g1[(h5 ++ [Cell.lst []]).length]? = some (.lst [.str "any"]) := by rw [eg1]; simp
      rw [← eg1]
      refine w_take b6 (by omega) (by decide) (by decide) ?_
      intro r7 h7 hr7 b7 k7
      walk_at "zgo"
      refine w_ixL (by simp; omega) fun d hd => ?_
      have any1 : ∀ m, Pu m (.str "any") := fun m => w_pu m (by simp)
      have vd : Val7 h7 n 5 d := by
        have up : Mx g1 n 5 7 d ∧ notL d := by
          simp only [List.mem_cons, List.not_mem_nil, or_false] at hd
          rcases hd with rfl | rfl | rfl | rfl | rfl | rfl | rfl | rfl | rfl
          · exact ⟨.pu .non, trivial⟩
          · exact ⟨.pu (any1 7), trivial⟩
          · exact ⟨.pu (.int (by decide)), trivial⟩
          · exact ⟨.pu (.bl _), trivial⟩
          · exact ⟨.ref r1 (by omega) (by simp) (by simp), trivial⟩
          · exact ⟨.pu .emp, trivial⟩
          · exact ⟨.pu (.tup (by simp) (by simp)), trivial⟩
          · refine ⟨.ref r2' (by simp; omega) (by simp) fun x hx => ?_, trivial⟩
            rw [List.mem_singleton.mp hx]; exact any1 6
          · exact ⟨.pu (w_pu 7 (by simp)), trivial⟩
        exact ⟨up.1.keep k7, up.2⟩
      walk_at "zgo"
      refine w_take (by assumption) (by omega) (by decide) (by decide) ?_; intro r8 h8 hr8 b8 k8
      walk_at "zgo"
      refine w_ixL (by omega) fun tr htr => ?_
      have vt : Val7 h8 n 5 tr := by
        rw [et] at htr
        simp only [List.mem_cons, List.not_mem_nil, or_false] at htr
        have tup3 : ∀ {a b c : D} {m : Nat}, Pu m a → Pu m b → Pu m c → Pu (m + 1) (.tup [a, b, c]) := fun pa pb pc => .tup (by simp) fun x hx => by
          simp only [List.mem_cons, List.not_mem_nil, or_false] at hx
          rcases hx with rfl | rfl | rfl
          · exact pa
          · exact pb
          · exact pc
        have tup4 : ∀ {a b c d : D} {m : Nat}, Pu m a → Pu m b → Pu m c → Pu m d → Pu (m + 1) (.tup [a, b, c, d]) := fun pa pb pc pd => .tup (by simp) fun x hx => by
          simp only [List.mem_cons, List.not_mem_nil, or_false] at hx
          rcases hx with rfl | rfl | rfl | rfl
          · exact pa
          · exact pb
          · exact pc
          · exact pd
        rcases htr with rfl | rfl | rfl | rfl
        · exact ⟨.pu (tup3 (w_pu 6 (by simp)) (name_pu (nm x1 hx1)) (.bl _)), trivial⟩
        · exact ⟨.pu (tup4 (w_pu 6 (by simp)) (name_pu (nm x0 hx0)) (.bl _) (.int (by decide))), trivial⟩
        · exact ⟨.pu (tup4 (w_pu 6 (by simp)) (name_pu (nm x0 hx0)) (.int (by decide)) (.bl _)), trivial⟩
        · refine ⟨.pu (.tup (by simp) fun x hx => ?_), trivial⟩
          simp only [List.mem_cons, List.not_mem_nil, or_false] at hx
          rcases hx with rfl | rfl
          · exact w_pu 6 (by simp)
          · exact tup3 (w_pu 5 (by simp)) (name_pu (nm x0 hx0)) (.bl _)
      have k58 := (k6.trans k7).trans k8
      have kf8 : Kf h h8 := (k5.trans k58).kf hb
      obtain ⟨vs, evs⟩ : ∃ vs : List D, vs = [test] ++ bents ++ [d] ++ [tr] := ⟨_, rfl⟩
      have vl : vs.length = 9 := by rw [evs]; simp [bl]
      have vv : ∀ v ∈ vs, Val7 h8 n 5 v := by
        intro v hv
        rw [evs] at hv
        rcases List.mem_append.mp hv with hv | hv
        · rcases List.mem_append.mp hv with hv | hv
          · rcases List.mem_append.mp hv with hv | hv
            · rw [List.mem_singleton.mp hv]
              exact ⟨.pu (tt.pu.up (by omega)), by rw [te]; trivial⟩
            · exact ⟨((br v hv).1.keep k58).up (by omega), (br v hv).2⟩
          · rw [List.mem_singleton.mp hv]
            exact ⟨vd.1.keep k8, vd.2⟩
        · rw [List.mem_singleton.mp hv]; exact vt
      have b8 : BoxAt h8 n (B + 1000) := b8.mono (by omega)
      have al2 : ([test] ++ bents ++ [d]).length < sizeLine := by rw [sizeLine_eq]; simp [bl]
      walk_at "zgo"
      rw [← evs]
      refine w_for (fun i s => ∃ s7 s12 s13 s14 s15 h', s = ⟨envR n f ns named (.fz (.lst (ls.map .int))) (.fz (.int (c : Nat))) (.fz test) s7 .un .un (.ow (.lst truths)) (.fz (.lst vs)) s12 s13 s14 s15 .un .un .un, h'⟩ ∧ (s7 = .ow (.lst reps) ∨ s7 = .fz (.lst reps)) ∧ BoxAt h' n (B + 1000) ∧ Kf h h' ∧ ∀ v ∈ vs, Val7 h' n (5 + i) v) ?_ ?_ ?_
      · exact ⟨_, _, _, _, _, h8, rfl, .inl rfl, b8, kf8, vv⟩
      · rintro i v s hd ⟨s7, s12, s13, s14, s15, h9, rfl, h7', b9, kf9, vv9⟩
        have il : i < 9 := by rw [← vl]; exact (List.getElem?_eq_some_iff.mp hd).1
        have mv := vv9 v (List.mem_of_getElem? hd)
        refine ⟨_, rfl, ?_⟩
        dsimp only [List.set_cons_zero, List.set_cons_succ, Cell.toD]
        refine turn5_ok (t := 5 + i) (s12 := .un) (kf9 f ns F) nl mv.1 (by omega) mv.2 b9 ar al h7' ?_
        intro s7 s13 s14 s15 h10 h7'' b10 kf10 up
        exact u_next ⟨s7, _, s13, s14, s15, h10, rfl, h7'', b10, kf9.trans kf10, fun w hw => ⟨up w (vv9 w hw).1, (vv9 w hw).2⟩⟩
      · rintro s ⟨s7, s12, s13, s14, s15, h9, rfl, h7', b9, kf9, vv9⟩
        have r0 : ∃ rs : List Int, ixG (.lst reps) (.int 0) = some (.val (.tup (rs.map .int))) ∧ rs.length = ns.length ∧ ∀ x ∈ rs, Small x := by
          have lt : 0 < reps.length := by omega
          obtain ⟨rs, e, l, m⟩ := ar reps[0] (List.getElem_mem lt)
          exact ⟨rs, by rw [← e]; exact g_ixL (atI_nat (i := 0) (List.getElem?_eq_getElem lt)), l, m⟩
        obtain ⟨rs, r0, rl, rm⟩ := r0
        rcases h7' with rfl | rfl <;> (
          walk_at "zgo"
          refine odd_run b9 (by omega) rm ?_
          intro ods h10 ol oo b10 k10
          walk_at "zgo"
          refine mixed_run (P := fun h d => OddR h n rs.length d) (fun o k => o.keep k) b10 (by omega) (by omega) oo ?_
          intro es h11 eo b11 k11
          have cl : (cutL es none (some 3)).length ≤ 3 := cut_head (k := 3)
          walk_at "zgo"
          refine test_run nl nm l5 sms 2 8 _ h11 (by omega) (by omega) (by omega) b11 (by rw [ol]; show _ + 18 + 18 < _; omega) ?_
          intro good h12 tg b12 k12
          have b12 : BoxAt h12 n (B + 1100) := b12.mono (by rw [ol]; show _ + 18 + 18 ≤ _; omega)
          have kf12 : Kf h h12 := kf9.trans (((k10.trans k11).trans k12).kf b9)
          walk_at "zgo"
          refine w_for (fun i s => ∃ s7 s14 s15 s18 h', s = ⟨envR n f ns named (.fz (.lst (ls.map .int))) (.fz (.int (c : Nat))) (.fz test) s7 .un .un (.ow (.lst truths)) (.fz (.lst vs)) s12 s13 s14 s15 (.fz (.lst (cutL es none (some 3)))) (.fz good) s18, h'⟩ ∧ BoxAt h' n (B + 1100) ∧ Kf h h' ∧ ∀ v ∈ cutL es none (some 3), Mx h' n (5 + i) 7 v) ?_ ?_ ?_
          · exact ⟨_, _, _, _, h12, rfl, b12, kf12, fun v hv => ((eo v (cut_sub v hv)).keep k12).1.up (by omega)⟩
          · rintro i v s hd ⟨s7, s14, s15, s18, h13, rfl, b13, kf13, vv13⟩
            have il : i < 3 := Nat.lt_of_lt_of_le (List.getElem?_eq_some_iff.mp hd).1 cl
            have mem := List.mem_of_getElem? hd
            have eov := eo v (cut_sub v mem)
            refine ⟨_, rfl, ?_⟩
            dsimp only [List.set_cons_zero, List.set_cons_succ, Cell.toD]
            refine turn6_ok (t := 5 + i) (kf13 f ns F) nl tg (vv13 v mem) (by omega) eov.2.1 (rl ▸ eov.2.2) b13 ?_
            intro s15 s18 h14 b14 kf14 up
            exact u_next ⟨s7, _, s15, s18, h14, rfl, b14, kf13.trans kf14, fun w hw => up w (vv13 w hw)⟩
          · rintro s ⟨s7, s14, s15, s18, h13, rfl, b13, kf13, vv13⟩
            walk_at "zgo"
            exact q h13 (b13.mono (by omega)) kf13)
def PairAt (h : Hh) (p : D) : Prop := ∃ (f : Nat) (xs : List Str), p = .lst [.ref f, .lst (xs.map .str)] ∧ h[f]? = some (fieldsC xs) ∧ (1 ≤ xs.length ∧ xs.length ≤ 3) ∧ ∀ x ∈ xs, NameS x
theorem PairAt.kf {h h' : Hh} {p : D} (k : PairAt h p) (kf : Kf h h') : PairAt h' p := by
  obtain ⟨f, xs, e, g, r⟩ := k
  exact ⟨f, xs, e, kf f xs g, r⟩
theorem Kf.push {h : Hh} {c : Cell} : Kf h (h ++ [c]) := fun f ns e => by
  have lt : f < h.length := (List.getElem?_eq_some_iff.mp e).1
  rw [List.getElem?_append_left lt]
  exact e
theorem law_ok (ns : List Int) (hl : ns.length ≤ 63) : ∃ s1, m_law [.scr (ns.map .int)] ⟨[], []⟩ = .ok (.val (.bl true)) s1 := by
  have key : wpM (m_law [.scr (ns.map .int)]) ⟨[], []⟩ (fun w _ => w = .val (.bl true)) noX := by
    have top : ∃ j : Int, maxG [.int 2, .int (if (ns.length : Int) < 4 then (ns.length : Int) else 4)] = some (.val (.int j)) ∧ 0 ≤ j ∧ j ≤ 4 := by
      by_cases q : (ns.length : Int) < 4
      · rw [if_pos q]
        by_cases q2 : (2 : Int) < ns.length
        · exact ⟨ns.length, by show some (W.val (.int (if (2 : Int) < (ns.length : Int) then (ns.length : Int) else 2))) = _; rw [if_pos q2], by omega, by omega⟩
        · exact ⟨2, by show some (W.val (.int (if (2 : Int) < (ns.length : Int) then (ns.length : Int) else 2))) = _; rw [if_neg q2], by omega, by omega⟩
      · rw [if_neg q]
        exact ⟨4, rfl, by decide, by decide⟩
    obtain ⟨j, ej, j0, j4⟩ := top
    have em : minG [.int 4, .int (ns.length : Int)] = some (.val (.int (if (ns.length : Int) < 4 then (ns.length : Int) else 4))) := rfl
    have ll : (ns.map D.int).length = ns.length := List.length_map ..
    rw [← ll] at em ej
    unfold m_law; refine w_fn ?_; dsimp only [b_law, env0, List.map, List.length_cons, List.length_nil, List.replicate_succ, List.replicate_zero, List.cons_append, List.nil_append, Nat.reduceSub, Nat.reduceAdd]
    walk_at "zgo"
    refine ⟨_, rfl, ⟨by omega, by omega⟩, ?_⟩
    refine w_for (fun i s => ∃ s1 s2 s3 s4 s5 s6 s7 h', s = ⟨[.fz (.scr (ns.map .int)), s1, s2, s3, s4, s5, s6, s7], h'⟩) ⟨_, _, _, _, _, _, _, _, rfl⟩ ?_ ?_
    · rintro i d s hd ⟨s1, s2, s3, s4, s5, s6, s7, h0, rfl⟩
      obtain ⟨hlt, rfl⟩ := rangeL_get hd
      refine ⟨_, rfl, ?_⟩
      dsimp only [List.set_cons_zero, List.set_cons_succ, Cell.toD]
      unfold l_law_3
      have ei : (0 : Int) + (i : Int) = (i : Nat) := by omega
      rw [ei]
      obtain ⟨g, cg⟩ := cell_run h0 ns i (by omega)
      obtain ⟨a, b, m, cb, m0, m1⟩ := box_run h0 g
      have b0 := box_at h0 (a := a) (b := b) m0 m1
      walk_at "zgo"
      refine w_cellM ?_
      walk_at "zgo"
      refine w_eq cg ?_
      walk_at "zgo"
      refine w_eq cb ?_
      walk_at "zgo"
      refine ⟨_, rfl, ⟨by omega, by omega⟩, ?_⟩
      obtain ⟨n, en⟩ : ∃ n, n = h0.length := ⟨_, rfl⟩
      rw [← en] at b0 ⊢
      refine w_for (fun k s => ∃ s4 s5 s6 s7 h' ps, s = ⟨[.fz (.scr (ns.map .int)), .fz (.int (i : Nat)), .fz (.ref n), .ow (.lst ps), s4, s5, s6, s7], h'⟩ ∧ ps.length = k ∧ BoxAt h' n (100 * k) ∧ ∀ p ∈ ps, PairAt h' p) ⟨_, _, _, _, _, [], rfl, rfl, b0, by simp⟩ ?_ ?_
      · rintro k d s hd ⟨s4, s5, s6, s7, h1, ps, rfl, pl, b1, pp⟩
        obtain ⟨hk, rfl⟩ := rangeL_get hd
        have hk : k < 2 := hk
        refine ⟨_, rfl, ?_⟩
        dsimp only [List.set_cons_zero, List.set_cons_succ, Cell.toD]
        unfold l_law_1
        have psl : ps.length < sizeLine := by rw [sizeLine_eq]; omega
        walk_at "zgo"
        refine w_take (by assumption) (by omega) (by decide) (by decide) ?_; intro r h2 hr b2 k2
        walk_at "zgo"
        have er : (1 : Int) + (r : Nat) = ((1 + r : Nat) : Int) := by omega
        rw [er]
        refine names_ok b2 (by omega) (1 + r) (by omega) ?_
        intro xs h3 xl nd nm b3 k3
        walk_at "zgo"
        refine fields_init nd (by omega) (by omega) nm ?_
        refine ⟨rfl, ?_⟩
        walk_at "zgo"
        have kf : Kf h1 (h3 ++ [fieldsC xs]) := ((k2.trans k3).kf b1).trans Kf.push
        refine ⟨_, _, _, _, _, ps ++ [.lst [.ref h3.length, .lst (xs.map .str)]], rfl, by simp [pl], b3.push.mono (by omega), ?_⟩
        intro p hp
        rcases List.mem_append.mp hp with hp | hp
        · exact (pp p hp).kf kf
        · rw [List.mem_singleton.mp hp]
          exact ⟨_, xs, rfl, get_last, by omega, nm⟩
      · rintro s ⟨s4, s5, s6, s7, h1, ps, rfl, pl, b1, pp⟩
        rw [rangeL_len] at pl b1
        have pl : ps.length = 2 := pl
        have b1 : BoxAt h1 n 200 := b1
        walk_at "zgo"
        refine ⟨_, rfl, ⟨by omega, by omega⟩, ?_⟩
        refine w_for (fun k s => ∃ s5 s6 s7 h', s = ⟨[.fz (.scr (ns.map .int)), .fz (.int (i : Nat)), .fz (.ref n), .ow (.lst ps), s4, s5, s6, s7], h'⟩ ∧ BoxAt h' n (200 + 3000 * k) ∧ ∀ p ∈ ps, PairAt h' p) ⟨_, _, _, _, rfl, b1, pp⟩ ?_ ?_
        · rintro k d s hd ⟨s5, s6, s7, h2, rfl, b2, pp2⟩
          obtain ⟨hk, rfl⟩ := rangeL_get hd
          have hk : k < 4 := hk
          refine ⟨_, rfl, ?_⟩
          dsimp only [List.set_cons_zero, List.set_cons_succ, Cell.toD]
          unfold l_law_2
          walk_at "zgo"
          have ek : ((0 : Int) + (k : Nat)) % 2 = ((k % 2 : Nat) : Int) := by omega
          rw [ek]
          refine w_ixL (by omega) fun p hp => ?_
          obtain ⟨f, xs, rfl, fc, xl, nm⟩ := pp2 p hp
          walk_at "zgo"
          refine ⟨_, rfl, ?_⟩
          walk_at "zgo"
          refine w_take (by assumption) (by omega) (by decide) (by decide) ?_; intro r h3 hr b3 k3
          walk_at "zgo"
          refine right_run b3 (by omega) ((k3.kf b2) f xs fc) xl nm ?_
          intro h4 b4 kf4
          walk_at "zgo"
          exact ⟨_, _, _, h4, rfl, b4.mono (by omega), fun p hp => (pp2 p hp).kf ((k3.kf b2).trans kf4)⟩
        · rintro s ⟨s5, s6, s7, h2, rfl, b2, pp2⟩
          exact u_next ⟨_, _, _, _, _, _, _, h2, rfl⟩
    · rintro s ⟨s1, s2, s3, s4, s5, s6, s7, h0, rfl⟩
      walk_at "zgo"
  obtain ⟨w, s1, e, rfl⟩ := w_get key
  exact ⟨s1, e⟩
end Z

namespace Z
open PySem L2
theorem fin {P : Program} {w : World} {K : PySem.W.Frag} {mg : Str → Option Value} {h : Heap} {fa : Addr} (X : K.In h) (G : h.Ns mainGlobals mg) (hfa : mg "law" = some (.ref fa)) (T : Txt w K mg) :
    ∃ fd : FuncData, (∀ (s : Shared) (u : Value), BindsTo s fd ⟨[u], []⟩ [("script", u)]) ∧ ∀ base : Heap, K.In base → base.Ns mainGlobals mg → FnG P w K mg base 17 fa fd ["script"] (spLaw K) :=
  end_of T.f_law bi_law hfa (fun base => d_all T) law_ok
end Z
open PySem PySem.W PyProof.Rows in
set_option maxRecDepth 100000 in
set_option maxHeartbeats 0 in
theorem PySem.Challenge.cw_notwoshare_k38_tests_and_what_passes_holds : PySem.Challenge.rw_notwoshare_k38_tests_and_what_passes.Holds := by
  w_on; o_law; k_head; (case hw => w_witness2)
  k_fill
  refine Z.walk (l := PySem.Challenge.rw_notwoshare_k38_tests_and_what_passes) (k := 17) rfl rfl ⟨⟨rfl, by decide, by decide⟩, rfl⟩ (fun w h Y => PySem.W.kIn_of Y) ?F
  case F =>
    intro w mg fa h KX G hmg
    refine Z.fin KX G hmg ?T
    case T =>
      constructor
      case b_abs => refine' PySem.W.mg_none_of KX G ?a; (case a => k_is)
      case b_all => refine' PySem.W.mg_none_of KX G ?a; (case a => k_is)
      case b_bool => refine' PySem.W.mg_none_of KX G ?a; (case a => k_is)
      case b_enumerate => refine' PySem.W.mg_none_of KX G ?a; (case a => k_is)
      case b_int => refine' PySem.W.mg_none_of KX G ?a; (case a => k_is)
      case b_isinstance => refine' PySem.W.mg_none_of KX G ?a; (case a => k_is)
      case b_len => refine' PySem.W.mg_none_of KX G ?a; (case a => k_is)
      case b_list => refine' PySem.W.mg_none_of KX G ?a; (case a => k_is)
      case b_max => refine' PySem.W.mg_none_of KX G ?a; (case a => k_is)
      case b_min => refine' PySem.W.mg_none_of KX G ?a; (case a => k_is)
      case b_range => refine' PySem.W.mg_none_of KX G ?a; (case a => k_is)
      case b_repr => refine' PySem.W.mg_none_of KX G ?a; (case a => k_is)
      case b_set => refine' PySem.W.mg_none_of KX G ?a; (case a => k_is)
      case b_str => refine' PySem.W.mg_none_of KX G ?a; (case a => k_is)
      case b_sum => refine' PySem.W.mg_none_of KX G ?a; (case a => k_is)
      case b_tuple => refine' PySem.W.mg_none_of KX G ?a; (case a => k_is)
      case c_LETTERS => refine' Z.str_mk KX G ?a; (case a => k_is)
      case c_MOST_DEPTH => refine' Z.int_mk KX G ?a; (case a => k_is)
      case c_MOST_FIELDS => refine' Z.int_mk KX G ?a; (case a => k_is)
      case c_MOST_LETTERS => refine' Z.int_mk KX G ?a; (case a => k_is)
      case c_NO_NAMES => refine' Z.tup_mk KX G ?a ?l ?r ?z; (case a => k_is); (case l => k_is); (case r => exact .str (.str (.str (.str (.str (.str (Z.DVs.nil))))))); (case z => decide)
      case t_INTEGERS_WITHIN => refine' Z.dtab_mk KX G ?a ?l ?k ?r ?o; (case a => k_is); (case l => k_is); (case k => k_keys); (case r => exact (.cons (.cons .nil))); (case o => decide)
      case t_TESTS_WITHIN => refine' Z.dtab_mk KX G ?a ?l ?k ?r ?o; (case a => k_is); (case l => k_is); (case k => k_keys); (case r => exact (.cons (.cons (.cons .nil)))); (case o => decide)
      case cl_Fields => refine' Z.clk_mk KX G ?a ?pg ?hd ?po ?sa; (case a => k_is); (case pg => k_is); (case hd => k_is); (case po => k_is); (case sa => k_is)
      case k_InvalidReport => refine' Z.cls_mk KX G ?a; (case a => k_is)
      case k_InvalidTest => refine' Z.cls_mk KX G ?a; (case a => k_is)
      case a_many => refine Z.atT_cons ?e ?r; (case e => refine' Z.at_mk KX G ?a ?pg ?hd ?po ?sa ?no; (case a => k_is); (case pg => k_is); (case hd => k_is); (case po => k_is); (case sa => k_is); (case no => k_is)); (case r => exact Z.atT_nil)
      case a_names => refine Z.atT_cons ?e ?r; (case e => refine' Z.at_mk KX G ?a ?pg ?hd ?po ?sa ?no; (case a => k_is); (case pg => k_is); (case hd => k_is); (case po => k_is); (case sa => k_is); (case no => k_is)); (case r => exact Z.atT_nil)
      case a_places => refine Z.atT_cons ?e ?r; (case e => refine' Z.at_mk KX G ?a ?pg ?hd ?po ?sa ?no; (case a => k_is); (case pg => k_is); (case hd => k_is); (case po => k_is); (case sa => k_is); (case no => k_is)); (case r => exact Z.atT_nil)
      case ex => refine Z.exT_cons ?e ?r; (case e => refine' Z.ex_mk KX G ?a1 ?a2 ?h1 ?hd ?ht ?h4; (case a1 => k_is); (case a2 => k_is); (case h1 => k_is); (case hd => k_is); (case ht => k_is); (case h4 => k_is)); (case r => refine Z.exT_cons ?e ?r; (case e => refine' Z.ex_mk KX G ?a1 ?a2 ?h1 ?hd ?ht ?h4; (case a1 => k_is); (case a2 => k_is); (case h1 => k_is); (case hd => k_is); (case ht => k_is); (case h4 => k_is)); (case r => refine Z.exT_cons ?e ?r; (case e => refine' Z.ex_mk KX G ?a1 ?a2 ?h1 ?hd ?ht ?h4; (case a1 => k_is); (case a2 => k_is); (case h1 => k_is); (case hd => k_is); (case ht => k_is); (case h4 => k_is)); (case r => refine Z.exT_cons ?e ?r; (case e => refine' Z.ex_mk KX G ?a1 ?a2 ?h1 ?hd ?ht ?h4; (case a1 => k_is); (case a2 => k_is); (case h1 => k_is); (case hd => k_is); (case ht => k_is); (case h4 => k_is)); (case r => exact Z.exT_nil))))
      case is => refine Z.isT_cons ?e ?r; (case e => refine' Z.is_mk KX G ?a1 ?a2 ?hi0 ?ht ?h4 ?ne; (case a1 => k_is); (case a2 => k_is); (case hi0 => k_is); (case ht => k_is); (case h4 => k_is); (case ne => decide)); (case r => refine Z.isT_cons ?e ?r; (case e => refine' Z.is_mk KX G ?a1 ?a2 ?hi0 ?ht ?h4 ?ne; (case a1 => k_is); (case a2 => k_is); (case hi0 => k_is); (case ht => k_is); (case h4 => k_is); (case ne => decide)); (case r => exact Z.isT_nil))
      case xf_given => refine Z.xfT_cons ?e ?r; (case e => refine' Z.xf_mk KX G ?a ?ga ?gg ?ex ?hd ?no; (case a => k_is); (case ga => k_is); (case gg => k_is); (case ex => k_is); (case hd => k_is); (case no => k_is)); (case r => refine Z.xfT_cons ?e ?r; (case e => refine' Z.xf_mk KX G ?a ?ga ?gg ?ex ?hd ?no; (case a => k_is); (case ga => k_is); (case gg => k_is); (case ex => k_is); (case hd => k_is); (case no => k_is)); (case r => exact Z.xfT_nil))
      case e_InvalidReport => refine' Z.fctE_mk KX G Z.bi_E_InvalidReport ?aC ?aS ?cl ?sa ?eC ?tC ?kC ?no ?sg ?sr ?sf ?a ?t ?l ?c ?k; (case aC => k_is); (case aS => k_is); (case cl => k_is); (case sa => k_is); (case eC => k_is); (case tC => k_is); (case kC => k_is); (case no => k_is); (case sg => k_is); (case sr => k_is); (case sf => k_is); (case a => k_is); (case t => k_is); (case l => k_is); (case c => k_is); (case k => k_is)
      case e_InvalidTest => refine' Z.fctE_mk KX G Z.bi_E_InvalidTest ?aC ?aS ?cl ?sa ?eC ?tC ?kC ?no ?sg ?sr ?sf ?a ?t ?l ?c ?k; (case aC => k_is); (case aS => k_is); (case cl => k_is); (case sa => k_is); (case eC => k_is); (case tC => k_is); (case kC => k_is); (case no => k_is); (case sg => k_is); (case sr => k_is); (case sf => k_is); (case a => k_is); (case t => k_is); (case l => k_is); (case c => k_is); (case k => k_is)
      case f_is_whole => refine' Z.fct_mk KX G Z.bi_is_whole ?a ?l ?c ?k; (case a => k_is); (case l => k_is); (case c => k_is); (case k => k_is)
      case f_is_listed => refine' Z.fct_mk KX G Z.bi_is_listed ?a ?l ?c ?k; (case a => k_is); (case l => k_is); (case c => k_is); (case k => k_is)
      case f_is_tuple_of => refine' Z.fct_mk KX G Z.bi_is_tuple_of ?a ?l ?c ?k; (case a => k_is); (case l => k_is); (case c => k_is); (case k => k_is)
      case f_are_whole => refine' Z.fct_mk KX G Z.bi_are_whole ?a ?l ?c ?k; (case a => k_is); (case l => k_is); (case c => k_is); (case k => k_is)
      case f_is_word => refine' Z.fct_mk KX G Z.bi_is_word ?a ?l ?c ?k; (case a => k_is); (case l => k_is); (case c => k_is); (case k => k_is)
      case f_is_name => refine' Z.fct_mk KX G Z.bi_is_name ?a ?l ?c ?k; (case a => k_is); (case l => k_is); (case c => k_is); (case k => k_is)
      case f_are_unlike => refine' Z.fct_mk KX G Z.bi_are_unlike ?a ?l ?c ?k; (case a => k_is); (case l => k_is); (case c => k_is); (case k => k_is)
      case f_are_unlike_names => refine' Z.fct_mk KX G Z.bi_are_unlike_names ?a ?l ?c ?k; (case a => k_is); (case l => k_is); (case c => k_is); (case k => k_is)
      case f_Fields_init => refine' Z.fctC_mk KX G Z.bi_Fields_init ?aC ?a ?l ?c ?k ?mk ?i ?kC; (case aC => k_is); (case a => k_is); (case l => k_is); (case c => k_is); (case k => k_is); (case mk => k_is); (case i => k_is); (case kC => k_is)
      case f_Fields_is_report => refine' Z.fctM_mk KX G Z.bi_Fields_is_report ?aC ?a ?l ?c ?k ?i; (case aC => k_is); (case a => k_is); (case l => k_is); (case c => k_is); (case k => k_is); (case i => k_is)
      case f_is_field => refine' Z.fct_mk KX G Z.bi_is_field ?a ?l ?c ?k; (case a => k_is); (case l => k_is); (case c => k_is); (case k => k_is)
      case f_check_report => refine' Z.fct_mk KX G Z.bi_check_report ?a ?l ?c ?k; (case a => k_is); (case l => k_is); (case c => k_is); (case k => k_is)
      case f_is_plain => refine' Z.fct_mk KX G Z.bi_is_plain ?a ?l ?c ?k; (case a => k_is); (case l => k_is); (case c => k_is); (case k => k_is)
      case f_is_test_of => refine' Z.fct_mk KX G Z.bi_is_test_of ?a ?l ?c ?k; (case a => k_is); (case l => k_is); (case c => k_is); (case k => k_is)
      case f_is_test => refine' Z.fct_mk KX G Z.bi_is_test ?a ?l ?c ?k; (case a => k_is); (case l => k_is); (case c => k_is); (case k => k_is)
      case f_check_test => refine' Z.fct_mk KX G Z.bi_check_test ?a ?l ?c ?k; (case a => k_is); (case l => k_is); (case c => k_is); (case k => k_is)
      case f_value_at => refine' Z.fct_mk KX G Z.bi_value_at ?a ?l ?c ?k; (case a => k_is); (case l => k_is); (case c => k_is); (case k => k_is)
      case f_does_pass => refine' Z.fct_mk KX G Z.bi_does_pass ?a ?l ?c ?k; (case a => k_is); (case l => k_is); (case c => k_is); (case k => k_is)
      case f_passes => refine' Z.fct_mk KX G Z.bi_passes ?a ?l ?c ?k; (case a => k_is); (case l => k_is); (case c => k_is); (case k => k_is)
      case f__law_cell => refine' Z.fct_mk KX G Z.bi__law_cell ?a ?l ?c ?k; (case a => k_is); (case l => k_is); (case c => k_is); (case k => k_is)
      case f__law_box => refine' Z.fct_mk KX G Z.bi__law_box ?a ?l ?c ?k; (case a => k_is); (case l => k_is); (case c => k_is); (case k => k_is)
      case f__law_take => refine' Z.fct_mk KX G Z.bi__law_take ?a ?l ?c ?k; (case a => k_is); (case l => k_is); (case c => k_is); (case k => k_is)
      case f__law_mixed => refine' Z.fct_mk KX G Z.bi__law_mixed ?a ?l ?c ?k; (case a => k_is); (case l => k_is); (case c => k_is); (case k => k_is)
      case f__law_names => refine' Z.fct_mk KX G Z.bi__law_names ?a ?l ?c ?k; (case a => k_is); (case l => k_is); (case c => k_is); (case k => k_is)
      case f__law_same => refine' Z.fct_mk KX G Z.bi__law_same ?a ?l ?c ?k; (case a => k_is); (case l => k_is); (case c => k_is); (case k => k_is)
      case f__law_very => refine' Z.fct_mk KX G Z.bi__law_very ?a ?l ?c ?k; (case a => k_is); (case l => k_is); (case c => k_is); (case k => k_is)
      case f__law_line => refine' Z.fct_mk KX G Z.bi__law_line ?a ?l ?c ?k; (case a => k_is); (case l => k_is); (case c => k_is); (case k => k_is)
      case f__law_leaf => refine' Z.fct_mk KX G Z.bi__law_leaf ?a ?l ?c ?k; (case a => k_is); (case l => k_is); (case c => k_is); (case k => k_is)
      case f__law_test => refine' Z.fct_mk KX G Z.bi__law_test ?a ?l ?c ?k; (case a => k_is); (case l => k_is); (case c => k_is); (case k => k_is)
      case f__law_is_int => refine' Z.fct_mk KX G Z.bi__law_is_int ?a ?l ?c ?k; (case a => k_is); (case l => k_is); (case c => k_is); (case k => k_is)
      case f__law_is_test => refine' Z.fct_mk KX G Z.bi__law_is_test ?a ?l ?c ?k; (case a => k_is); (case l => k_is); (case c => k_is); (case k => k_is)
      case f__law_passes => refine' Z.fct_mk KX G Z.bi__law_passes ?a ?l ?c ?k; (case a => k_is); (case l => k_is); (case c => k_is); (case k => k_is)
      case f__law_judged => refine' Z.fct_mk KX G Z.bi__law_judged ?a ?l ?c ?k; (case a => k_is); (case l => k_is); (case c => k_is); (case k => k_is)
      case f__law_passed => refine' Z.fct_mk KX G Z.bi__law_passed ?a ?l ?c ?k; (case a => k_is); (case l => k_is); (case c => k_is); (case k => k_is)
      case f__law_bent => refine' Z.fct_mk KX G Z.bi__law_bent ?a ?l ?c ?k; (case a => k_is); (case l => k_is); (case c => k_is); (case k => k_is)
      case f__law_odd_reports => refine' Z.fct_mk KX G Z.bi__law_odd_reports ?a ?l ?c ?k; (case a => k_is); (case l => k_is); (case c => k_is); (case k => k_is)
      case f__law_right => refine' Z.fct_mk KX G Z.bi__law_right ?a ?l ?c ?k; (case a => k_is); (case l => k_is); (case c => k_is); (case k => k_is)
      case f_law => refine' Z.fct_mk KX G Z.bi_law ?a ?l ?c ?k; (case a => k_is); (case l => k_is); (case c => k_is); (case k => k_is)
      case fk_is_test__value_fields => refine' Z.fctK_mk KX G Z.bk_is_test__value_fields ?a ?l ?c ?k; (case a => k_is); (case l => k_is); (case c => k_is); (case k => k_is)
      case fk_passes__report_test_fields => refine' Z.fctK_mk KX G Z.bk_passes__report_test_fields ?a ?l ?c ?k; (case a => k_is); (case l => k_is); (case c => k_is); (case k => k_is)
